import PyProof.Rows.All
import Wide.All
import OpenK.AllK
import Wide.FinOn
import HandS.ForMost
import HandS.ForExc
import HandS.ExcInit
import HandS.ExcField
import KE.KExcSuper
import HandS.Star
import HandS.IsInst
import HandS.Style
import HandS.OwnEq
import KE.KOpsOwn
import PyProof.AutoFloatOps
import HandS.Evl
import HandS.Wide
import HandS.Zip
import PySem.Challenge.RW_loopsize_k21_sums_and_conditions
set_option Elab.async false
set_option linter.all false
set_option maxRecDepth 100000
set_option maxHeartbeats 4000000
namespace PySem
namespace ErrX
open PySem.W PySem.Calls PyProof.Rows PySem.HandSPX L2

/-- self.f = f; .. -/
inductive Sets : List Str → List Stmt → Prop
  | nil : Sets [] []
  | cons {f : Str} {fs : List Str} {rest : List Stmt} {q1 q2 q3 q4 : Pos} : Sets fs rest → Sets (f :: fs) (.Assign [.Attribute (.Name "self" q1) f q2] (.Name f q3) q4 :: rest)

/-- super().__init__('..') first, then the fields -/
def SupBody (fs : List Str) (body : List Stmt) : Prop := ∃ (p0 p1 p2 p3 p4 p5 : Pos) (txt : Str) (k : Nat) (rest : List Stmt),
  body = .Expr (.Call (.Attribute (.Call (.Name "super" p0) [] [] p1) "__init__" p2) [.Constant (.str txt) k p3] [] p4) p5 :: rest ∧ Sets fs rest ∧
  ∃ pl : Env → Sem Bool, ∀ env : Env, eval (.Call (.Attribute (.Call (.Name "super" p0) [] [] p1) "__init__" p2) [.Constant (.str txt) k p3] [] p4) env = (do
      let ov ← attributeBase (.Call (.Name "super" p0) [] [] p1) "__init__" env (eval (.Call (.Name "super" p0) [] [] p1) env)
      standAt p2.atName
      let (f, first) ← holding [ov] (getMethod ov "__init__" (pl env))
      callWith p4 f first (backTo p4 (starEach [.Constant (.str txt) k p3] env)) [])

structure ErrTxt (P : Program) (K : Frag) (mg : Str → Option Value) (x : Str) (C fI : Addr) (fs : List Str) : Prop where
  gC : mg x = some (.ref C)
  cls : ∃ nm q N bs bm sn sub ab col dd k0 k1 k2 k3 k5, K.lookup C = some (excClassObj nm q C N bs bm true sn sub ab col dd k0 k1 k2 k3 k5 "ValueError.__new__") ∧ refsVE bm = true
  sa : findIn K (.ref C) "__setattr__" = some (some (.builtin "object.__setattr__"))
  noF : ∀ f ∈ fs, findIn K (.ref C) f = some none
  iC : findIn K (.ref C) "__init__" = some (some (.ref fI))
  tC : typeIn K (.ref fI) = some (.type "function")
  kC : keepIn K (.ref C) = true
  exC : subIn K (.ref C) (.type "BaseException") = some true
  veC : subIn K (.ref C) (.type "ValueError") = some true
  tyC : typeIn K (.ref C) = some (.type "type")
  sup : nsIn K mainGlobals "super" = some none
  opq : nsIn K cStatics "thirdparty.any" = some none
  spI : ks_superIn K C C "__init__" = some (some (.builtin "ValueError.__init__"))
  mrC : mroIn K C (.ref C) = some true
  top : (P.main.scope.names.lookup ("super" : Str)).isSome = false
  fn : ∃ (oc : Value) (od : Option Addr) (osl : Array (Option Value)) (qual : Str) (st : Stmt) (kV doc pm : Value) (an : Option Addr) (ct : Value) (cc cda : Addr) (ccl cl : Value) (cdd cld : Option Addr) (ccs csl : Array (Option Value)) (vs : Array Value) (file : Str) (tf : Tok) (ar : Arg) (args : List Arg),
    K.lookup fI = some ⟨oc, od, .func (ksFn "__init__" qual (defArgs st) (defBody st) (defScope st) .none kV doc pm an (.ref cda) ct cc), osl⟩ ∧ codeIn K (.ref cda) qual = true ∧
    K.lookup cda = some ⟨ccl, cdd, .fields vs, ccs⟩ ∧ vs[2]? = some (.str file tf) ∧ ((P.main.file : Str) == file) = true ∧
    K.lookup cc = some ⟨cl, cld, .cell (some (.ref C)), csl⟩ ∧
    SupBody fs (defBody st) ∧ ((defArgs st).posonlyargs ++ (defArgs st).args).head? = some ar ∧ ar.arg = "self" ∧
    (∀ us : List Value, us.length = fs.length + 1 → bindArgs (ksFn "__init__" qual (defArgs st) (defBody st) (defScope st) .none kV doc pm an (.ref cda) ct cc) ⟨us, []⟩ = pure ((("self" : Str) :: fs).zip us)) ∧
    (defScope st).names.lookup ("super" : Str) = some .globalImplicit ∧ (defScope st).names.lookup ("__class__" : Str) = some .free ∧ (∀ f ∈ ("self" : Str) :: fs, (defScope st).names.lookup f = some .local) ∧
    (defScope st).kind = .function ∧ (∀ x ∈ (defScope st).names, x.2 ≠ .cell) ∧ (defScope st).isCoroutine = false ∧ (defScope st).isGenerator = false ∧ (("self" : Str) :: fs).Nodup ∧ (∀ f ∈ ("self" : Str) :: fs, (f == ("__debug__" : Str)) = false)

/-- the fields' values, one stored behind the other -/
def setAll (m : Str → Option Value) : List Str → List Value → Str → Option Value
  | f :: fs, u :: us => setAll (fun y => if y = f then some u else m y) fs us
  | _, _ => m
def setL (acc : List (Str × V)) : List Str → List V → List (Str × V)
  | f :: fs, v :: vs => setL ((f, v) :: acc) fs vs
  | _, _ => acc
theorem setL_rel : ∀ {fs : List Str} {vs : List V} {us : List Value} {acc : List (Str × V)} {m : Str → Option Value}, Vals vs us → (∀ f, RelO (acc.lookup f) (m f)) → ∀ f, RelO ((setL acc fs vs).lookup f) (setAll m fs us f)
  | [], _, _, _, _, _, r, f => by
    unfold setL setAll
    exact r f
  | g :: fs, _, _, _, _, .nil, r, f => by
    unfold setL setAll
    exact r f
  | g :: fs, _, _, _, _, .cons rv rs, r, f => by
    unfold setL setAll
    exact setL_rel rs (fun y => relO_put rv r y) f
/-- the exception at x: no field yet | the fields m0 (names nl) in the dict at dx, that lies above z -/
def XAt (h : Heap) (x C z : Addr) (m0 : Str → Option Value) (nl : List Str) : Prop :=
  (∃ t1 : Addr, h.get? x = some { cls := .ref C, data := .fields #[.ref t1, .none, .none, .none, .bool false, .none] } ∧ (∀ y, m0 y = none) ∧ nl = []) ∨
  ∃ (t1 dx : Addr), h.get? x = some { cls := .ref C, dict := some dx, data := .fields #[.ref t1, .none, .none, .none, .bool false, .none] } ∧ z ≤ dx ∧ dx ≠ x ∧ h.Ns1 dx m0 ∧ Within m0 nl
structure InitEnd (h h' : Heap) (x C : Addr) (fs : List Str) (us : List Value) : Prop where
  keep : ∀ b o, b ≠ x → h.get? b = some o → h'.get? b = some o
  obj : ∃ nl, XAt h' x C h.objs.size (setAll (fun _ => none) fs us) nl

theorem ld {M : Model} {s : Shared} {env : Env} {m : Str → Option Value} {x : Str} {pos : Pos} {v : Value} {Q : Value → Shared → Prop} {A : Around} {E : Value → Shared → Prop} (hn : s.heap.Ns env.locals m) (hv : m x = some v) (h : Q v s)
    (hk : env.scope.kind = .function) (hl : env.kindOf x = some .local) (hd : (x == ("__debug__" : Str)) = false) :
    wpAny M A (eval (.Name x pos) env) Q E s := wpAny_Name (wpAny_loadName_local hk hl hn hv h) hd
section
variable {prog : Program} {w : World} {A : Around} {E : Value → Shared → Prop} {K : Frag} {mg : Str → Option Value} {C fI : Addr} {nm : Str} {fs0 : List Str}
theorem sets_run (T : ErrTxt prog K mg nm C fI fs0) {env : Env} {x z : Addr} {m : Str → Option Value} {Q : Flow → Shared → Prop} (hk : env.scope.kind = .function) (hself : m "self" = some (.ref x)) (hls : env.kindOf "self" = some .local) (hlz : env.locals < z) (hxL : x ≠ env.locals) (Kx : ∀ b o, K.lookup b = some o → b ≠ x ∧ b < z) :
    ∀ {fs : List Str} {rest : List Stmt} {us : List Value} {m0 : Str → Option Value} {nl : List Str} {s : Shared}, Sets fs rest → us.length = fs.length → nl.length + fs.length ≤ 900 → (∀ f ∈ fs, f ∈ fs0) → (∀ f ∈ fs, env.kindOf f = some .local ∧ (f == ("__debug__" : Str)) = false) →
      (∀ (i : Nat) (f : Str) (u : Value), fs[i]? = some f → us[i]? = some u → m f = some u) → K.In s.heap → z ≤ s.heap.objs.size → s.heap.Ns env.locals m → XAt s.heap x C z m0 nl →
      (∀ h' tk nl', (∀ b o, b ≠ x → b < z → s.heap.get? b = some o → h'.get? b = some o) → XAt h' x C z (setAll m0 fs us) nl' → Q .next { s with heap := h', toks := tk }) →
      wpAny (model prog w) A (execs rest env) Q E s
  | _, _, us, m0, nl, s, .nil, hl, hn, _, _, _, _, _, _, hx, q => by
    have e : us = [] := List.length_eq_zero_iff.mp hl
    subst e
    exact wpAny_execs_nil (q s.heap s.toks nl (fun _ _ _ _ h => h) hx)
  | _, _, [], m0, nl, s, .cons S, hl, _, _, _, _, _, _, _, _, _ => by cases hl
  | _, _, u :: us, m0, nl, s, .cons (f := f) (fs := fs) (rest := rest) S, hl, hn, hf0, hfl, hm, X, hz, N, hx, q => by
    obtain ⟨nm', q', N', bs, bm, sn, sub, ab, col, dd, k0, k1, k2, k3, k5, hC, hbm⟩ := T.cls
    have hcl : clsIn K C = some { name := nm', bases := bs, mro := .ref C :: bm, ns := N', qualname := q', hasDict := true, slotNames := sn, subclasses := sub, abstract := ab, collection := col, hasDel := false } := by unfold clsIn; rw [hC] <;> rfl
    have hnof := T.noF f (hf0 f List.mem_cons_self)
    have hlf := hfl f List.mem_cons_self
    refine wpAny_execs_cons (plainObj_wpAny_Assign_Attribute ?_)
    refine ld N (hm 0 f u rfl rfl) (ld N hself ?_ hk hls (by decide)) hk hlf.1 hlf.2
    have hm' : ∀ (i : Nat) (g : Str) (w : Value), fs[i]? = some g → us[i]? = some w → m g = some w := fun i g w h1 h2 => hm (i + 1) g w h1 h2
    have step : ∀ (h3 : Heap) (tk3 : Nat) (dx t1 : Addr), (∀ b o, b ≠ x → b ≠ dx → s.heap.get? b = some o → h3.get? b = some o) → z ≤ dx → dx ≠ x → h3.get? x = some { cls := .ref C, dict := some dx, data := .fields #[.ref t1, .none, .none, .none, .bool false, .none] } →
        h3.Ns1 dx (fun y => if y = f then some u else m0 y) → Within (fun y => if y = f then some u else m0 y) (f :: nl) → z ≤ h3.objs.size → wpAny (model prog w) A (execs rest env) Q E { s with heap := h3, toks := tk3 } := by
      intro h3 tk3 dx t1 k3 zd dne hx3 n3 w3 hz3
      have hxz : ∀ b : Addr, b < z → b ≠ dx := fun b hb e => absurd (e ▸ hb) (Nat.not_lt.mpr zd)
      obtain ⟨oL, es, ep, hL, r⟩ := N
      refine sets_run T hk hself hls hlz hxL Kx (fs := fs) (rest := rest) (us := us) (s := { s with heap := h3, toks := tk3 }) S (Nat.succ.inj hl) (nl := f :: nl) (by rw [List.length_cons] at hn ⊢; omega) (fun g hg => hf0 g (List.mem_cons_of_mem _ hg)) (fun g hg => hfl g (List.mem_cons_of_mem _ hg)) hm' (fun b o e => ?_) hz3 ⟨oL, es, ep, k3 _ _ (Ne.symm hxL) (hxz _ hlz) hL, r⟩ (.inr ⟨t1, dx, hx3, zd, dne, n3, w3⟩) fun h' tk nl' k q' => ?_
      · exact k3 b o (Kx b o e).1 (hxz b (Kx b o e).2) (X b o e)
      · exact q h' tk nl' (fun b o hb hbz e => k b o hb hbz (k3 b o hb (hxz b hbz) e)) q'
    obtain ⟨hp, g, d, tk, os⟩ := s
    rcases hx with ⟨t1, hx, hm0, hnl⟩ | ⟨t1, dx, hx, zd, dne, n0, w0⟩
    · subst hnl
      have em : (fun y => if y = f then some u else none) = (fun y => if y = f then some u else m0 y) := by
        funext y
        rw [hm0 y]
      refine set_plain X (ox := { cls := .ref C, data := .fields #[.ref t1, .none, .none, .none, .bool false, .none] }) (od := none) ⟨hx, rfl, rfl, trivial⟩ T.sa ?_
      refine exc_osa X hx hcl (show refsVE (.ref C :: bm) = true from hbm) rfl hnof (fun h' tk' dx k dn dne hx' hn' => ?_)
      rw [em] at hn'
      have hzd : z ≤ dx := Nat.le_trans hz dn
      refine step h' tk' dx t1 (fun b o hb _ e => k b o hb e) hzd dne hx' hn' (fun y hy => ?_) ?_
      · by_cases e : y = f
        · rw [e]
          exact List.mem_cons_self
        · exact absurd (by show (if y = f then some u else m0 y) = none; rw [if_neg e, hm0 y]) hy
      · obtain ⟨o, _, _, e, _⟩ := hn'
        exact Nat.le_of_lt (Nat.lt_of_le_of_lt hzd (Heap.lt_size e))
    · obtain ⟨oD, _, _, hoD, _, _⟩ := n0.count w0
      refine set_plain X (ox := { cls := .ref C, dict := some dx, data := .fields #[.ref t1, .none, .none, .none, .bool false, .none] }) (od := some oD) ⟨hx, rfl, rfl, hoD⟩ T.sa ?_
      refine PySem.OEX.osa_old X hx n0 w0 (by rw [List.length_cons] at hn; omega) hcl (show refsVE (.ref C :: bm) = true from hbm) rfl hnof (fun h' tk' k hn' => ?_)
      refine step h' tk' dx t1 (fun b o _ hb e => k b o hb e) zd dne (k x _ (Ne.symm dne) hx) hn' (Within.cons f u w0) ?_
      obtain ⟨o, _, _, e, _⟩ := hn'
      exact Nat.le_of_lt (Nat.lt_of_le_of_lt zd (Heap.lt_size e))

theorem look_rev : ∀ {ks : List Str} {vs : List Value} {i : Nat} {k : Str} {v : Value}, ks.Nodup → ks[i]? = some k → vs[i]? = some v → (ks.zip vs).reverse.lookup k = some v
  | [], _, _, _, _, _, h, _ => by simp at h
  | _ :: _, [], _, _, _, _, _, h => by simp at h
  | k0 :: ks, v0 :: vs, 0, k, v, nd, h1, h2 => by
    have e1 : k0 = k := Option.some.inj h1
    have e2 : v0 = v := Option.some.inj h2
    subst e1; subst e2
    rw [List.zip_cons_cons, List.reverse_cons, List.lookup_append]
    have hn : (ks.zip vs).reverse.lookup k0 = none := by
      rw [List.lookup_eq_none_iff]
      intro p hp
      have hm := (List.of_mem_zip (List.mem_reverse.mp hp)).1
      have hne : k0 ≠ p.1 := fun e => (List.nodup_cons.mp nd).1 (e ▸ hm)
      simpa using hne
    rw [hn]
    simp [List.lookup]
  | k0 :: ks, v0 :: vs, i + 1, k, v, nd, h1, h2 => by
    rw [List.zip_cons_cons, List.reverse_cons, List.lookup_append, look_rev (List.nodup_cons.mp nd).2 h1 h2]
    rfl
theorem err_init (T : ErrTxt prog K mg nm C fI fs0) {R : Result → Shared → Prop} {base : Heap} {s : Shared} {x t0 : Addr} {us : List Value} (M : Mod K mg base) (bk : ∀ b o, base.get? b = some o → s.heap.get? b = some o) (hx : s.heap.get? x = some (excO C t0))
    (Kx : ∀ b o, K.lookup b = some o → b ≠ x ∧ b < s.heap.objs.size) (hl : us.length = fs0.length) (hn0 : fs0.length ≤ 900) (hroom : A.depth < recursionLimit)
    (hq : ∀ h' tk, InitEnd s.heap h' x C fs0 us → R (.ok (.ret .none)) { s with heap := h', toks := tk }) :
    codeAny (model prog w) A (.call (.ref fI) ⟨.ref x :: us, []⟩) R s := by
  obtain ⟨oc, od, osl, qual, st, kV, doc, pm, an, ct, cc, cda, ccl, cl, cdd, cld, ccs, csl, vs, file, tf, ar, args, ho, hcd, hcode, hvs, hfile, hcell, ⟨p0, p1, p2, p3, p4, p5, txt, kk, rest, eb, S, pl, hev⟩, hp, har, hb, hks, hkc, hloc, hk, hnc, hco, hgen, hnd, hdbg⟩ := T.fn
  obtain ⟨nm', q', N', bs, bm, sn, sub, ab, col, dd, k0, k1, k2, k3, k5, hC, hbm⟩ := T.cls
  have hcl : clsIn K C = some { name := nm', bases := bs, mro := .ref C :: bm, ns := N', qualname := q', hasDict := true, slotNames := sn, subclasses := sub, abstract := ab, collection := col, hasDel := false } := by unfold clsIn; rw [hC] <;> rfl
  have X : K.In s.heap := M.kin.keeps bk
  have hlim : s.heap.NoLimit := M.nolimit.keeps bk
  obtain ⟨mb, hmb, hmb2⟩ := M.blt
  refine ks_codeAny_call_defAt (fd := ksFn "__init__" qual (defArgs st) (defBody st) (defScope st) .none kV doc pm an (.ref cda) ct cc) (body := defBody st) (binds := (("self" : Str) :: fs0).zip (.ref x :: us)) hroom (X _ _ ho) rfl hlim (codeRec_of X hcd) rfl (BindsTo.of_eq (hb _ (by rw [List.length_cons, hl]))) hnc
    (fun y hy => hloc y.1 (List.of_mem_zip hy).1) (fun h1 hns kp => ?_) hco hgen hk
  have X1 : K.In h1 := X.keeps kp
  have hx1 := kp _ _ hx
  rw [eb]
  refine ks_wpAt_execs_cons (ks_wpAt_Expr_any ?_ (by show ((defScope st).kind == .module && _) = false; rw [hk]; rfl) rfl)
  refine ks_wpAt_MethodCall (pl := pl _) ?_ (hev _)
  refine ks_wpAt_super_base (ar := ar) hks hkc (by decide) rfl (X1 _ _ ho) rfl hp rfl (X1 _ _ hcode) rfl hvs hfile T.top ?_
  refine ks_loadName_global hk hks (loadGlobal_builtin (M.glob.keeps fun b o e => kp b o (bk b o e)) (mg_none_of M.kin M.glob T.sup) (hmb.keeps fun b o e => kp b o (bk b o e)) ((hmb2 _ (by decide)).trans (show bootBuiltins "super" = some (.type "super") by decide +kernel)) ⟨rfl, ?_⟩)
  refine wpAny_loadName_free hk hkc rfl ⟨_, X1 _ _ hcell, rfl⟩ ?_
  rw [har]
  have hself : ((("self" : Str) :: fs0).zip (Value.ref x :: us)).reverse.lookup ("self" : Str) = some (.ref x) := look_rev hnd (i := 0) rfl rfl
  refine wpAny_loadName_local hk (hloc _ List.mem_cons_self) hns hself ?_
  have hD1 := X1 _ _ hC
  refine ks_wpAny_isType_cls hD1 rfl ⟨rfl, ?_⟩
  refine ks_wpAny_call_super hD1 rfl hx1 rfl (fun c e => by cases e) (looks_mroIn X1 T.mrC) (fun h2 hso k2 => ?_)
  have X2 : K.In h2 := X1.keeps k2
  have hx2 := k2 _ _ hx1
  have hI2 : Looks (model prog w) h2 (isInstance (.ref x) (.type "ValueError")) true := (show InstAt h2 x (excO C t0) C none from ⟨hx2, rfl, rfl, trivial⟩).type.andThen (looks_subIn X2 T.veC)
  have hm := T.spI
  unfold ks_superIn at hm
  rw [hcl] at hm
  have hxC : x ≠ C := fun e => (Kx C _ hC).1 e.symm
  refine kxs_getMethod kxs_ValueError hso (looks_opaque X2 T.opq) (l₀ := .ref C :: bm) (fun A Q E s k q => wpAny_bind ((looks_clsIn X2 hcl) A _ E s k (wpAny_pure q))) rfl X2 hm hI2 hxC (by decide) ?_
  refine kxs_callWith (i := "ValueError.__init__") (x := x) rfl (evalArgs_plain (Calls.spliced_cons (Calls.Constant_str (x := txt) (k := kk) (pos := p3) ?_)))
  refine Calls.spliced_nil ?_
  refine ⟨(Heap.get?_push_at rfl rfl : KxsAt "ValueError.__init__" h2.objs.size x (h2.push (kxs_mw "ValueError.__init__" x))), ?_⟩
  have kp3 : ∀ b o, h2.get? b = some o → (h2.push (kxs_mw "ValueError.__init__" x)).get? b = some o := fun b o e => Heap.get?_push_of_some _ e
  have hu : (h2.push (kxs_mw "ValueError.__init__" x)).get? h2.objs.size = some (kxs_mw "ValueError.__init__" x) := Heap.get?_push_at rfl rfl
  refine wpAny_call (codeAny_of_tree ?_)
  show wpAny _ (Around.in1 _) (callAny (.ref h2.objs.size) ⟨[_], []⟩) _ _ _
  simp only [callAny]
  refine wpAny_bind (wpAny_load hu ?_)
  simp only [kxs_mw, show (Value.type "method-wrapper" == Value.type "method" || Value.type "method-wrapper" == Value.type "builtin_function_or_method" || Value.type "method-wrapper" == Value.type "method-wrapper") = true by decide, if_true]
  refine KFB.if_so (by decide) ?_
  refine wpAny_bind (check_bound_init F.excBase_ValueError.toExcCallFacts (kp3 _ _ (X2 _ _ hC)) (kp3 _ _ hx2) rfl ?_)
  refine wpAny_bind (wpAny_pure (wpAny_pure ?_))
  refine ⟨plainId_quiet F.excBase_ValueError.init.plain _, codeAny_builtin F.excBase_ValueError.initEntry ?_⟩
  rw [Around.under_plainId F.excBase_ValueError.init.plain _]
  refine exc_init_tree (cls := .ref C) (t0 := t0) (dv := none) (c2 := .none) (c3 := .none) (b4 := .bool false) (kp3 _ _ hx2) (by rw [sizeLine_eq]; show 1 ≤ 16777216; decide) fun h4 k4 hx4 ht4 => ?_
  have kall : ∀ b o, b ≠ x → h1.get? b = some o → h4.get? b = some o := fun b o hb e => k4 b o hb (kp3 b o (k2 b o e))
  have hsz : s.heap.objs.size < h1.objs.size := hns.lt
  refine wpAt_of_wpAny ?_
  have hxs : x < s.heap.objs.size := Heap.lt_size hx
  obtain ⟨oL, es, ep, hL, r⟩ := hns
  have ns4 : h4.Ns s.heap.objs.size (fun y => ((("self" : Str) :: fs0).zip (Value.ref x :: us)).reverse.lookup y) := ⟨oL, es, ep, kall _ _ (Nat.ne_of_gt hxs) hL, r⟩
  have hz4 : h1.objs.size ≤ h4.objs.size := by
    have z1 := Heap.lt_size hso
    have z2 := Heap.lt_size ht4
    rw [Heap.size_push] at z2
    exact Nat.le_of_lt (Nat.lt_trans z1 (Nat.lt_trans (Nat.lt_succ_self _) z2))
  refine sets_run (env := ksEnv qual (defScope st) s.heap.objs.size fI (.ref cda) cc) (us := us) (m0 := fun _ => none) (nl := []) (z := h1.objs.size) (x := x) (m := fun y => ((("self" : Str) :: fs0).zip (Value.ref x :: us)).reverse.lookup y) T hk hself (hloc _ List.mem_cons_self) hsz (Nat.ne_of_lt hxs) (fun b o e => ⟨(Kx b o e).1, Nat.lt_trans (Kx b o e).2 hsz⟩) S hl (by simpa using hn0) (fun f hf => hf)
    (fun f hf => ⟨hloc f (List.mem_cons_of_mem _ hf), hdbg f (List.mem_cons_of_mem _ hf)⟩) (fun i f u h1 h2 => ?_) (fun b o e => kall b o (Kx b o e).1 (X1 b o e)) hz4 ns4 (.inl ⟨_, hx4, fun _ => rfl, rfl⟩) fun h' tk nl' k q => ?_
  · exact look_rev hnd (i := i + 1) h1 h2
  · refine hq h' tk ⟨fun b o hb e => k b o hb (Nat.lt_trans (Heap.lt_size e) hsz) (kall b o hb (kp b o e)), nl', ?_⟩
    rcases q with q | ⟨t1, dx, q1, q2, q3⟩
    · exact .inl q
    · exact .inr ⟨t1, dx, q1, Nat.le_trans (Nat.le_of_lt hsz) q2, q3⟩
/-- a made error -/
structure Made (h h' : Heap) (e C : Addr) (fs : List Str) (us : List Value) : Prop where
  keep : ∀ b o, h.get? b = some o → h'.get? b = some o
  new : h.objs.size ≤ e
  obj : ∃ nl, XAt h' e C h.objs.size (setAll (fun _ => none) fs us) nl
theorem err_made (T : ErrTxt prog K mg nm C fI fs0) {R : Result → Shared → Prop} {base : Heap} {s : Shared} {us : List Value} (M : Mod K mg base) (bk : ∀ b o, base.get? b = some o → s.heap.get? b = some o) (hl : us.length = fs0.length) (hn0 : fs0.length ≤ 900) (hroom : A.depth + 1 < recursionLimit)
    (hq : ∀ h' tk e, Made s.heap h' e C fs0 us → R (.ok (.ret (.ref e))) { s with heap := h', toks := tk }) :
    codeAny (model prog w) A (.call (.ref C) ⟨us, []⟩) R s := by
  obtain ⟨nm', q', N', bs, bm, sn, sub, ab, col, dd, k0, k1, k2, k3, k5, hC, hbm⟩ := T.cls
  have X : K.In s.heap := M.kin.keeps bk
  obtain ⟨hp, g, dr, tk, os⟩ := s
  have k : ∀ b o, hp.get? b = some o → ((hp.push (kdv_tup us)).push (excO C hp.objs.size)).get? b = some o := fun b o e => Heap.get?_push_of_some _ (Heap.get?_push_of_some _ e)
  have hget : ((hp.push (kdv_tup us)).push (excO C hp.objs.size)).get? (hp.objs.size + 1) = some (excO C hp.objs.size) := by heap_get
  have hus : us.length ≤ sizeLine := by rw [sizeLine_eq]; omega
  refine call_own F.excBase_ValueError (fun X => refsVE_contains X bm hbm) (X _ _ hC) (looks_findIn X T.iC) (fun self => bind_fn X self T.tC) hus ?_
  have hKx : ∀ b o, K.lookup b = some o → b ≠ hp.objs.size + 1 ∧ b < ((hp.push (kdv_tup us)).push (excO C hp.objs.size)).objs.size := fun b o e => by
    have z : b < hp.objs.size := Heap.lt_size (X b o e)
    refine ⟨Nat.ne_of_lt (Nat.lt_succ_of_lt z), ?_⟩
    rw [Heap.size_push, Heap.size_push]
    exact Nat.lt_succ_of_lt (Nat.lt_succ_of_lt z)
  refine err_init (s := ⟨(hp.push (kdv_tup us)).push (excO C hp.objs.size), g, dr, tk, os⟩) T M (fun b o e => k b o (bk b o e)) hget hKx hl hn0 ?_ fun h' tk' I => ?_
  · show A.depth + 1 < recursionLimit
    exact hroom
  · have old : ∀ b o, hp.get? b = some o → h'.get? b = some o := fun b o e => I.keep b o (Nat.ne_of_lt (Nat.lt_succ_of_lt (Heap.lt_size e))) (k b o e)
    obtain ⟨nl, ob⟩ := I.obj
    refine ⟨rfl, hq h' tk' (hp.objs.size + 1) ⟨old, Nat.le_succ _, nl, ?_⟩⟩
    rcases ob with q | ⟨t1, dx, q1, q2, q3⟩
    · exact .inl q
    · refine .inr ⟨t1, dx, q1, Nat.le_trans ?_ q2, q3⟩
      show hp.objs.size ≤ ((hp.push (kdv_tup us)).push (excO C hp.objs.size)).objs.size
      rw [Heap.size_push, Heap.size_push]
      exact Nat.le_succ_of_le (Nat.le_succ _)
end
end ErrX
end PySem

namespace L2
open PySem PySem.Spec PyProof.Rows PySem.ErrX
section
variable {X : Cx} {C fI : Addr} {x : Str} {fs : List Str}
/-- Err(e, ..): the error's class, its dict d, new -/
def tMkE (C : Addr) (fs : List Str) (ta : TA) : St → Hp → XK → Prop := fun σ H Q => ta σ H fun vs H1 => vs.length = fs.length ∧ ∀ d, H1 d = none → Q (.ref C) (some d) (upd H1 d (.xd (setL [] fs vs)))
theorem mk_err {pins : List (Addr × Obj)} {σ : St} {H1 : Hp} {Q : XK} {s1 : Shared} {k : Nat} {vs : List V} {us : List Value} (T : ErrTxt X.prog X.K X.mg x C fI fs) (hf : fs ≠ []) (hn : fs.length ≤ 900) (hr : Room k X.A) (I1 : Inv X pins σ H1 s1) (r1 : Vals vs us) (hlv : vs.length = fs.length)
    (q1 : ∀ d, H1 d = none → Q (.ref C) (some d) (upd H1 d (.xd (setL [] fs vs)))) : wpAny (model X.prog X.w) X.A (call (.ref C) us) (MkP X pins σ Q) X.xe s1 := by
  have hlu : us.length = fs.length := by rw [← Paired.length r1]; exact hlv
  obtain ⟨hp, g, dr, tk, os⟩ := s1
  refine wpAny_call (err_made T I1.mod (fun b o e => I1.bk b o e) hlu hn (by have := hr.dp; omega) fun h' tk' e M => ?_)
  show MkP X pins σ Q (.ref e) ⟨h', g, dr, tk', os⟩
  obtain ⟨nl, ob⟩ := M.obj
  have hfst : ∃ f0 fr u0 ur, fs = f0 :: fr ∧ us = u0 :: ur := by
    cases fs with
    | nil => exact absurd rfl hf
    | cons f0 fr =>
      cases us with
      | nil => cases hlu
      | cons u0 ur => exact ⟨f0, fr, u0, ur, rfl, rfl⟩
  rcases ob with ⟨t1, hoe, hnone, _⟩ | ⟨t1, d, hoe, hdz, dne, hns, _⟩
  · exfalso
    obtain ⟨f0, fr, u0, ur, rfl, rfl⟩ := hfst
    have key : ∀ (fs : List Str) (us : List Value) (m : Str → Option Value) (y : Str), (m y).isSome = true → (setAll m fs us y).isSome = true := by
      intro fs
      induction fs with
      | nil => intro us m y h; unfold setAll; exact h
      | cons f fs ih =>
        intro us m y h
        cases us with
        | nil => unfold setAll; exact h
        | cons u us =>
          unfold setAll
          refine ih us _ y ?_
          by_cases e : y = f
          · rw [if_pos e]; rfl
          · rw [if_neg e]; exact h
    have z := key fr ur (fun y => if y = f0 then some u0 else none) f0 (by rw [if_pos rfl]; rfl)
    have z2 := hnone f0
    unfold setAll at z2
    rw [z2] at z
    cases z
  · obtain ⟨G', g1, g2⟩ := restrict h' fun b => decide (b ≠ e)
    have gk : ∀ b, b ≠ e → G'.get? b = h'.get? b := fun b hb => g1 b (decide_eq_true hb)
    have ge : G'.get? e = none := g2 e (by simp)
    have old : ∀ b o, hp.get? b = some o → G'.get? b = some o := fun b o q => (gk b (Nat.ne_of_lt (Nat.lt_of_lt_of_le (Heap.lt_size q) M.new))).trans (M.keep b o q)
    have ob : ObjOk X.prog X.w (upd H1 d (.xd (setL [] fs vs))) G' d (.xd (setL [] fs vs)) :=
      ⟨_, hns.at (fun o q => (gk d dne).trans q), fun f => setL_rel (acc := []) (m := fun _ => none) r1 (fun _ => (True.intro : RelO none none)) f⟩
    have J : Inv X pins σ (upd H1 d (.xd (setL [] fs vs))) ⟨G', g, dr, tk', os⟩ := I1.laid (t' := tk') old hdz ob
    refine ⟨e, _, _, ⟨G', g, dr, tk', os⟩, _, .ref C, some d, rfl, J, fun b o q => ?_, ge, hoe, ⟨rfl, rfl⟩, rfl, rfl, ?_, rfl, I1.bare, raises_own T.exC T.tyC, q1 d (I1.hok.fresh hdz)⟩
    · by_cases hb : b = e
      · have q' : G'.get? b = some o := q
        rw [hb, ge] at q'; cases q'
      · exact (gk b hb).symm.trans q
    · rw [upd_ne (Ne.symm dne)]
      exact I1.hok.fresh M.new
theorem pmk_err {e : Expr} {es : List Expr} {ta : TA} {p pos : Pos} {k : Nat} (T : ErrTxt X.prog X.K X.mg x C fI fs) (hf : fs ≠ []) (hn : fs.length ≤ 900) (hr : Room k X.A) (ha : PA X (e :: es) ta) (hg : Gl X x := by rfl) (hdb : (x == ("__debug__" : Str)) = false := by decide)
    (he : starEach (e :: es) X.env = (false, eval e X.env) :: starEach es X.env := by rfl) (hpl : (backTo pos (starEach es X.env)).any (·.1) = false := by rfl) :
    PMk X (.Call (.Name x p) (e :: es) [] pos) (tMkE C fs ta) := by
  intro pins s σ H Q I h
  refine wpAny_Call_Name_kw (ld_glob I hg T.gC ?_ hdb)
  refine PySem.W.callWith_K (h₀ := X.base) I.ok.mod.kin T.kC (thn (ha.run pos pins s σ H _ I h) fun us s1 hh => ?_) he hpl
  obtain ⟨vs, H1, I1, r1, hlv, q1⟩ := hh
  exact ⟨I1.kIn, mk_err T hf hn hr I1 r1 hlv q1⟩
/-- raise Err(e, ..) -/
def tRaiseE (C : Addr) (fs : List Str) (W : WX) (ta : TA) : TS := fun _ σ H => tMkE C fs ta σ H fun cls d H' => W cls d σ H'
theorem ps_raiseE {e : Expr} {es : List Expr} {ta : TA} {W : WX} {p pos pos2 : Pos} {k : Nat} (hc : X.calm = true) (T : ErrTxt X.prog X.K X.mg x C fI fs) (hf : fs ≠ []) (hn : fs.length ≤ 900) (hr : Room k X.A) (tk : Takes X W) (ha : PA X (e :: es) ta) (hg : Gl X x := by rfl) (hdb : (x == ("__debug__" : Str)) = false := by decide)
    (he : starEach (e :: es) X.env = (false, eval e X.env) :: starEach es X.env := by rfl) (hpl : (backTo pos (starEach es X.env)).any (·.1) = false := by rfl) :
    PS X (.Raise (some (.Call (.Name x p) (e :: es) [] pos)) none pos2) (tRaiseE C fs W ta) := ps_raise hc tk (pmk_err T hf hn hr ha hg hdb he hpl)
end
end L2
namespace L2
open PySem PySem.Spec PyProof.Rows
/-! ### calls whose errors are wished for at the slots -/
section
variable {X : Cx} {CX : CXT} {k : Nat} {f C : Addr} {fd : FuncData} {ps : List Str} {sp : Sp} {E : St → XK} {x m : Str} {p pos apos : Pos} {e o a b : Expr} {es : List Expr} {ta tb : TE} {t : TA}
theorem pass0S (σ : St) : PassesAt CX0 X σ E0 := fun _ _ _ _ _ _ h => h.elim
theorem passLS (σ : St) : PassesAt (L2.CX X.prog X.w) X σ E0 := fun _ _ _ _ _ _ h => by
  obtain ⟨_, _, _, _, _, _, _, _, _, _, _, _, z⟩ := h
  exact z.elim
def tMakeS (C : Addr) (sp : Sp) (E : St → XK) (t : TA) : TE := fun σ H Q => t σ H fun vs H1 => ∀ x dx, H1 x = none → H1 dx = none → dx ≠ x →
  sp (.ref x :: vs) (upd (upd H1 dx (.own x)) x (.ins C dx [])) (fun v H2 => v = .non ∧ Q (.ref x) H2) (E σ)
theorem run_makeS {pins : List (Addr × Obj)} {σ : St} {H : Hp} {s : Shared} {Q : VK} {us : List Value} {vs : List V} (M : Mk X.K C f) (F : FnOk X.prog X.w X.K X.mg X.base CX k f fd ps sp) (hr : Room (k + 1) X.A) (hb : Binds X.K fd ps [])
    (hx : PassesAt CX X σ (E σ)) (I : Inv X pins σ H s) (r : Vals vs us)
    (h : ∀ x dx, H x = none → H dx = none → dx ≠ x → sp (.ref x :: vs) (upd (upd H dx (.own x)) x (.ins C dx [])) (fun v H2 => v = .non ∧ Q (.ref x) H2) (E σ)) :
    wpAny (model X.prog X.w) X.A (call (.ref C) us) (EP X pins σ Q) X.xe s := by
  have hq := h (s.heap.objs.size + 1) s.heap.objs.size (I.hok.fresh (Nat.le_succ _)) (I.hok.fresh (Nat.le_refl _)) (Nat.ne_of_lt (Nat.lt_succ_self _))
  have I2 := Inv.made (C := C) I
  have r2 : Vals (V.ref (s.heap.objs.size + 1) :: vs) (Value.ref (s.heap.objs.size + 1) :: us) := .cons rfl r
  have hl : (Value.ref (s.heap.objs.size + 1) :: us).length = ps.length := by
    have e := r2.length
    rw [F.len _ _ _ _ hq] at e
    exact e.symm
  have bb := hb { s with heap := (s.heap.push PySem.W.emptyDict).push (PySem.W.instObj C s.heap.objs.size) } (Value.ref (s.heap.objs.size + 1) :: us) I2.kIn (by rw [List.append_nil]; exact hl)
  rw [List.append_nil] at bb
  refine wpAny_call (make_map (f := f) I.kIn M.makes M.init (beq_iff_eq.mp M.fn) (codeAny_mono (F.run _ X.stack _ _ ⟨Value.ref (s.heap.objs.size + 1) :: us, []⟩ (Value.ref (s.heap.objs.size + 1) :: us) _ _ (E σ) (hr.make C us [])
    (I2.env0.make C us []) bb r2 hq) fun r s' hq' => ?_))
  cases r with
  | error e => exact hx pins _ _ e s' I2 hq'
  | ok fl =>
    cases fl with
    | ret u =>
      obtain ⟨v, H', I3, rv, ev, q3⟩ := I2.after hq'
      subst ev
      exact ⟨rv, ⟨V.ref (s.heap.objs.size + 1), H', I3, rfl, q3⟩⟩
    | next => exact False.elim hq'
    | brk => exact False.elim hq'
    | cont => exact False.elim hq'
theorem pe_makeS (M : Mk X.K C f) (F : FnOk X.prog X.w X.K X.mg X.base CX k f fd ps sp) (hr : Room (k + 1) X.A) (hg : Gl X x) (hm : X.mg x = some (.ref C)) (hb : Binds X.K fd ps []) (hx : ∀ σ, PassesAt CX X σ (E σ))
    (ha : PA X (e :: es) t) (hdb : (x == ("__debug__" : Str)) = false := by decide) (he : starEach (e :: es) X.env = (false, eval e X.env) :: starEach es X.env := by rfl) (hpl : (backTo pos (starEach es X.env)).any (·.1) = false := by rfl) :
    PE X (.Call (.Name x p) (e :: es) [] pos) (tMakeS C sp E t) := by
  refine ⟨fun pins s σ H Q I h => ?_⟩
  refine wpAny_Call_Name_kw (ld_glob I hg hm ?_ hdb)
  refine PySem.W.callWith_K (h₀ := X.base) I.ok.mod.kin M.kp (thn (ha.run pos pins s σ H _ I h) fun us s1 ⟨vs, H1, I1, r, q⟩ => ⟨I1.kIn, ?_⟩) he hpl
  exact run_makeS M F hr hb (hx σ) I1 r q
def tMethZ (C : Addr) (m : Str) (sp : Sp) (E : St → XK) (ta : TE) (t : TA) : TE := fun σ H Q => ta σ H fun x H1 => ∃ a dx fs, x = .ref a ∧ H1 a = some (.ins C dx fs) ∧ fs.lookup m = none ∧
  t σ H1 fun vs H2 => sp (x :: vs) H2 Q (E σ)
theorem pe_methZ {pl : Sem Bool} (he : PE X o ta) (c : Cls X.K C) (hm : Meth X.K C m f) (F : FnOk X.prog X.w X.K X.mg X.base CX k f fd ps sp) (hr : Room k X.A) (hb : Binds X.K fd ps []) (hx : ∀ σ, PassesAt CX X σ (E σ)) (ha : PA X (e :: es) t)
    (hst : starEach (e :: es) X.env = (false, eval e X.env) :: starEach es X.env := by rfl) (hpl : (backTo pos (starEach es X.env)).any (·.1) = false := by rfl)
    (ht : eval (.Call (.Attribute o m apos) (e :: es) [] pos) X.env = (do
      let ov ← eval o X.env
      standAt apos.atName
      let (f, first) ← holding [ov] (getMethod ov m pl)
      callWith pos f first (backTo pos (starEach (e :: es) X.env)) (backToKw pos (keywordEach [] X.env))) := by rfl) :
    PE X (.Call (.Attribute o m apos) (e :: es) [] pos) (tMethZ C m sp E ta t) := by
  refine ⟨fun pins s σ H Q I h => ?_⟩
  refine PySem.W.methodCall_KW (pl := pl) (thn (he.run pins s σ H _ I h) fun u s1 ⟨x, H1, I1, rx, a, dx, fs, ex, ea, l, q⟩ => ?_) ht
  subst ex
  obtain rfl : u = Value.ref a := rx
  refine getmeth_ok I1 ea c hm l ?_
  refine PySem.W.callWith_K (first := [.ref a]) (h₀ := X.base) I.ok.mod.kin hm.kp (thn (ha.run pos pins s1 σ H1 _ I1 q) fun us s2 ⟨vs, H2, I2, r, q2⟩ => ⟨I2.kIn, ?_⟩) hst hpl
  exact run_fnS (us := .ref a :: us) (vs := .ref a :: vs) F hr hb (hx σ) I2 (.cons rfl r) q2

/-- o.m(e, ..), o an instance of C1 or of C2 -/
def tMethU (C1 C2 : Addr) (m : Str) (sp1 sp2 : Sp) (E : St → XK) (ta : TE) (t : TA) : TE := fun σ H Q => ta σ H fun x H1 => ∃ a dx fs, x = .ref a ∧ fs.lookup m = none ∧
  ((H1 a = some (.ins C1 dx fs) ∧ t σ H1 fun vs H2 => sp1 (x :: vs) H2 Q (E σ)) ∨ (H1 a = some (.ins C2 dx fs) ∧ t σ H1 fun vs H2 => sp2 (x :: vs) H2 Q (E σ)))
theorem pe_methU {pl : Sem Bool} {CX2 : CXT} {k2 : Nat} {C2 f2 : Addr} {fd2 : FuncData} {ps2 : List Str} {sp2 : Sp} (he : PE X o ta) (c : Cls X.K C) (hm : Meth X.K C m f) (F : FnOk X.prog X.w X.K X.mg X.base CX k f fd ps sp) (hr : Room k X.A) (hb : Binds X.K fd ps []) (hx : ∀ σ, PassesAt CX X σ (E σ))
    (c2 : Cls X.K C2) (hm2 : Meth X.K C2 m f2) (F2 : FnOk X.prog X.w X.K X.mg X.base CX2 k2 f2 fd2 ps2 sp2) (hr2 : Room k2 X.A) (hb2 : Binds X.K fd2 ps2 []) (hx2 : ∀ σ, PassesAt CX2 X σ (E σ)) (ha : PA X (e :: es) t)
    (hst : starEach (e :: es) X.env = (false, eval e X.env) :: starEach es X.env := by rfl) (hpl : (backTo pos (starEach es X.env)).any (·.1) = false := by rfl)
    (ht : eval (.Call (.Attribute o m apos) (e :: es) [] pos) X.env = (do
      let ov ← eval o X.env
      standAt apos.atName
      let (f, first) ← holding [ov] (getMethod ov m pl)
      callWith pos f first (backTo pos (starEach (e :: es) X.env)) (backToKw pos (keywordEach [] X.env))) := by rfl) :
    PE X (.Call (.Attribute o m apos) (e :: es) [] pos) (tMethU C C2 m sp sp2 E ta t) := by
  refine ⟨fun pins s σ H Q I h => ?_⟩
  refine PySem.W.methodCall_KW (pl := pl) (thn (he.run pins s σ H _ I h) fun u s1 ⟨x, H1, I1, rx, a, dx, fs, ex, l, q⟩ => ?_) ht
  subst ex
  obtain rfl : u = Value.ref a := rx
  rcases q with ⟨ea, q⟩ | ⟨ea, q⟩
  · refine getmeth_ok I1 ea c hm l ?_
    refine PySem.W.callWith_K (first := [.ref a]) (h₀ := X.base) I.ok.mod.kin hm.kp (thn (ha.run pos pins s1 σ H1 _ I1 q) fun us s2 ⟨vs, H2, I2, r, q2⟩ => ⟨I2.kIn, ?_⟩) hst hpl
    exact run_fnS (us := .ref a :: us) (vs := .ref a :: vs) F hr hb (hx σ) I2 (.cons rfl r) q2
  · refine getmeth_ok I1 ea c2 hm2 l ?_
    refine PySem.W.callWith_K (first := [.ref a]) (h₀ := X.base) I.ok.mod.kin hm2.kp (thn (ha.run pos pins s1 σ H1 _ I1 q) fun us s2 ⟨vs, H2, I2, r, q2⟩ => ⟨I2.kIn, ?_⟩) hst hpl
    exact run_fnS (us := .ref a :: us) (vs := .ref a :: vs) F2 hr2 hb2 (hx2 σ) I2 (.cons rfl r) q2

/-! ### own operators -/
structure OwnBin (K : PySem.W.Frag) (C f : Addr) (op : Operator) : Prop where
  at_ : PySem.W.findIn K (.ref C) (PySem.dunder op.info.2) = some (some (.ref f))
  fn : PySem.W.isFn K (.ref f) = true
  self : PySem.W.selfFirst K C = true
  rc : ∃ rc, PySem.W.findIn K (.ref C) (dunderR op.info.2) = some rc ∧ (rc = none ∨ ∃ g : Addr, rc = some (.ref g))
  iF : ∃ fo, PySem.W.findIn K (.type "int") (PySem.dunder op.info.2) = some fo
  iR : ∃ ro, PySem.W.findIn K (.type "int") (dunderR op.info.2) = some ro
  sub : PySem.W.subIn K (.type "int") (.ref C) = some false
/-- x op y, x an instance of C; y one, too, or an int -/
def tOwn (C : Addr) (sp : Sp) (E : St → XK) (ta tb : TE) : TE := fun σ H Q => ta σ H fun x H1 => tb σ H1 fun y H2 => ∃ a dx fs, x = .ref a ∧ H2 a = some (.ins C dx fs) ∧
  ((∃ b dy gs, y = .ref b ∧ H2 b = some (.ins C dy gs)) ∨ ∃ i, y = .int i) ∧ sp [x, y] H2 Q (E σ)
theorem cmpBack_of {pins : List (Addr × Obj)} {σ : St} {Q : VK} {v : Value} {s' : Shared} (h : EP X pins σ Q v s') : PySem.W.CmpBack (EP X pins σ Q) v s' := by
  obtain ⟨x, H', I, r, q⟩ := h
  cases v <;> first | exact ⟨x, H', I, r, q⟩ | (exfalso; cases x <;> simp [RelV] at r)
theorem pe_own {op : Operator} (T : OwnBin X.K C f op) (F : FnOk X.prog X.w X.K X.mg X.base CX k f fd ps sp) (hr : Room k X.A) (hb : Binds X.K fd ps []) (hx : ∀ σ, PassesAt CX X σ (E σ)) (ha : PE X a ta) (hb' : PE X b tb) : PE X (.BinOp a op b pos) (tOwn C sp E ta tb) := by
  refine ⟨fun pins s σ H Q I h => ?_⟩
  refine wpAny_BinOp (binT ha hb' I h fun v u s2 x y H2 I2 rx ry q => ?_)
  obtain ⟨p, dx, fs, rfl, hp, hy, q⟩ := q
  obtain rfl : v = Value.ref p := rx
  obtain ⟨mA, J, _⟩ := ins_get I2.hok hp
  obtain ⟨od, J, _⟩ := J.look
  obtain ⟨m, hF⟩ := I2.fr
  have fin : wpAny (model X.prog X.w) X.A (call (.ref f) [.ref p, u]) (PySem.W.CmpBack (EP X pins σ Q)) X.xe s2 :=
    wpAny_mono (run_fnS (us := [.ref p, u]) (vs := [.ref p, y]) F hr hb (hx σ) I2 (.cons rfl (.cons ry .nil)) q) (fun _ _ z => cmpBack_of z) fun _ _ z => z
  rcases hy with ⟨b', dy, gs, rfl, hb2⟩ | ⟨i, rfl⟩
  · obtain rfl : u = Value.ref b' := ry
    obtain ⟨mB, J', _⟩ := ins_get I2.hok hb2
    obtain ⟨od', J', _⟩ := J'.look
    exact PySem.W.binop_K hF I2.ok.mod.kin J J'.type T.self T.at_ T.fn fin
  · obtain ⟨tk, rfl⟩ : ∃ t, u = Value.int i t := ry
    obtain ⟨rc, hrc, hp'⟩ := T.rc
    obtain ⟨fo, hfo⟩ := T.iF
    obtain ⟨ro, hro⟩ := T.iR
    exact PySem.W.ksp_binT (T := "int") hF I2.ok.mod.kin J rfl T.self T.at_ T.fn hrc hp' hfo hro T.sub fin
/-- -x -/
def tNegO (C : Addr) (sp : Sp) (E : St → XK) (ta : TE) : TE := fun σ H Q => ta σ H fun x H1 => ∃ a dx fs, x = .ref a ∧ H1 a = some (.ins C dx fs) ∧ sp [x] H1 Q (E σ)
theorem pe_negO (hs : PySem.W.findIn X.K (.ref C) "__neg__" = some (some (.ref f))) (hf : PySem.W.isFn X.K (.ref f) = true) (F : FnOk X.prog X.w X.K X.mg X.base CX k f fd ps sp) (hr : Room k X.A) (hb : Binds X.K fd ps []) (hx : ∀ σ, PassesAt CX X σ (E σ)) (ha : PE X a ta) : PE X (.UnaryOp .USub a pos) (tNegO C sp E ta) := by
  refine ⟨fun pins s σ H Q I h => ?_⟩
  refine UnaryOp_ (thn (ha.run pins s σ H _ I h) fun v s1 ⟨x, H1, I1, r1, p, dx, fs, ex, hp, q1⟩ => ?_)
  subst ex
  obtain rfl : v = Value.ref p := r1
  obtain ⟨mA, J, _⟩ := ins_get I1.hok hp
  obtain ⟨od, J, _⟩ := J.look
  obtain ⟨m, hF⟩ := I1.fr
  exact PySem.W.ksp_neg hF I1.ok.mod.kin J hs hf (run_fnS (us := [.ref p]) (vs := [.ref p]) F hr hb (hx σ) I1 (.cons rfl .nil) q1)

/-! ### x op y, x an int, y an instance of C -/
structure OwnBinR (K : PySem.W.Frag) (C f g : Addr) (op : Operator) : Prop where
  at_ : PySem.W.findIn K (.ref C) (PySem.dunder op.info.2) = some (some (.ref g))
  atR : PySem.W.findIn K (.ref C) (dunderR op.info.2) = some (some (.ref f))
  fn : PySem.W.isFn K (.ref f) = true
  self : PySem.W.selfFirst K C = true
  sub : PySem.W.subIn K (.ref C) (.type "int") = some false
  eqv : True := trivial
/-- what the int's own method does of an instance: it declines -/
def Declines (op : Operator) : Prop := ∃ (id : String) (B : Builtin), fillsNumberSlot (.type "int") op.info.2 = pure true ∧ Slot "int" (PySem.dunder op.info.2) id ∧ entryFor table id = some B ∧ (∀ a b : Value, argsOk id ⟨[a, b], []⟩) ∧
  ∀ (M : Model) (A : Around) (E : Value → Shared → Prop) (s : Shared) (i : Int) (t : Tok) (b : Addr) (o : Obj), s.heap.get? b = some o → o.data = .plain → wpAny M A (B ⟨[.int i t, .ref b], []⟩) (fun fin s' => ∃ v, fin = .done (.ret v) ∧ v = .notImplemented ∧ s' = s) E s
theorem declines_mul : Declines .Mult := by
  refine ⟨_, _, F.fills_int_mul, F.slot_int_mul, F.entry_int_mul, F.args_int_mul_2, fun M A E s i t b o ho hd => ?_⟩
  obtain ⟨h, g, d, tk, os⟩ := s
  unfold Builtin.«int.__mul__» Builtin.Int.intBinary
  refine wpAny_bind (wpAny_of_eq (a := (.int i t, [.ref b])) rfl ?_)
  refine wpAny_bind (wpAny_of_eq (a := i) rfl ?_)
  refine wpAny_bind (m := asInt? (.ref b)) ?_
  unfold asInt?
  refine wpAny_bind (wpAny_load ho ?_)
  rw [hd]
  exact wpAny_pure (wpAny_bind (wpAny_rule (wpAny_pure ⟨_, rfl, rfl, rfl⟩)))
theorem declines_add : Declines .Add := by
  refine ⟨_, _, F.fills_int_add, F.slot_int_add, F.entry_int_add, F.args_int_add_2, fun M A E s i t b o ho hd => ?_⟩
  obtain ⟨h, g, d, tk, os⟩ := s
  unfold Builtin.«int.__add__» Builtin.Int.intBinary
  refine wpAny_bind (wpAny_of_eq (a := (.int i t, [.ref b])) rfl ?_)
  refine wpAny_bind (wpAny_of_eq (a := i) rfl ?_)
  refine wpAny_bind (m := asInt? (.ref b)) ?_
  unfold asInt?
  refine wpAny_bind (wpAny_load ho ?_)
  rw [hd]
  exact wpAny_pure (wpAny_bind (wpAny_rule (wpAny_pure ⟨_, rfl, rfl, rfl⟩)))
theorem declines_sub : Declines .Sub := by
  refine ⟨_, _, F.fills_int_sub, F.slot_int_sub, F.entry_int_sub, F.args_int_sub_2, fun M A E s i t b o ho hd => ?_⟩
  obtain ⟨h, g, d, tk, os⟩ := s
  unfold Builtin.«int.__sub__» Builtin.Int.intBinary
  refine wpAny_bind (wpAny_of_eq (a := (.int i t, [.ref b])) rfl ?_)
  refine wpAny_bind (wpAny_of_eq (a := i) rfl ?_)
  refine wpAny_bind (m := asInt? (.ref b)) ?_
  unfold asInt?
  refine wpAny_bind (wpAny_load ho ?_)
  rw [hd]
  exact wpAny_pure (wpAny_bind (wpAny_rule (wpAny_pure ⟨_, rfl, rfl, rfl⟩)))
theorem binR {prog : Program} {w : World} {A : Around} {E : Value → Shared → Prop} {s : Shared} {K : PySem.W.Frag} {x L : Addr} {h₀ : Heap} {m : Str → Option Value} {ox : Obj} {od : Option Obj} {op : Operator} {i : Int} {t : Tok} {g : Addr} {Q : Value → Shared → Prop} (D : Declines op)
    (Fr : Fr h₀ L s.heap m) (X₀ : K.In h₀) (I : PySem.W.InstAt s.heap x ox C od) (hpl : ox.data = .plain) (T : OwnBinR K C f g op)
    (h : wpAny (model prog w) A (call (.ref f) [.ref x, .int i t]) (PySem.W.CmpBack Q) E s) : wpAny (model prog w) A (binaryOp op (.int i t) (.ref x)) Q E s := by
  have X := X₀.keeps Fr.keep
  obtain ⟨cd, rest, hcd, hm⟩ := PySem.W.ksp_first T.self
  obtain ⟨id, B, hfl, hsl, hen, har, hB⟩ := D
  have hs := T.at_
  have hs2 := T.atR
  rcases hi : op.info with ⟨sym, nm⟩
  rw [hi] at hfl hsl hs hs2
  dsimp only at hfl hsl hs hs2
  have one := PySem.W.ksp_try X I hs2 T.fn h
  simp only [binaryOp, hi]
  refine wpAny_holding (wpAny_bind ?_)
  unfold binaryOp1
  refine wpAny_bind (wpAny_typeOf (T := "int") rfl (wpAny_bind (I.type.at (wpAny_bind (wpAny_of_eq hfl ?_)))))
  have hne : (Value.type "int" == Value.ref C) = false := Bool.eq_false_iff.mpr fun q => by cases beq_iff_eq.mp q
  simp only [hne, Bool.false_eq_true, if_false]
  refine wpAny_bind ((PySem.W.fills_K X hcd hm hs).at ?_)
  simp only [Bool.and_self, if_true]
  refine wpAny_bind ((PySem.W.looks_subIn X T.sub).at ?_)
  have hpy : numberSlotInPython (.type "int") nm = pure false := rfl
  simp only [Bool.false_eq_true, if_false, pure_bind, Bool.not_false, Bool.and_self, if_true, hpy]
  refine wpAny_bind (wpAny_tryMethod_declines (T := "int") rfl hsl (wpAny_call_entry hsl rfl hen (wpAny_mono (hB _ _ E _ i t x ox I.at_ hpl) (fun fin s' z => ?_) fun _ _ z => z) (har _ _)))
  obtain ⟨v, rfl, rfl, rfl⟩ := z
  refine ⟨_, rfl, rfl, ?_⟩
  dsimp only
  refine wpAny_bind (wpAny_mono one (fun r s' hr' => ?_) fun _ _ e => e)
  obtain ⟨v, rfl, hq⟩ := hr'
  exact wpAny_bind (wpAny_rule (wpAny_pure (wpAny_pure hq)))
/-- x op y, x an int, y an instance of C: y's reflected method -/
def tOwnR (C : Addr) (sp : Sp) (E : St → XK) (ta tb : TE) : TE := fun σ H Q => ta σ H fun x H1 => tb σ H1 fun y H2 => ∃ a dx fs i, y = .ref a ∧ H2 a = some (.ins C dx fs) ∧ x = .int i ∧ sp [y, x] H2 Q (E σ)
theorem pe_ownR {op : Operator} {g : Addr} (D : Declines op) (T : OwnBinR X.K C f g op) (F : FnOk X.prog X.w X.K X.mg X.base CX k f fd ps sp) (hr : Room k X.A) (hb : Binds X.K fd ps []) (hx : ∀ σ, PassesAt CX X σ (E σ)) (ha : PE X a ta) (hb' : PE X b tb) : PE X (.BinOp a op b pos) (tOwnR C sp E ta tb) := by
  refine ⟨fun pins s σ H Q I h => ?_⟩
  refine wpAny_BinOp (binT ha hb' I h fun v u s2 x y H2 I2 rx ry q => ?_)
  obtain ⟨p, dx, fs, i, rfl, hp, rfl, q⟩ := q
  obtain rfl : u = Value.ref p := ry
  obtain ⟨tk, rfl⟩ : ∃ t, v = Value.int i t := rx
  obtain ⟨mA, J, _⟩ := ins_get I2.hok hp
  obtain ⟨od, J, _⟩ := J.look
  obtain ⟨m, hF⟩ := I2.fr
  exact binR D hF I2.ok.mod.kin J rfl T (wpAny_mono (run_fnS (us := [.ref p, .int i tk]) (vs := [.ref p, .int i]) F hr hb (hx σ) I2 (.cons rfl (.cons ⟨_, rfl⟩ .nil)) q) (fun _ _ z => cmpBack_of z) fun _ _ z => z)

/-! ### f(e, ..), f an instance of C with its own __call__ -/
def tCallI (C : Addr) (sp : Sp) (E : St → XK) (tf : TE) (t : TA) : TE := fun σ H Q => tf σ H fun y H1 => ∃ a, y = V.ref a ∧ t σ H1 fun vs H2 => (∃ dx fs, H2 a = some (.ins C dx fs)) ∧ sp (V.ref a :: vs) H2 Q (E σ)
theorem pe_callI {g : Addr} {fe : Expr} {tf : TE} (hf : PE X fe tf) (c : StX.CallO X.K C g) (F : FnOk X.prog X.w X.K X.mg X.base CX k g fd ps sp) (hr : Room k X.A) (hb : Binds X.K fd ps []) (hx : ∀ σ, PassesAt CX X σ (E σ)) (ha : PA X (e :: es) t)
    (ht : eval (.Call fe (e :: es) [] pos) X.env = (do callWith pos (← eval fe X.env) [] (backTo pos (starEach (e :: es) X.env)) (backToKw pos (keywordEach [] X.env))) := by rfl)
    (he : starEach (e :: es) X.env = (false, eval e X.env) :: starEach es X.env := by rfl) (hpl : (backTo pos (starEach es X.env)).any (·.1) = false := by rfl) : PE X (.Call fe (e :: es) [] pos) (tCallI C sp E tf t) := by
  refine ⟨fun pins s σ H Q I h => ?_⟩
  refine Call_ (thn (hf.run pins s σ H _ I h) fun u s1 ⟨y, H1, I1, ry, a, ey, q⟩ => ?_) ht
  subst ey
  obtain rfl : u = Value.ref a := ry
  refine StX.callO_with (thn (ha.run pos pins s1 σ H1 _ I1 q) fun us s2 ⟨vs, H2, I2, r, hi, q2⟩ => ?_) he hpl
  obtain ⟨ox, od, J, hd⟩ := StX.insC_at (C := C) I2 (.inr hi)
  have hl : (Value.ref a :: us).length = ps.length := by
    have r2 : Vals (V.ref a :: vs) (Value.ref a :: us) := .cons rfl r
    rw [← r2.length]; exact F.len _ _ _ _ q2
  have b := hb s2 (.ref a :: us) I2.kIn (by rw [List.append_nil]; exact hl)
  rw [List.append_nil] at b
  refine ⟨⟨C, ox, od, J, hd⟩, wpAny_call (PySem.W.kco_code I2.kIn J hd c.at_ c.fn c.fi (codeAny_mono (F.run X.A X.stack s2 H2 ⟨.ref a :: us, []⟩ (.ref a :: us) (.ref a :: vs) Q (E σ) hr I2.env0 b (.cons rfl r) q2) fun r s' hq => ?_))⟩
  cases r with
  | error e => exact hx σ pins H2 s2 e s' I2 hq
  | ok fl =>
    cases fl with
    | ret u => exact I2.after hq
    | next => exact False.elim hq
    | brk => exact False.elim hq
    | cont => exact False.elim hq

/-- o.f(e, ..), where the field f of o holds an instance of C with its own __call__ -/
theorem pe_fldI {pl : Sem Bool} {g : Addr} (ho : PE X o ta) (c : StX.CallO X.K C g) (F : FnOk X.prog X.w X.K X.mg X.base CX k g fd ps sp) (hr : Room k X.A) (hb : Binds X.K fd ps []) (hx : ∀ σ, PassesAt CX X σ (E σ)) (ha : PA X (e :: es) t)
    (he : starEach (e :: es) X.env = (false, eval e X.env) :: starEach es X.env := by rfl) (hpl : (backTo pos (starEach es X.env)).any (·.1) = false := by rfl)
    (ht : eval (.Call (.Attribute o m apos) (e :: es) [] pos) X.env = (do
      let ov ← eval o X.env
      standAt apos.atName
      let (f, first) ← holding [ov] (getMethod ov m pl)
      callWith pos f first (backTo pos (starEach (e :: es) X.env)) (backToKw pos (keywordEach [] X.env))) := by rfl) :
    PE X (.Call (.Attribute o m apos) (e :: es) [] pos) (tCallI C sp E (tFld X.K ta m) t) := by
  refine ⟨fun pins s σ H Q I h => ?_⟩
  refine PySem.W.methodCall_KW (pl := pl) (thn (ho.run pins s σ H _ I h) fun u s0 ⟨x0, H0, I0, rx, a0, C0, dx0, fs0, v0, ex, ea, c0, n0, l0, a, ey, q⟩ => ?_) ht
  subst ex
  obtain rfl : u = Value.ref a0 := rx
  obtain ⟨mA, O, _, _, _, _⟩ := ins_get I0.hok ea
  obtain ⟨od0, J0, _⟩ := O.look
  refine PySem.W.method_usual (r := none) I0.kIn J0 (PySem.W.plainGet_of c0.pg).1 (PySem.W.plainGet_of c0.pg).2 n0 rfl (getattr_ok I0 ea c0 n0 l0 fun u1 s1 I1 ru => ?_)
  subst ey
  obtain rfl : u1 = Value.ref a := ru
  refine StX.callO_with (thn (ha.run pos pins s1 σ H0 _ I1 q) fun us s2 ⟨vs, H2, I2, r, hi, q2⟩ => ?_) he hpl
  obtain ⟨ox, od, J, hd⟩ := StX.insC_at (C := C) I2 (.inr hi)
  have hl : (Value.ref a :: us).length = ps.length := by
    have r2 : Vals (V.ref a :: vs) (Value.ref a :: us) := .cons rfl r
    rw [← r2.length]; exact F.len _ _ _ _ q2
  have b := hb s2 (.ref a :: us) I2.kIn (by rw [List.append_nil]; exact hl)
  rw [List.append_nil] at b
  refine ⟨⟨C, ox, od, J, hd⟩, wpAny_call (PySem.W.kco_code I2.kIn J hd c.at_ c.fn c.fi (codeAny_mono (F.run X.A X.stack s2 H2 ⟨.ref a :: us, []⟩ (.ref a :: us) (.ref a :: vs) Q (E σ) hr I2.env0 b (.cons rfl r) q2) fun r s' hq => ?_))⟩
  cases r with
  | error e => exact hx σ pins H2 s2 e s' I2 hq
  | ok fl =>
    cases fl with
    | ret u => exact I2.after hq
    | next => exact False.elim hq
    | brk => exact False.elim hq
    | cont => exact False.elim hq

/-! ### x == y, x an instance of C with its own __eq__, y anything -/
def rEqO (K : PySem.W.Frag) (C : Addr) (sp : Sp) : R2 := fun x y H Q => ∃ a dx fs t, x = .ref a ∧ H a = some (.ins C dx fs) ∧ TyX K H y t ∧ PySem.W.notFirst K C t = true ∧ sp [x, y] H Q E0
theorem op_eqO (hs : PySem.W.findIn X.K (.ref C) "__eq__" = some (some (.ref f))) (hf : PySem.W.isFn X.K (.ref f) = true) (F : FnOk X.prog X.w X.K X.mg X.base CX k f fd ps sp) (hr : Room k X.A) (hb : Binds X.K fd ps []) (hx : ∀ σ, PassesAt CX X σ E0) : OpR X (compareOp .Eq) (rEqO X.K C sp) := by
  intro pins s σ H x y v u Q I rx ry hq
  obtain ⟨p, dx, fs, t, rfl, hp, ty, hn, q⟩ := hq
  obtain rfl : v = Value.ref p := rx
  obtain ⟨mA, J, _⟩ := ins_get I.hok hp
  obtain ⟨od, J, _⟩ := J.look
  obtain ⟨m, hF⟩ := I.fr
  show wpAny (model X.prog X.w) X.A (richCompare .Eq (.ref p) u) (EP X pins σ Q) X.xe s
  obtain ⟨P, kx, hP, hne⟩ := kit_of I ry ty
  refine PySem.W.cmp_K (op := .Eq) (tb := t) hr.units0 hF I.ok.mod.kin J ?_ hn hs hf (wpAny_mono (run_fnS (E := fun _ => E0) (us := [.ref p, u]) (vs := [.ref p, y]) F hr hb (hx σ) I (.cons rfl (.cons ry .nil)) q) (fun _ _ z => cmpBack_of z) fun _ _ z => z)
  exact kx.ty _ _ I.kIn hP

/-! ### x != y, x an instance of C with its own __eq__ and object's __ne__ -/
theorem ifBound_ne {prog : Program} {w : World} {A : Around} {E : Value → Shared → Prop} {s : Shared} {K : PySem.W.Frag} {x C : Addr} {ox : Obj} {od : Option Obj} {b : Value} {Q : Option Value → Shared → Prop} (Kin : K.In s.heap) (I : PySem.W.InstAt s.heap x ox C od) (hs : PySem.W.findIn K (.ref C) "__ne__" = some (some (.builtin "object.__ne__")))
    (h : wpAny (model prog w) A (call (.builtin "object.__ne__") [.ref x, b]) (fun v => Q (some v)) E s) : wpAny (model prog w) A (callSpecialIfBound? (.ref x) "__ne__" [b]) Q E s := by
  unfold callSpecialIfBound? bindSpecialIfBound?
  have hlook := PySem.W.looks_findIn (M := model prog w) Kin hs
  have hbd : bindSpecial (.builtin "object.__ne__") (.ref x) = pure (.builtin "object.__ne__", [.ref x]) := F.slot_object_ne.bind _
  have fin : wpAny (model prog w) A (call (.builtin "object.__ne__") ([.ref x] ++ [b]) >>= fun v => pure (some v)) Q E s := wpAny_bind (wpAny_mono h (fun v s' z => wpAny_pure z) fun _ _ z => z)
  refine wpAny_holding (wpAny_bind (wpAny_bind (wpAny_bind (I.type.here (hlook.here ?_)))))
  refine wpAny_bind (wpAny_askSetting (wpAny_ite ?_))
  split
  · exact wpAny_bind (wpAny_of_eq hbd (wpAny_pure fin))
  · exact wpAny_tryCatch (wpAny_bind (wpAny_of_eq hbd (wpAny_pure fin)))
def rNeO (K : PySem.W.Frag) (C : Addr) (sp : Sp) : R2 := fun x y H Q => ∃ a dx fs t, x = .ref a ∧ H a = some (.ins C dx fs) ∧ TyX K H y t ∧ PySem.W.notFirst K C t = true ∧ sp [x, y] H (fun v H' => ∃ b, v = .bl b ∧ Q (.bl (!b)) H') E0
theorem op_neO (hne : PySem.W.findIn X.K (.ref C) "__ne__" = some (some (.builtin "object.__ne__"))) (hob : PySem.W.mroIn X.K C (.type "object") = some true) (hs : PySem.W.findIn X.K (.ref C) "__eq__" = some (some (.ref f))) (hf : PySem.W.isFn X.K (.ref f) = true)
    (F : FnOk X.prog X.w X.K X.mg X.base CX k f fd ps sp) (hr : Room (k + 1) X.A) (hb : Binds X.K fd ps []) (hx : ∀ σ, PassesAt CX X σ E0) : OpR X (compareOp .NotEq) (rNeO X.K C sp) := by
  intro pins s σ H x y v u Q I rx ry hq
  obtain ⟨p, dx, fs, t, rfl, hp, ty, hn, q⟩ := hq
  obtain rfl : v = Value.ref p := rx
  obtain ⟨mA, J, _⟩ := ins_get I.hok hp
  obtain ⟨od, J, _⟩ := J.look
  obtain ⟨P, kx, hP, _⟩ := kit_of I ry ty
  have hty := kx.ty (model X.prog X.w) _ I.kIn hP
  have KX := I.kIn
  -- the own == under object.__ne__
  have hsp := q
  have r2 : Vals [V.ref p, y] [Value.ref p, u] := .cons rfl (.cons ry .nil)
  have hl : ([Value.ref p, u] : List Value).length = ps.length := by
    rw [← r2.length]; exact F.len _ _ _ _ hsp
  have bb := hb s [.ref p, u] KX (by rw [List.append_nil]; exact hl)
  rw [List.append_nil] at bb
  have own : wpAny (model X.prog X.w) X.A.in1 (call (.ref f) [.ref p, u]) (EP X pins σ (fun v H' => ∃ b, v = .bl b ∧ Q (.bl (!b)) H')) X.xe s := by
    refine wpAny_call (codeAny_mono (F.run X.A.in1 X.stack s H ⟨[.ref p, u], []⟩ [.ref p, u] [.ref p, y] _ E0 hr.in1 I.env0.in1 bb r2 hsp) fun r s' hq => ?_)
    cases r with
    | error e => exact hx σ pins H s e s' I hq
    | ok fl =>
      cases fl with
      | ret u => exact I.after hq
      | next => exact False.elim hq
      | brk => exact False.elim hq
      | cont => exact False.elim hq
  have isob : PySem.W.Looks (model X.prog X.w) s.heap (isInstance (.ref p) (.type "object")) true := J.type.andThen (PySem.W.looks_mroIn KX hob)
  have nec : wpAny (model X.prog X.w) X.A (call (.builtin "object.__ne__") [.ref p, u]) (fun v s' => ∃ b, v = .bool b ∧ EP X pins σ Q (.bool b) s') X.xe s := by
    refine wpAny_call (codeAny_call_builtin PySem.F.slot_object_ne.plain PySem.F.entry_object_ne (PySem.W.check_slot (owner := "object") (n := "__ne__") (by decide +kernel) (by decide +kernel) isob (PySem.F.args_object_ne_2 _ _) ?_))
    unfold Builtin.«object.__ne__»
    refine wpAny_bind (wpAny_of_eq (a := (.ref p, [u])) rfl ?_)
    refine wpAny_bind (wpAny_cRoomFor (by have := hr.un; show X.A.units + 1 < cLine; omega) ?_)
    refine wpAny_bind (PySem.W.ifBound_K KX J hs hf (wpAny_mono own (fun v s' z => ?_) fun _ _ z => z))
    obtain ⟨x1, H1, I1, r1, b, rfl, q1⟩ := z
    obtain rfl : v = Value.bool b := r1
    refine wpAny_bind (wpAny_truthy_bool ?_)
    exact wpAny_pure ⟨_, rfl, .bl (!b), H1, I1, rfl, q1⟩
  have one : wpAny (model X.prog X.w) X.A (tryCompare (.ref p) "__ne__" u) (fun r s' => ∃ v, r = some v ∧ EP X pins σ Q v s') X.xe s := by
    unfold tryCompare
    refine wpAny_bind (ifBound_ne KX J hne (wpAny_mono nec (fun v s' z => ?_) fun _ _ z => z))
    obtain ⟨b, rfl, z⟩ := z
    exact wpAny_pure ⟨_, rfl, z⟩
  show wpAny (model X.prog X.w) X.A (richCompare .NotEq (.ref p) u) (EP X pins σ Q) X.xe s
  unfold richCompare
  simp only [PySem.oneThing_ref]
  refine wpAny_holding (wpAny_bind (wpAny_cRoomFor hr.units0 ?_))
  refine wpAny_bind (J.type.here (wpAny_bind (hty.here ?_)))
  split
  · rename_i hc
    have e : PySem.W.subIn X.K t (.ref C) = some false := by
      have hn' := hn
      unfold PySem.W.notFirst at hn'
      rcases Bool.or_eq_true_iff.mp hn' with e | e
      · exact absurd (beq_iff_eq.mp e) (fun z => by rw [z] at hc; simp at hc)
      · exact beq_iff_eq.mp e
    refine wpAny_bind ((PySem.W.looks_subIn KX e).here ?_)
    simp only [Bool.false_eq_true, if_false]
    refine wpAny_bind (wpAny_mono one (fun r s' z => ?_) fun _ _ z => z)
    obtain ⟨v, rfl, z⟩ := z
    exact wpAny_pure z
  · refine wpAny_bind (wpAny_pure ?_)
    simp only [Bool.false_eq_true, if_false]
    refine wpAny_bind (wpAny_mono one (fun r s' z => ?_) fun _ _ z => z)
    obtain ⟨v, rfl, z⟩ := z
    exact wpAny_pure z
end
end L2
namespace G
open PySem PySem.Spec PyProof.Rows L2

/-! ### heaps -/
/-- all but dicts is as it was -/
def Kp (H H' : Hp) : Prop := ∀ a o, H a = some o → (∀ kvs, o ≠ .dK kvs) → H' a = some o
theorem Kp.refl (H : Hp) : Kp H H := fun _ _ h _ => h
theorem Kp.trans {H H1 H2 : Hp} (a : Kp H H1) (b : Kp H1 H2) : Kp H H2 := fun x o h n => b x o (a x o h n) n
theorem Kp.of {H H' : Hp} (s : Same H H') : Kp H H' := fun a o h _ => s a o h
theorem Kp.then {H H1 H2 : Hp} (a : Kp H H1) (b : Same H1 H2) : Kp H H2 := a.trans (Kp.of b)
theorem sget {H H' : Hp} {a : Addr} {o : HO} (s : Same H H') (h : H a = some o) : H' a = some o := s a o h
theorem kget {H H' : Hp} {a : Addr} {o : HO} (s : Kp H H') (h : H a = some o) (n : ∀ kvs, o ≠ .dK kvs) : H' a = some o := s a o h n
theorem same_new {H : Hp} {p : Addr} {o : HO} (h : H p = none) : Same H (upd H p o) := fun a u e => by
  rw [upd_ne (ne_of_none e h)]
  exact e
theorem upd_upd {H : Hp} {p : Addr} {o u : HO} : upd (upd H p o) p u = upd H p u := by
  funext b
  by_cases h : b = p
  · rw [h, upd_same, upd_same]
  · rw [upd_ne h, upd_ne h, upd_ne h]
theorem seqL {K : PySem.W.Frag} {H : Hp} {a : Addr} {xs : List V} (h : H a = some (.lst xs)) : SqL K H a xs := SqL.of h
theorem seqT {K : PySem.W.Frag} {H : Hp} {a : Addr} {xs : List V} (h : H a = some (.tup xs)) : SqT K H a xs := SqT.of h

/-! ### named readings -/
def rAbs : List V → Hp → VK → Prop := fun xs H Q => ∃ i, xs = [.int i] ∧ Q (.int (if i < 0 then -i else i)) H
def rMax2 : List V → Hp → VK → Prop := fun xs H Q => ∃ i j, xs = [.int i, .int j] ∧ Q (.int (if j > i then j else i)) H
def rMin2 : List V → Hp → VK → Prop := fun xs H Q => ∃ i j, xs = [.int i, .int j] ∧ Q (.int (if j < i then j else i)) H
def rInt1 : List V → Hp → VK → Prop := fun xs H Q => (∃ i, xs = [.int i] ∧ Q (.int i) H) ∨ ∃ k, xs = [.bl k] ∧ Q (.int (if k then 1 else 0)) H
def rStrI : List V → Hp → VK → Prop := fun xs H Q => ∃ i, xs = [.int i] ∧ i.natAbs.log2 < 1920 ∧ Q (.str (toString i)) H
def rLenSeq (K : PySem.W.Frag) : List V → Hp → VK → Prop := fun xs H Q => ∃ p ys, xs = [.ref p] ∧ (SqL K H p ys ∨ SqT K H p ys) ∧ Q (.int ys.length) H
def rLenStr : List V → Hp → VK → Prop := fun xs H Q => ∃ z, xs = [.str z] ∧ z.length ≤ sizeLine ∧ Q (.int z.length) H
def rListOf (K : PySem.W.Frag) : List V → Hp → VK → Prop := fun xs H Q => ∃ p ys, xs = [.ref p] ∧ (SqL K H p ys ∨ SqT K H p ys) ∧ ∀ l, H l = none → Q (.ref l) (upd H l (.lst ys))
def rTupleOf (K : PySem.W.Frag) : List V → Hp → VK → Prop := fun xs H Q => ∃ p ys, xs = [.ref p] ∧ ((SqL K H p ys ∧ ∀ l, H l = none → Q (.ref l) (upd H l (.tup ys))) ∨ (SqT K H p ys ∧ Q (.ref p) H))
def rIsN : R2 := fun x y H Q => y = .non ∧ Q (.bl (decide (x = .non))) H
def rNotN : R2 := fun x y H Q => y = .non ∧ Q (.bl (!decide (x = .non))) H
section
variable {X : Cx}
theorem cAbs : CallR X (.builtin "abs") rAbs := call_abs
theorem cMax2 (hc : X.calm = true) : CallR X (.builtin "max") rMax2 := call_max2 hc
theorem cMin2 (hc : X.calm = true) : CallR X (.builtin "min") rMin2 := call_min2 hc
theorem cInt1 : CallR X (.type "int") rInt1 := call_int1
theorem cStrI : CallR X (.type "str") rStrI := call_str_int
theorem cLenSeq : CallR X (.builtin "len") (rLenSeq X.K) := call_len_seq
theorem cLenStr : CallR X (.builtin "len") rLenStr := call_len_str
theorem cListOf : CallR X (.type "list") (rListOf X.K) := call_list_of
theorem cTupleOf : CallR X (.type "tuple") (rTupleOf X.K) := call_tuple_of
theorem oIsN : OpR X (compareOp .Is) rIsN := op_isN
theorem oNotN : OpR X (compareOp .IsNot) rNotN := op_notN
end

/-! ### expressions -/
def rNewT (xs : List V) (H : Hp) (Q : VK) : Prop := xs.length ≤ sizeLine ∧ ∀ p, H p = none → Q (.ref p) (upd H p (.tup xs))
def rNewL (xs : List V) (H : Hp) (Q : VK) : Prop := xs.length ≤ sizeLine ∧ ∀ p, H p = none → Q (.ref p) (upd H p (.lst xs))
def rFld (K : PySem.W.Frag) (f : Str) (x : V) (H1 : Hp) (Q : VK) : Prop := ∃ a C dx fs v, x = .ref a ∧ H1 a = some (.ins C dx fs) ∧ Cls K C ∧ NoAttr K C f ∧ fs.lookup f = some v ∧ Q v H1
def rFldS (K : PySem.W.Frag) (f : Str) (y x : V) (H2 : Hp) (k : Hp → Prop) : Prop := ∃ a C dx fs, x = .ref a ∧ H2 a = some (.ins C dx fs) ∧ Cls K C ∧ NoAttr K C f ∧ fs.length < 1000 ∧ k (upd H2 a (.ins C dx (putF f y fs)))
def rDGet (x y : V) (H2 : Hp) (Q : VK) : Prop := ∃ a v, x = .ref a ∧ DGet H2 a y (some v) ∧ Q v H2
def rDPut (v x y : V) (H3 : Hp) (k : Hp → Prop) : Prop := ∃ a H4, x = .ref a ∧ DPut H3 a y v H4 ∧ k H4
def rMake (C : Addr) (sp : Sp) (E : XK) (vs : List V) (H1 : Hp) (Q : VK) : Prop := ∀ x dx, H1 x = none → H1 dx = none → dx ≠ x → sp (.ref x :: vs) (upd (upd H1 dx (.own x)) x (.ins C dx [])) (fun v H2 => v = .non ∧ Q (.ref x) H2) E
section
variable {K : PySem.W.Frag} {σ : L2.St} {H : Hp} {Q : VK} {ta tb tc te : TE} {t u : TT} {tr : TA} {i : Nat} {v x y : V} {a b : Int} {r : R2}
theorem var (h : σ[i]? = some (some v)) (q : Q v H) : tVar i σ H Q := ⟨v, h, q⟩
theorem cst (q : Q v H) : tC v σ H Q := q
theorem op (q : ta σ H fun x H1 => tb σ H1 fun y H2 => r x y H2 Q) : tOp r ta tb σ H Q := q
theorem un {r : V → Hp → VK → Prop} (q : ta σ H fun x H1 => r x H1 Q) : tUn r ta σ H Q := q
theorem I0 {g : Int → Int → V} (q : Q (g a b) H) : rI0 g (.int a) (.int b) H Q := ⟨a, b, rfl, rfl, q⟩
theorem I1 {C : Int → Int → Prop} {g : Int → Int → V} (c : C a b) (q : Q (g a b) H) : rI C g (.int a) (.int b) H Q := ⟨a, b, rfl, rfl, c, q⟩
theorem mulL {g : Int → Int → V} (h1 : -18446744073709551616 < a) (h2 : a < 18446744073709551616) (q : Q (g a b) H) : rI CMul g (.int a) (.int b) H Q := ⟨a, b, rfl, rfl, .inl ⟨h1, h2⟩, q⟩
theorem mulR {g : Int → Int → V} (h1 : -18446744073709551616 < b) (h2 : b < 18446744073709551616) (q : Q (g a b) H) : rI CMul g (.int a) (.int b) H Q := ⟨a, b, rfl, rfl, .inr ⟨h1, h2⟩, q⟩
theorem nat140 {x : Int} (h1 : -10000000000000000000000000000000000000000 < x) (h2 : x < 10000000000000000000000000000000000000000) : x.natAbs < 2 ^ 140 := by
  have e : (2 : Nat) ^ 140 = 1393796574908163946345982392040522594123776 := by decide +kernel
  omega
theorem mulW {g : Int → Int → V} (h1 : -10000000000000000000000000000000000000000 < a) (h2 : a < 10000000000000000000000000000000000000000) (h3 : -10000000000000000000000000000000000000000 < b) (h4 : b < 10000000000000000000000000000000000000000) (q : Q (g a b) H) : rI CMulW g (.int a) (.int b) H Q :=
  ⟨a, b, rfl, rfl, wide_mul (nat140 h1 h2) (nat140 h3 h4) (by decide) (by decide) (by decide), q⟩
theorem fdiv {g : Int → Int → V} (h1 : 0 < b) (h2 : b < 1073741824) (q : Q (g a b) H) : rI CDiv g (.int a) (.int b) H Q := ⟨a, b, rfl, rfl, ⟨h1, h2⟩, q⟩
theorem md {g : Int → Int → V} (h1 : 0 < b) (q : Q (g a b) H) : rI (fun _ j => 0 < j) g (.int a) (.int b) H Q := ⟨a, b, rfl, rfl, h1, q⟩
theorem pow {g : Int → Int → V} (h0 : 0 ≤ b) (h1 : b ≤ 1000000) (h2 : a.natAbs < 2 ^ 64) (q : Q (g a b) H) : rI CPow g (.int a) (.int b) H Q := ⟨a, b, rfl, rfl, ⟨h0, h1, h2⟩, q⟩
theorem pow18 (q : Q (.int 1000000000000000000) H) : rI CPow (fun i j => .int (i ^ j.toNat)) (.int 10) (.int 18) H Q := ⟨10, 18, rfl, rfl, ⟨by decide, by decide, by decide⟩, q⟩
theorem pow6 (q : Q (.int 1000000) H) : rI CPow (fun i j => .int (i ^ j.toNat)) (.int 10) (.int 6) H Q := ⟨10, 6, rfl, rfl, ⟨by decide, by decide, by decide⟩, q⟩
theorem pow30 (q : Q (.int 1000000000000000000000000000000) H) : rI CPow (fun i j => .int (i ^ j.toNat)) (.int 10) (.int 30) H Q := ⟨10, 30, rfl, rfl, ⟨by decide, by decide, by decide⟩, q⟩
theorem pow29 (q : Q (.int 100000000000000000000000000000) H) : rI CPow (fun i j => .int (i ^ j.toNat)) (.int 10) (.int 29) H Q := ⟨10, 29, rfl, rfl, ⟨by decide, by decide, by decide⟩, q⟩
theorem pow3 (q : Q (.int 1000) H) : rI CPow (fun i j => .int (i ^ j.toNat)) (.int 10) (.int 3) H Q := ⟨10, 3, rfl, rfl, ⟨by decide, by decide, by decide⟩, q⟩
theorem U1 {g : Int → V} (q : Q (g a) H) : rU g (.int a) H Q := ⟨a, rfl, q⟩
theorem eq (s : scal x y = true) (q : Q (.bl (decide (x = y))) H) : rEq x y H Q := ⟨s, q⟩
theorem ne (s : scal x y = true) (q : Q (.bl (!decide (x = y))) H) : rNe x y H Q := ⟨s, q⟩
theorem dint : decide (V.int a = V.int b) = decide (a = b) := by
  by_cases h : a = b
  · simp [h]
  · simp [h]
theorem eqI (q : Q (.bl (decide (a = b))) H) : rEq (.int a) (.int b) H Q := ⟨rfl, by rw [dint]; exact q⟩
theorem neI (q : Q (.bl (!decide (a = b))) H) : rNe (.int a) (.int b) H Q := ⟨rfl, by rw [dint]; exact q⟩
theorem isN (q : Q (.bl (decide (x = .non))) H) : rIsN x .non H Q := ⟨rfl, q⟩
theorem notN (q : Q (.bl (!decide (x = .non))) H) : rNotN x .non H Q := ⟨rfl, q⟩
theorem test {Q : Bool → Hp → Prop} (q : te σ H fun x H' => ∃ k, x = .bl k ∧ Q k H') : tTest te σ H Q := q
theorem tBv {Q : Bool → Hp → Prop} (q : te σ H fun x H' => ∃ k, x = .bl k ∧ Q k H') : tB te σ H Q := q
theorem bl {Q : Bool → Prop} {k : Bool} (q : Q k) : ∃ c, (V.bl k) = .bl c ∧ Q c := ⟨k, rfl, q⟩
theorem and {Q : Bool → Hp → Prop} (q : t σ H fun c H1 => if c = true then u σ H1 Q else Q false H1) : tAnd t u σ H Q := q
theorem or {Q : Bool → Hp → Prop} (q : t σ H fun c H1 => if c = true then Q true H1 else u σ H1 Q) : tOr t u σ H Q := q
theorem not {Q : Bool → Hp → Prop} (q : t σ H fun c H1 => Q (!c) H1) : tNot t σ H Q := q
theorem andV (q : ta σ H fun x H1 => ∃ c, x = .bl c ∧ if c = true then tb σ H1 Q else Q (.bl false) H1) : tAndV ta tb σ H Q := q
theorem orV (q : ta σ H fun x H1 => ∃ c, x = .bl c ∧ if c = true then Q (.bl true) H1 else tb σ H1 Q) : tOrV ta tb σ H Q := q
theorem notV (q : ta σ H fun x H1 => ∃ c, x = .bl c ∧ Q (.bl (!c)) H1) : tNotV ta σ H Q := q
theorem ifE (q : t σ H fun c H1 => if c = true then ta σ H1 Q else tb σ H1 Q) : tIf t ta tb σ H Q := q
theorem nil {Q : List V → Hp → Prop} (q : Q [] H) : tNil σ H Q := q
theorem cons {Q : List V → Hp → Prop} (q : ta σ H fun x H1 => tr σ H1 fun xs H2 => Q (x :: xs) H2) : tCons ta tr σ H Q := q
theorem tup (q : tr σ H fun xs H1 => rNewT xs H1 Q) : tTup tr σ H Q := q
theorem lst (q : tr σ H fun xs H1 => rNewL xs H1 Q) : tLst tr σ H Q := q
theorem newT {xs : List V} (h : xs.length ≤ 100000) (q : ∀ p H2, H p = none → Same H H2 → H2 p = some (.tup xs) → Q (.ref p) H2) : rNewT xs H Q := ⟨Nat.le_trans h (by decide), fun p hp => q p _ hp (same_new hp) upd_same⟩
theorem newL {xs : List V} (h : xs.length ≤ 100000) (q : ∀ p H2, H p = none → Same H H2 → H2 p = some (.lst xs) → Q (.ref p) H2) : rNewL xs H Q := ⟨Nat.le_trans h (by decide), fun p hp => q p _ hp (same_new hp) upd_same⟩
theorem fld {f : Str} (q : ta σ H fun x H1 => rFld K f x H1 Q) : tFld K ta f σ H Q := q
theorem fldV {f : Str} {p C dx : Addr} {fs : List (Str × V)} (h : H p = some (.ins C dx fs)) (c : Cls K C) (n : NoAttr K C f) (l : fs.lookup f = some v) (q : Q v H) : rFld K f (.ref p) H Q := ⟨p, C, dx, fs, v, rfl, h, c, n, l, q⟩
theorem call {sp : Sp} {E : L2.St → XK} (q : tr σ H fun vs H1 => sp vs H1 Q (E σ)) : tCallS sp E tr σ H Q := q
theorem cb {r : List V → Hp → VK → Prop} (q : tr σ H fun vs H1 => r vs H1 Q) : tCB r tr σ H Q := q
theorem make {C : Addr} {sp : Sp} {E : L2.St → XK} (q : tr σ H fun vs H1 => rMake C sp (E σ) vs H1 Q) : tMakeS C sp E tr σ H Q := q
theorem dget (q : ta σ H fun x H1 => tb σ H1 fun y H2 => rDGet x y H2 Q) : tDGet ta tb σ H Q := q
theorem dgetS {p : Addr} {kvs : List (Key × V)} {k : Str} (h : H p = some (.dK kvs)) (l : valV kvs (Sum.inr k) = some v) (q : Q v H) : rDGet (.ref p) (.str k) H Q := ⟨p, v, rfl, l ▸ DGet.k (k := Sum.inr k) h, q⟩
theorem abs (q : Q (.int a.natAbs) H) : rAbs [.int a] H Q := ⟨a, rfl, by
  have e : (if a < 0 then -a else a) = (a.natAbs : Int) := by
    split <;> omega
  rw [e]; exact q⟩
theorem max2 (q : Q (.int (max a b)) H) : rMax2 [.int a, .int b] H Q := ⟨a, b, rfl, by
  have e : (if b > a then b else a) = max a b := by
    split <;> omega
  rw [e]; exact q⟩
theorem min2 (q : Q (.int (min a b)) H) : rMin2 [.int a, .int b] H Q := ⟨a, b, rfl, by
  have e : (if b < a then b else a) = min a b := by
    split <;> omega
  rw [e]; exact q⟩
theorem int1 (q : Q (.int a) H) : rInt1 [.int a] H Q := .inl ⟨a, rfl, q⟩
theorem strI (h : a.natAbs.log2 < 1920) (q : Q (.str (toString a)) H) : rStrI [.int a] H Q := ⟨a, rfl, h, q⟩
theorem lenL {p : Addr} {xs : List V} (h : H p = some (.lst xs)) (q : Q (.int xs.length) H) : rLenSeq K [.ref p] H Q := ⟨p, xs, rfl, .inl (SqL.of h), q⟩
theorem lenT {p : Addr} {xs : List V} (h : H p = some (.tup xs)) (q : Q (.int xs.length) H) : rLenSeq K [.ref p] H Q := ⟨p, xs, rfl, .inr (SqT.of h), q⟩
theorem lenS {z : Str} (h : z.length ≤ 100000) (q : Q (.int z.length) H) : rLenStr [.str z] H Q := ⟨z, rfl, Nat.le_trans h (by decide), q⟩
theorem listOfL {p : Addr} {xs : List V} (h : H p = some (.lst xs)) (q : ∀ l H2, H l = none → Same H H2 → H2 l = some (.lst xs) → Q (.ref l) H2) : rListOf K [.ref p] H Q := ⟨p, xs, rfl, .inl (SqL.of h), fun l hl => q l _ hl (same_new hl) upd_same⟩
theorem listOfT {p : Addr} {xs : List V} (h : H p = some (.tup xs)) (q : ∀ l H2, H l = none → Same H H2 → H2 l = some (.lst xs) → Q (.ref l) H2) : rListOf K [.ref p] H Q := ⟨p, xs, rfl, .inr (SqT.of h), fun l hl => q l _ hl (same_new hl) upd_same⟩
theorem tupleOfL {p : Addr} {xs : List V} (h : H p = some (.lst xs)) (q : ∀ l H2, H l = none → Same H H2 → H2 l = some (.tup xs) → Q (.ref l) H2) : rTupleOf K [.ref p] H Q := ⟨p, xs, rfl, .inl ⟨SqL.of h, fun l hl => q l _ hl (same_new hl) upd_same⟩⟩
theorem tupleOfT {p : Addr} {xs : List V} (h : H p = some (.tup xs)) (q : Q (.ref p) H) : rTupleOf K [.ref p] H Q := ⟨p, xs, rfl, .inr ⟨SqT.of h, q⟩⟩
theorem ixL {p : Addr} {xs : List V} (h : H p = some (.lst xs)) (l : atI xs a = some v) (q : Q v H) : rIxL K (.ref p) (.int a) H Q := ⟨p, xs, a, v, rfl, rfl, SqL.of h, l, q⟩
theorem ixT {p : Addr} {xs : List V} (h : H p = some (.tup xs)) (l : atI xs a = some v) (q : Q v H) : rIxT K (.ref p) (.int a) H Q := ⟨p, xs, a, v, rfl, rfl, SqT.of h, l, q⟩
theorem own {C : Addr} {sp : Sp} {E : L2.St → XK} (q : ta σ H fun x H1 => tb σ H1 fun y H2 => ∃ a dx fs, x = .ref a ∧ H2 a = some (.ins C dx fs) ∧ ((∃ b dy gs, y = .ref b ∧ H2 b = some (.ins C dy gs)) ∨ ∃ i, y = .int i) ∧ sp [x, y] H2 Q (E σ)) : tOwn C sp E ta tb σ H Q := q
theorem ownR {C : Addr} {sp : Sp} {E : L2.St → XK} (q : ta σ H fun x H1 => tb σ H1 fun y H2 => ∃ a dx fs i, y = .ref a ∧ H2 a = some (.ins C dx fs) ∧ x = .int i ∧ sp [y, x] H2 Q (E σ)) : tOwnR C sp E ta tb σ H Q := q
theorem inst {C : Addr} {sp : Sp} {E : L2.St → XK} (q : ta σ H fun y H1 => ∃ a, y = V.ref a ∧ tr σ H1 fun vs H2 => (∃ dx fs, H2 a = some (.ins C dx fs)) ∧ sp (V.ref a :: vs) H2 Q (E σ)) : tCallI C sp E ta tr σ H Q := q
theorem refV {p : Addr} {f : Addr → Prop} (q : f p) : ∃ a, V.ref p = V.ref a ∧ f a := ⟨p, rfl, q⟩
def rXf (ea : Addr) (cls : Value) (d : Option Addr) (C : Addr) (f : Str) (x : V) (H1 : Hp) (Q : VK) : Prop := x = .ref ea ∧ cls = .ref C ∧ ∃ (dd : Addr) (fs : List (Str × V)) (v : V), d = some dd ∧ H1 dd = some (.xd fs) ∧ fs.lookup f = some v ∧ Q v H1
theorem xf {ea C : Addr} {cls : Value} {d : Option Addr} {f : Str} (q : te σ H fun x H1 => rXf ea cls d C f x H1 Q) : tXf ea cls d C f te σ H Q := q
theorem xfV {ea C dd : Addr} {f : Str} {fs : List (Str × V)} (h : H dd = some (.xd fs)) (l : fs.lookup f = some v) (q : Q v H) : rXf ea (.ref C) (some dd) C f (.ref ea) H Q := ⟨rfl, rfl, dd, fs, v, rfl, h, l, q⟩
theorem methU {C1 C2 : Addr} {m : Str} {sp1 sp2 : Sp} {E : L2.St → XK} (q : ta σ H fun x H1 => ∃ a dx fs, x = .ref a ∧ fs.lookup m = none ∧ ((H1 a = some (.ins C1 dx fs) ∧ tr σ H1 fun vs H2 => sp1 (x :: vs) H2 Q (E σ)) ∨ (H1 a = some (.ins C2 dx fs) ∧ tr σ H1 fun vs H2 => sp2 (x :: vs) H2 Q (E σ)))) : tMethU C1 C2 m sp1 sp2 E ta tr σ H Q := q
theorem meth {C : Addr} {m : Str} {sp : Sp} {E : L2.St → XK} (q : ta σ H fun x H1 => ∃ a dx fs, x = .ref a ∧ H1 a = some (.ins C dx fs) ∧ fs.lookup m = none ∧ tr σ H1 fun vs H2 => sp (x :: vs) H2 Q (E σ)) : tMethZ C m sp E ta tr σ H Q := q

/-! ### tests -/
theorem ite {c : Prop} [Decidable c] {A B : Prop} (h1 : c → A) (h2 : ¬ c → B) : if decide c = true then A else B := by
  by_cases h : c
  · rw [if_pos (decide_eq_true h)]; exact h1 h
  · rw [if_neg (by simp [h])]; exact h2 h
theorem iteN {c : Prop} [Decidable c] {A B : Prop} (h1 : c → B) (h2 : ¬ c → A) : if (!decide c) = true then A else B := by
  by_cases h : c
  · rw [if_neg (by simp [h])]; exact h1 h
  · rw [if_pos (by simp [h])]; exact h2 h
theorem iteY {c : Prop} [Decidable c] {A B : Prop} (h : c) (q : A) : if decide c = true then A else B := by
  rw [if_pos (decide_eq_true h)]; exact q
theorem iteZ {c : Prop} [Decidable c] {A B : Prop} (h : ¬ c) (q : B) : if decide c = true then A else B := by
  rw [if_neg (by simp [h])]; exact q
theorem iteNY {c : Prop} [Decidable c] {A B : Prop} (h : c) (q : B) : if (!decide c) = true then A else B := by
  rw [if_neg (by simp [h])]; exact q
theorem iteNZ {c : Prop} [Decidable c] {A B : Prop} (h : ¬ c) (q : A) : if (!decide c) = true then A else B := by
  rw [if_pos (by simp [h])]; exact q
theorem iteT' {A B : Prop} (q : A) : if true = true then A else B := by rw [if_pos rfl]; exact q
theorem iteF' {A B : Prop} (q : B) : if false = true then A else B := by rw [if_neg Bool.false_ne_true]; exact q
theorem iteNT {A B : Prop} (q : B) : if (!true) = true then A else B := by rw [if_neg (by decide)]; exact q
theorem iteNF {A B : Prop} (q : A) : if (!false) = true then A else B := by rw [if_pos (by decide)]; exact q
theorem iteB {k : Bool} {A B : Prop} (h1 : k = true → A) (h2 : k = false → B) : if k = true then A else B := by
  cases k with
  | true => rw [if_pos rfl]; exact h1 rfl
  | false => rw [if_neg Bool.false_ne_true]; exact h2 rfl
end

/-! ### statements -/
section
variable {K : PySem.W.Frag} {σ : L2.St} {H : Hp} {D : Ends} {t u : TS} {te ta tb : TE} {c : TT} {i j : Nat} {tr : TA}
theorem seq (q : t { D with nx := u D } σ H) : tSeq t u D σ H := q
theorem nx {f : L2.St → Hp → Prop} {r : V → Hp → Prop} {b k : L2.St → Hp → Prop} (q : f σ H) : Ends.nx ⟨f, r, b, k⟩ σ H := q
theorem rt {f : L2.St → Hp → Prop} {r : V → Hp → Prop} {b k : L2.St → Hp → Prop} {v : V} (q : r v H) : Ends.rt ⟨f, r, b, k⟩ v H := q
theorem next (q : D.nx σ H) : tNext D σ H := q
theorem asg (q : te σ H fun x H1 => D.nx (σ.set i (some x)) H1) : tAsg te (gName i) D σ H := q
theorem cut (Mid : L2.St → Hp → Prop) (q1 : t { D with nx := Mid } σ H) (q2 : ∀ σ' H', Mid σ' H' → u D σ' H') : Evl.tCut t u D σ H := ⟨Mid, q1, q2⟩
theorem asgG {g : TG} (q : te σ H fun x H1 => g x σ H1 D.nx) : tAsg te g D σ H := q
theorem gtup {n : Nat} {gs : TGs} {p : Addr} {xs : List V} {f : L2.St → Hp → Prop} (h : H p = some (.tup xs)) (hl : xs.length = n) (q : gs xs σ H f) : gTup K n gs (.ref p) σ H f := ⟨p, xs, rfl, SqT.of h, hl, q⟩
theorem gcons {g : TG} {gs : TGs} {v : V} {vs : List V} {f : L2.St → Hp → Prop} (q : g v σ H fun σ' H' => gs vs σ' H' f) : gCons g gs (v :: vs) σ H f := ⟨v, vs, rfl, q⟩
theorem gnil {f : L2.St → Hp → Prop} (q : f σ H) : gNil [] σ H f := ⟨rfl, q⟩
theorem gname {v : V} {f : L2.St → Hp → Prop} (q : f (σ.set i (some v)) H) : gName i v σ H f := q
theorem ret (q : te σ H D.rt) : tRet te D σ H := q
theorem ifS (q : c σ H fun b H1 => if b = true then t D σ H1 else u D σ H1) : tIfS c t u D σ H := q
theorem drop (q : te σ H fun _ H1 => D.nx σ H1) : tDrop te D σ H := q
theorem dput (q : te σ H fun v H1 => ta σ H1 fun x H2 => tb σ H2 fun y H3 => rDPut v x y H3 (D.nx σ)) : sDPut ta tb te D σ H := q
theorem dputS {p : Addr} {kvs : List (Key × V)} {k : Str} {v : V} {f : Hp → Prop} (h : H p = some (.dK kvs)) (hl : kvs.length < 100000) (q : f (upd H p (.dK (putK kvs (Sum.inr k) v)))) : rDPut v (.ref p) (.str k) H f := ⟨p, _, rfl, DPut.k (k := Sum.inr k) h (Nat.lt_of_lt_of_le hl (by decide)), q⟩
theorem fldS {f : Str} (q : te σ H fun y H1 => ta σ H1 fun x H2 => rFldS K f y x H2 (D.nx σ)) : sFld K ta te f D σ H := q
theorem fldSV {f : Str} {p C dx : Addr} {fs : List (Str × V)} {y : V} {k : Hp → Prop} (h : H p = some (.ins C dx fs)) (c : Cls K C) (n : NoAttr K C f) (l : fs.length < 1000) (q : k (upd H p (.ins C dx (putF f y fs)))) : rFldS K f y (.ref p) H k := ⟨p, C, dx, fs, rfl, h, c, n, l, q⟩
theorem par (q : tr σ H fun vs H1 => ∃ v w, vs = [v, w] ∧ D.nx ((σ.set i (some v)).set j (some w)) H1) : tPar i j tr D σ H := q
theorem par3 {l : Nat} (q : tr σ H fun vs H1 => ∃ u v w, vs = [u, v, w] ∧ D.nx (((σ.set i (some u)).set j (some v)).set l (some w)) H1) : tPar3 i j l tr D σ H := q
theorem parV {v w : V} {f : V → V → Prop} (q : f v w) : ∃ a b, [v, w] = [a, b] ∧ f a b := ⟨v, w, rfl, q⟩
theorem parV3 {u v w : V} {f : V → V → V → Prop} (q : f u v w) : ∃ a b c, [u, v, w] = [a, b, c] ∧ f a b c := ⟨u, v, w, rfl, q⟩
def rMkE (C : Addr) (fs : List Str) (vs : List V) (H1 : Hp) (Q : XK) : Prop := vs.length = fs.length ∧ ∀ d, H1 d = none → Q (.ref C) (some d) (upd H1 d (.xd (PySem.ErrX.setL [] fs vs)))
theorem raiseE {C : Addr} {fs : List Str} {W : WX} (q : tr σ H fun vs H1 => rMkE C fs vs H1 (fun cls d H' => W cls d σ H')) : tRaiseE C fs W tr D σ H := q
theorem mkE {C : Addr} {fs : List Str} {vs : List V} {Q : XK} (h : vs.length = fs.length) (q : ∀ d H', H d = none → Same H H' → H' d = some (.xd (PySem.ErrX.setL [] fs vs)) → Q (.ref C) (some d) H') : rMkE C fs vs H Q := ⟨h, fun d hd => q d _ hd (same_new hd) upd_same⟩
/-- for i in range(n) -/
def rForR (D : Ends) (j : Nat) (tb : TS) (σ : L2.St) (vs : List V) (H : Hp) : Prop := ∃ n : Int, vs = [.int n] ∧ -(2 ^ 62) ≤ n ∧ n < 2 ^ 62 ∧ ∃ W : Nat → Nat → L2.St → Hp → Prop, (∃ m, W 0 m σ H) ∧ ∀ i m σ H, W i m σ H →
  ((Itr 0 n.toNat).stop i H ∧ D.nx σ H) ∨ ((Itr 0 n.toNat).go i H ∧ ∃ N : L2.St → Hp → Prop, (∀ σ' H', N σ' H' → ∃ m', m' < m ∧ W (i + 1) m' σ' H') ∧ ∀ x H', (Itr 0 n.toNat).yld i H x H' → gName j x σ H' fun σ2 H2 => tb { D with nx := N, ct := N, bk := D.nx } σ2 H2)
theorem forR (q : tr σ H fun vs H1 => rForR D j t σ vs H1) : tFor (iRng1 tr) (gName j) t D σ H := q
theorem forR1 {n : Int} (Pv : Nat → L2.St → Hp → Prop) (hn : 0 ≤ n ∧ n ≤ 1000000000) (h0 : Pv 0 σ H)
    (hs : ∀ (i : Nat) σ' H', (i : Int) < n → Pv i σ' H' → t { D with nx := Pv (i + 1), ct := Pv (i + 1), bk := D.nx } (σ'.set j (some (.int (i : Int)))) H') (hd : ∀ σ' H', Pv n.toNat σ' H' → D.nx σ' H') : rForR D j t σ [.int n] H :=
  ⟨n, rfl, by omega, by omega, for_range (lo := 0) (n := n.toNat) Pv h0 (fun i σ' H' hi p => by
    have e0 : (0 : Int) + (i : Int) = (i : Int) := Int.zero_add _
    show t { D with nx := Pv (i + 1), ct := Pv (i + 1), bk := D.nx } (σ'.set j (some (.int ((0 : Int) + (i : Int))))) H'
    rw [e0]
    exact hs i σ' H' (by omega) p) hd⟩
/-- for a, b in zip(xs, ys), two lists of one length -/
def rForZ (K : PySem.W.Frag) (D : Ends) (g : TG) (tb : TS) (σ : L2.St) (vs : List V) (H : Hp) : Prop := ∃ a b xs ys, vs = [.ref a, .ref b] ∧ SqL K H a xs ∧ SqL K H b ys ∧ ∃ W : Nat → Nat → L2.St → Hp → Prop, (∃ m, W 0 m σ H) ∧ ∀ i m σ H, W i m σ H →
  ((Itz K a b).stop i H ∧ D.nx σ H) ∨ ((Itz K a b).go i H ∧ ∃ N : L2.St → Hp → Prop, (∀ σ' H', N σ' H' → ∃ m', m' < m ∧ W (i + 1) m' σ' H') ∧ ∀ v H', (Itz K a b).yld i H v H' → g v σ H' fun σ2 H2 => tb { D with nx := N, ct := N, bk := D.nx } σ2 H2)
theorem forZ {g : TG} (q : tr σ H fun vs H1 => rForZ K D g t σ vs H1) : tFor (iZip K tr) g t D σ H := q
theorem forZ1 {g : TG} {p q : Addr} {xs ys : List V} (Pv : Nat → L2.St → Hp → Prop) (hx : H p = some (.lst xs)) (hy : H q = some (.lst ys)) (hl : xs.length = ys.length) (h0 : Pv 0 σ H) (hq : ∀ i σ' H', Pv i σ' H' → H' p = some (.lst xs) ∧ H' q = some (.lst ys))
    (hs : ∀ (i : Nat) (x y : V) (T : Addr) σ' H' H'', xs[i]? = some x → ys[i]? = some y → Pv i σ' H' → Same H' H'' → H'' T = some (.tup [x, y]) → g (.ref T) σ' H'' fun σ2 H2 => t { D with nx := Pv (i + 1), ct := Pv (i + 1), bk := D.nx } σ2 H2) (hd : ∀ σ' H', Pv xs.length σ' H' → D.nx σ' H') : rForZ K D g t σ [.ref p, .ref q] H :=
  ⟨p, q, xs, ys, rfl, SqL.of hx, SqL.of hy, RZ.for_zipL hl Pv h0 (fun i σ' H' h => ⟨SqL.of (hq i σ' H' h).1, SqL.of (hq i σ' H' h).2⟩) (fun i x y T σ' H' h1 h2 h3 h4 => hs i x y T σ' H' _ h1 h2 h3 (same_new h4) upd_same) hd⟩
/-- for x in a tuple -/
def rForT (K : PySem.W.Frag) (D : Ends) (g : TG) (tb : TS) (σ : L2.St) (v : V) (H : Hp) : Prop := ∃ a, v = .ref a ∧ (∃ xs, SqT K H a xs) ∧ ∃ W : Nat → Nat → L2.St → Hp → Prop, (∃ m, W 0 m σ H) ∧ ∀ i m σ H, W i m σ H →
  ((Itt K a).stop i H ∧ D.nx σ H) ∨ ((Itt K a).go i H ∧ ∃ N : L2.St → Hp → Prop, (∀ σ' H', N σ' H' → ∃ m', m' < m ∧ W (i + 1) m' σ' H') ∧ ∀ v H', (Itt K a).yld i H v H' → g v σ H' fun σ2 H2 => tb { D with nx := N, ct := N, bk := D.nx } σ2 H2)
theorem forT {g : TG} (q : te σ H fun v H1 => rForT K D g t σ v H1) : tFor (iTup K te) g t D σ H := q
theorem forT1 {g : TG} {p : Addr} {xs : List V} (Pv : Nat → L2.St → Hp → Prop) (hx : H p = some (.tup xs)) (h0 : Pv 0 σ H) (hq : ∀ i σ' H', Pv i σ' H' → H' p = some (.tup xs))
    (hs : ∀ (i : Nat) (x : V) σ' H', xs[i]? = some x → Pv i σ' H' → g x σ' H' fun σ2 H2 => t { D with nx := Pv (i + 1), ct := Pv (i + 1), bk := D.nx } σ2 H2) (hd : ∀ σ' H', Pv xs.length σ' H' → D.nx σ' H') : rForT K D g t σ (.ref p) H :=
  ⟨p, rfl, ⟨xs, SqT.of hx⟩, for_tup Pv h0 (fun i σ' H' _ h => SqT.of (hq i σ' H' h)) hs hd⟩
/-- for x in a list -/
def rForL (K : PySem.W.Frag) (D : Ends) (g : TG) (tb : TS) (σ : L2.St) (v : V) (H : Hp) : Prop := ∃ a, v = .ref a ∧ (∃ xs, SqL K H a xs) ∧ ∃ W : Nat → Nat → L2.St → Hp → Prop, (∃ m, W 0 m σ H) ∧ ∀ i m σ H, W i m σ H →
  ((Itl K a).stop i H ∧ D.nx σ H) ∨ ((Itl K a).go i H ∧ ∃ N : L2.St → Hp → Prop, (∀ σ' H', N σ' H' → ∃ m', m' < m ∧ W (i + 1) m' σ' H') ∧ ∀ v H', (Itl K a).yld i H v H' → g v σ H' fun σ2 H2 => tb { D with nx := N, ct := N, bk := D.nx } σ2 H2)
theorem forL {g : TG} (q : te σ H fun v H1 => rForL K D g t σ v H1) : tFor (iList K te) g t D σ H := q
theorem forL1 {g : TG} {p : Addr} {xs : List V} (Pv : Nat → L2.St → Hp → Prop) (hx : H p = some (.lst xs)) (h0 : Pv 0 σ H) (hq : ∀ i σ' H', Pv i σ' H' → H' p = some (.lst xs))
    (hs : ∀ (i : Nat) (x : V) σ' H', xs[i]? = some x → Pv i σ' H' → g x σ' H' fun σ2 H2 => t { D with nx := Pv (i + 1), ct := Pv (i + 1), bk := D.nx } σ2 H2) (hd : ∀ σ' H', Pv xs.length σ' H' → D.nx σ' H') : rForL K D g t σ (.ref p) H :=
  ⟨p, rfl, ⟨xs, SqL.of hx⟩, for_list Pv h0 (fun i σ' H' _ h => SqL.of (hq i σ' H' h)) hs hd⟩
/-- while, by a word of the state and a measure m -/
theorem whl {c : TT} (W : Nat → L2.St → Hp → Prop) (m : Nat) (h0 : W m σ H) (hs : ∀ m σ H, W m σ H → c σ H fun b H1 => if b = true then t { D with nx := fun σ' H' => ∃ m', m' < m ∧ W m' σ' H', ct := fun σ' H' => ∃ m', m' < m ∧ W m' σ' H', bk := D.nx } σ H1 else D.nx σ H1)
    (mono : ∀ σ H Q Q', (∀ b H1, Q b H1 → Q' b H1) → c σ H Q → c σ H Q') : tWhile c t D σ H := by
  refine ⟨W, ⟨m, h0⟩, fun m σ H w => mono σ H _ _ (fun b H1 q => ?_) (hs m σ H w)⟩
  cases b with
  | true => exact ⟨_, fun σ' H' z => z, q⟩
  | false => exact q
end

/-! ### slices -/
theorem sl {r : V → Option Int → Option Int → Hp → VK → Prop} {te : TE} {tl th : TO} {σ : L2.St} {H : Hp} {Q : VK} (q : te σ H fun x H1 => tl σ H1 fun l H2 => th σ H2 fun u H3 => r x l u H3 Q) : tSl r te tl th σ H Q := q
theorem noPart {σ : L2.St} {H : Hp} {Q : Option Int → Hp → Prop} (q : Q none H) : tNoPart σ H Q := q
theorem part {te : TE} {σ : L2.St} {H : Hp} {Q : Option Int → Hp → Prop} (q : te σ H fun x H1 => ∃ i, x = .int i ∧ Q (some i) H1) : tPart te σ H Q := q
theorem partV {i : Int} {f : Int → Prop} (q : f i) : ∃ j, V.int i = .int j ∧ f j := ⟨i, rfl, q⟩
theorem slT {K : PySem.W.Frag} {H : Hp} {Q : VK} {p : Addr} {xs : List V} {lo hi : Option Int} (h : H p = some (.tup xs)) (n : ¬ (HT.sIx xs.length 0 lo = 0 ∧ HT.sIx xs.length xs.length hi = xs.length)) (q : ∀ t H2, H t = none → Same H H2 → H2 t = some (.tup (cutV xs lo hi)) → Q (.ref t) H2) : rSlT K (.ref p) lo hi H Q :=
  ⟨p, xs, rfl, SqT.of h, n, fun t ht => q t _ ht (same_new ht) upd_same⟩
theorem slL {K : PySem.W.Frag} {H : Hp} {Q : VK} {p : Addr} {xs : List V} {lo hi : Option Int} (h : H p = some (.lst xs)) (q : ∀ t H2, H t = none → Same H H2 → H2 t = some (.lst (cutV xs lo hi)) → Q (.ref t) H2) : rSlL K (.ref p) lo hi H Q :=
  ⟨p, xs, rfl, SqL.of h, fun t ht => q t _ ht (same_new ht) upd_same⟩
/-! ### deep equality of data -/
theorem dpT {K : PySem.W.Frag} {H : Hp} {p : Addr} {xs : List V} {ds : List PyData} (h : H p = some (.tup xs)) (d : DpAll K H xs ds) : Dp K H (.ref p) (.tuple ds) := .tup (SqT.of h) d
theorem dpL {K : PySem.W.Frag} {H : Hp} {p : Addr} {xs : List V} {ds : List PyData} (h : H p = some (.lst xs)) (d : DpAll K H xs ds) : Dp K H (.ref p) (.list ds) := .lst (SqL.of h) d
theorem dpInts {K : PySem.W.Frag} {H : Hp} : ∀ ns : List Int, DpAll K H (ns.map V.int) (ns.map PyData.int)
  | [] => .nil
  | n :: r => .cons (.int n) (dpInts r)
theorem eqD {K : PySem.W.Frag} {H : Hp} {x y : V} {d e : PyData} {Q : VK} {k : Bool} (hx : Dp K H x d) (hy : Dp K H y e) (sd : SeqAt.shaped d = true) (se : SeqAt.shaped e = true) (hk : PyData.eqv d e = k) (q : Q (.bl k) H) : rEqD K x y H Q := ⟨d, e, hx, hy, sd, se, hk ▸ q⟩
theorem neD {K : PySem.W.Frag} {H : Hp} {x y : V} {d e : PyData} {Q : VK} {k : Bool} (hx : Dp K H x d) (hy : Dp K H y e) (sd : SeqAt.shaped d = true) (se : SeqAt.shaped e = true) (hk : PyData.eqv d e = k) (q : Q (.bl (!k)) H) : rNeD K x y H Q := ⟨d, e, hx, hy, sd, se, hk ▸ q⟩
end G
namespace Lw
open PySem L2
def top (i : Nat) : Stmt := PySem.Challenge.pw_loopsize_k21_sums_and_conditions.main.body.getD i (.Pass ⟨0, 0, 0, 0⟩)
abbrev s_common_divisor : Stmt := top 4
abbrev s_Straight_init : Stmt := inClass (top 6) 0
abbrev s_Straight_call : Stmt := inClass (top 6) 1
abbrev s_Straight_eq : Stmt := inClass (top 6) 2
abbrev s_Straight_neg : Stmt := inClass (top 6) 3
abbrev s_Straight_add : Stmt := inClass (top 6) 4
abbrev s_Straight_radd : Stmt := inClass (top 6) 5
abbrev s_Straight_sub : Stmt := inClass (top 6) 6
abbrev s_Straight_rsub : Stmt := inClass (top 6) 7
abbrev s_Straight_mul : Stmt := inClass (top 6) 8
abbrev s_Straight_rmul : Stmt := inClass (top 6) 9
abbrev s_Straight_replaced : Stmt := inClass (top 6) 11
abbrev s_straight_of : Stmt := top 8
abbrev s_AtLeast_init : Stmt := inClass (top 10) 0
abbrev s_AtLeast_holds : Stmt := inClass (top 10) 1
abbrev s_AtLeast_replaced : Stmt := inClass (top 10) 2
abbrev s_Rest_init : Stmt := inClass (top 11) 0
abbrev s_Rest_holds : Stmt := inClass (top 11) 1
abbrev s_Rest_replaced : Stmt := inClass (top 11) 2
abbrev s_pen : Stmt := top 13
abbrev s_draw : Stmt := top 14
abbrev s_big : Stmt := top 15
abbrev s_between : Stmt := top 16
abbrev s_far : Stmt := top 17
abbrev s_divisor : Stmt := top 18
abbrev s_guard_due : Stmt := top 19
abbrev s_value : Stmt := top 20
abbrev s_guard_holds : Stmt := top 21
abbrev s_three : Stmt := top 22
abbrev s_is_sum : Stmt := top 23
abbrev s_pair_right : Stmt := top 24
abbrev s_guard_right : Stmt := top 25
abbrev s_refused_rest : Stmt := top 26
abbrev s_law : Stmt := top 27
abbrev s_BadNumber_init : Stmt := inClass (top 2) 0
theorem sc_common_divisor : FnScope ["a", "b"] ["a", "b"] (defScope s_common_divisor) := ⟨rfl, rfl, rfl, by decide +kernel, rfl, by decide +kernel, by decide +kernel⟩
theorem sc_Straight_init : FnScope ["self", "i", "n", "one"] ["self", "i", "n", "one"] (defScope s_Straight_init) := ⟨rfl, rfl, rfl, by decide +kernel, rfl, by decide +kernel, by decide +kernel⟩
theorem sc_Straight_call : FnScope ["self", "i", "n"] ["self", "i", "n"] (defScope s_Straight_call) := ⟨rfl, rfl, rfl, by decide +kernel, rfl, by decide +kernel, by decide +kernel⟩
theorem sc_Straight_eq : FnScope ["self", "other"] ["self", "other"] (defScope s_Straight_eq) := ⟨rfl, rfl, rfl, by decide +kernel, rfl, by decide +kernel, by decide +kernel⟩
theorem sc_Straight_neg : FnScope ["self"] ["self"] (defScope s_Straight_neg) := ⟨rfl, rfl, rfl, by decide +kernel, rfl, by decide +kernel, by decide +kernel⟩
theorem sc_Straight_add : FnScope ["self", "other", "more"] ["self", "other"] (defScope s_Straight_add) := ⟨rfl, rfl, rfl, by decide +kernel, rfl, by decide +kernel, by decide +kernel⟩
theorem sc_Straight_radd : FnScope ["self", "other"] ["self", "other"] (defScope s_Straight_radd) := ⟨rfl, rfl, rfl, by decide +kernel, rfl, by decide +kernel, by decide +kernel⟩
theorem sc_Straight_sub : FnScope ["self", "other", "less"] ["self", "other"] (defScope s_Straight_sub) := ⟨rfl, rfl, rfl, by decide +kernel, rfl, by decide +kernel, by decide +kernel⟩
theorem sc_Straight_rsub : FnScope ["self", "other"] ["self", "other"] (defScope s_Straight_rsub) := ⟨rfl, rfl, rfl, by decide +kernel, rfl, by decide +kernel, by decide +kernel⟩
theorem sc_Straight_mul : FnScope ["self", "factor"] ["self", "factor"] (defScope s_Straight_mul) := ⟨rfl, rfl, rfl, by decide +kernel, rfl, by decide +kernel, by decide +kernel⟩
theorem sc_Straight_rmul : FnScope ["self", "factor"] ["self", "factor"] (defScope s_Straight_rmul) := ⟨rfl, rfl, rfl, by decide +kernel, rfl, by decide +kernel, by decide +kernel⟩
theorem sc_Straight_replaced : FnScope ["self", "factor", "shift"] ["self", "factor", "shift"] (defScope s_Straight_replaced) := ⟨rfl, rfl, rfl, by decide +kernel, rfl, by decide +kernel, by decide +kernel⟩
theorem sc_straight_of : FnScope ["value"] ["value"] (defScope s_straight_of) := ⟨rfl, rfl, rfl, by decide +kernel, rfl, by decide +kernel, by decide +kernel⟩
theorem sc_AtLeast_init : FnScope ["self", "straight", "whole", "common"] ["self", "straight"] (defScope s_AtLeast_init) := ⟨rfl, rfl, rfl, by decide +kernel, rfl, by decide +kernel, by decide +kernel⟩
theorem sc_AtLeast_holds : FnScope ["self", "i", "n"] ["self", "i", "n"] (defScope s_AtLeast_holds) := ⟨rfl, rfl, rfl, by decide +kernel, rfl, by decide +kernel, by decide +kernel⟩
theorem sc_AtLeast_replaced : FnScope ["self", "factor", "shift"] ["self", "factor", "shift"] (defScope s_AtLeast_replaced) := ⟨rfl, rfl, rfl, by decide +kernel, rfl, by decide +kernel, by decide +kernel⟩
theorem sc_Rest_init : FnScope ["self", "straight", "modulus", "rest", "whole"] ["self", "straight", "modulus", "rest"] (defScope s_Rest_init) := ⟨rfl, rfl, rfl, by decide +kernel, rfl, by decide +kernel, by decide +kernel⟩
theorem sc_Rest_holds : FnScope ["self", "i", "n"] ["self", "i", "n"] (defScope s_Rest_holds) := ⟨rfl, rfl, rfl, by decide +kernel, rfl, by decide +kernel, by decide +kernel⟩
theorem sc_Rest_replaced : FnScope ["self", "factor", "shift"] ["self", "factor", "shift"] (defScope s_Rest_replaced) := ⟨rfl, rfl, rfl, by decide +kernel, rfl, by decide +kernel, by decide +kernel⟩
theorem sc_pen : FnScope ["_law_script"] ["_law_script"] (defScope s_pen) := ⟨rfl, rfl, rfl, by decide +kernel, rfl, by decide +kernel, by decide +kernel⟩
theorem sc_draw : FnScope ["_law_pen_here", "_law_many", "_law_digit", "_law_spot", "_law_cell", "_law_mixed"] ["_law_pen_here", "_law_many"] (defScope s_draw) := ⟨rfl, rfl, rfl, by decide +kernel, rfl, by decide +kernel, by decide +kernel⟩
theorem sc_big : FnScope ["_law_pen_here", "_law_many", "_law_found", "_law_k"] ["_law_pen_here", "_law_many"] (defScope s_big) := ⟨rfl, rfl, rfl, by decide +kernel, rfl, by decide +kernel, by decide +kernel⟩
theorem sc_between : FnScope ["_law_pen_here", "_law_least", "_law_most", "_law_way", "_law_found"] ["_law_pen_here", "_law_least", "_law_most"] (defScope s_between) := ⟨rfl, rfl, rfl, by decide +kernel, rfl, by decide +kernel, by decide +kernel⟩
theorem sc_far : FnScope ["_law_pen_here", "_law_way"] ["_law_pen_here"] (defScope s_far) := ⟨rfl, rfl, rfl, by decide +kernel, rfl, by decide +kernel, by decide +kernel⟩
theorem sc_divisor : FnScope ["_law_a", "_law_b"] ["_law_a", "_law_b"] (defScope s_divisor) := ⟨rfl, rfl, rfl, by decide +kernel, rfl, by decide +kernel, by decide +kernel⟩
theorem sc_guard_due : FnScope ["_law_guard", "_law_a", "_law_b", "_law_c", "_law_m", "_law_g"] ["_law_guard"] (defScope s_guard_due) := ⟨rfl, rfl, rfl, by decide +kernel, rfl, by decide +kernel, by decide +kernel⟩
theorem sc_value : FnScope ["_law_row", "_law_i", "_law_n", "_law_total"] ["_law_row", "_law_i", "_law_n"] (defScope s_value) := ⟨rfl, rfl, rfl, by decide +kernel, rfl, by decide +kernel, by decide +kernel⟩
theorem sc_guard_holds : FnScope ["_law_guard", "_law_i", "_law_n"] ["_law_guard", "_law_i", "_law_n"] (defScope s_guard_holds) := ⟨rfl, rfl, rfl, by decide +kernel, rfl, by decide +kernel, by decide +kernel⟩
theorem sc_three : FnScope ["_law_pen_here"] ["_law_pen_here"] (defScope s_three) := ⟨rfl, rfl, rfl, by decide +kernel, rfl, by decide +kernel, by decide +kernel⟩
theorem sc_is_sum : FnScope ["_law_found", "_law_due", "_law_i", "_law_n"] ["_law_found", "_law_due", "_law_i", "_law_n"] (defScope s_is_sum) := ⟨rfl, rfl, rfl, by decide +kernel, rfl, by decide +kernel, by decide +kernel⟩
theorem sc_pair_right : FnScope ["_law_pen_here", "_law_a", "_law_b", "_law_c", "_law_x", "_law_y", "_law_z", "_law_one", "_law_other", "_law_k", "_law_i", "_law_n", "_law_found", "_law_due", "_law_told", "_law_row", "_law_way", "_law_near", "_law_f", "_law_s"] ["_law_pen_here"] (defScope s_pair_right) := ⟨rfl, rfl, rfl, by decide +kernel, rfl, by decide +kernel, by decide +kernel⟩
theorem sc_guard_right : FnScope ["_law_pen_here", "_law_i", "_law_n", "_law_a", "_law_b", "_law_c", "_law_whole", "_law_m", "_law_guard", "_law_made", "_law_row", "_law_k", "_law_r", "_law_alone", "_law_left", "_law_f", "_law_s", "_law_moved", "_law_point", "_law_told", "_law_later"] ["_law_pen_here"] (defScope s_guard_right) := ⟨rfl, rfl, rfl, by decide +kernel, rfl, by decide +kernel, by decide +kernel⟩
theorem sc_refused_rest : FnScope ["_law_modulus", "_law_rest", "_law_told", "e"] ["_law_modulus", "_law_rest"] (defScope s_refused_rest) := ⟨rfl, rfl, rfl, by decide +kernel, rfl, by decide +kernel, by decide +kernel⟩
theorem sc_law : FnScope ["_law_script", "_law_pen_here", "_law_turn", "_law_m", "_law_bad", "_law_rest"] ["_law_script"] (defScope s_law) := ⟨rfl, rfl, rfl, by decide +kernel, rfl, by decide +kernel, by decide +kernel⟩
structure Ad where
  a_common_divisor : Addr
  d_common_divisor : FuncData
  a_Straight_init : Addr
  d_Straight_init : FuncData
  a_Straight_call : Addr
  d_Straight_call : FuncData
  a_Straight_eq : Addr
  d_Straight_eq : FuncData
  a_Straight_neg : Addr
  d_Straight_neg : FuncData
  a_Straight_add : Addr
  d_Straight_add : FuncData
  a_Straight_radd : Addr
  d_Straight_radd : FuncData
  a_Straight_sub : Addr
  d_Straight_sub : FuncData
  a_Straight_rsub : Addr
  d_Straight_rsub : FuncData
  a_Straight_mul : Addr
  d_Straight_mul : FuncData
  a_Straight_rmul : Addr
  d_Straight_rmul : FuncData
  a_Straight_replaced : Addr
  d_Straight_replaced : FuncData
  a_straight_of : Addr
  d_straight_of : FuncData
  a_AtLeast_init : Addr
  d_AtLeast_init : FuncData
  a_AtLeast_holds : Addr
  d_AtLeast_holds : FuncData
  a_AtLeast_replaced : Addr
  d_AtLeast_replaced : FuncData
  a_Rest_init : Addr
  d_Rest_init : FuncData
  a_Rest_holds : Addr
  d_Rest_holds : FuncData
  a_Rest_replaced : Addr
  d_Rest_replaced : FuncData
  a_pen : Addr
  d_pen : FuncData
  a_draw : Addr
  d_draw : FuncData
  a_big : Addr
  d_big : FuncData
  a_between : Addr
  d_between : FuncData
  a_far : Addr
  d_far : FuncData
  a_divisor : Addr
  d_divisor : FuncData
  a_guard_due : Addr
  d_guard_due : FuncData
  a_value : Addr
  d_value : FuncData
  a_guard_holds : Addr
  d_guard_holds : FuncData
  a_three : Addr
  d_three : FuncData
  a_is_sum : Addr
  d_is_sum : FuncData
  a_pair_right : Addr
  d_pair_right : FuncData
  a_guard_right : Addr
  d_guard_right : FuncData
  a_refused_rest : Addr
  d_refused_rest : FuncData
  a_law : Addr
  d_law : FuncData
  C_LoopError : Addr
  C_BadNumber : Addr
  a_BadNumber_init : Addr
  C_Straight : Addr
  C_AtLeast : Addr
  C_Rest : Addr
structure Txt (P : Program) (K : PySem.W.Frag) (mg : Str → Option Value) (a : Ad) : Prop where
  F_common_divisor : Fun K "common_divisor" "common_divisor" s_common_divisor a.a_common_divisor a.d_common_divisor
  b_common_divisor : Binds K a.d_common_divisor ["a", "b"] []
  g_common_divisor : mg "common_divisor" = some (.ref a.a_common_divisor)
  F_Straight_init : Fun K "__init__" "Straight.__init__" s_Straight_init a.a_Straight_init a.d_Straight_init
  b_Straight_init : Binds K a.d_Straight_init ["self", "i", "n", "one"] []
  at_Straight_init : PySem.W.findIn K (.ref a.C_Straight) "__init__" = some (some (.ref a.a_Straight_init))
  i_Straight_init : PySem.W.isFn K (.ref a.a_Straight_init) = true
  F_Straight_call : Fun K "__call__" "Straight.__call__" s_Straight_call a.a_Straight_call a.d_Straight_call
  b_Straight_call : Binds K a.d_Straight_call ["self", "i", "n"] []
  at_Straight_call : PySem.W.findIn K (.ref a.C_Straight) "__call__" = some (some (.ref a.a_Straight_call))
  i_Straight_call : PySem.W.isFn K (.ref a.a_Straight_call) = true
  c_Straight_call : StX.CallO K a.C_Straight a.a_Straight_call
  F_Straight_eq : Fun K "__eq__" "Straight.__eq__" s_Straight_eq a.a_Straight_eq a.d_Straight_eq
  b_Straight_eq : Binds K a.d_Straight_eq ["self", "other"] []
  at_Straight_eq : PySem.W.findIn K (.ref a.C_Straight) "__eq__" = some (some (.ref a.a_Straight_eq))
  i_Straight_eq : PySem.W.isFn K (.ref a.a_Straight_eq) = true
  F_Straight_neg : Fun K "__neg__" "Straight.__neg__" s_Straight_neg a.a_Straight_neg a.d_Straight_neg
  b_Straight_neg : Binds K a.d_Straight_neg ["self"] []
  at_Straight_neg : PySem.W.findIn K (.ref a.C_Straight) "__neg__" = some (some (.ref a.a_Straight_neg))
  i_Straight_neg : PySem.W.isFn K (.ref a.a_Straight_neg) = true
  F_Straight_add : Fun K "__add__" "Straight.__add__" s_Straight_add a.a_Straight_add a.d_Straight_add
  b_Straight_add : Binds K a.d_Straight_add ["self", "other"] []
  at_Straight_add : PySem.W.findIn K (.ref a.C_Straight) "__add__" = some (some (.ref a.a_Straight_add))
  i_Straight_add : PySem.W.isFn K (.ref a.a_Straight_add) = true
  F_Straight_radd : Fun K "__radd__" "Straight.__radd__" s_Straight_radd a.a_Straight_radd a.d_Straight_radd
  b_Straight_radd : Binds K a.d_Straight_radd ["self", "other"] []
  at_Straight_radd : PySem.W.findIn K (.ref a.C_Straight) "__radd__" = some (some (.ref a.a_Straight_radd))
  i_Straight_radd : PySem.W.isFn K (.ref a.a_Straight_radd) = true
  F_Straight_sub : Fun K "__sub__" "Straight.__sub__" s_Straight_sub a.a_Straight_sub a.d_Straight_sub
  b_Straight_sub : Binds K a.d_Straight_sub ["self", "other"] []
  at_Straight_sub : PySem.W.findIn K (.ref a.C_Straight) "__sub__" = some (some (.ref a.a_Straight_sub))
  i_Straight_sub : PySem.W.isFn K (.ref a.a_Straight_sub) = true
  F_Straight_rsub : Fun K "__rsub__" "Straight.__rsub__" s_Straight_rsub a.a_Straight_rsub a.d_Straight_rsub
  b_Straight_rsub : Binds K a.d_Straight_rsub ["self", "other"] []
  at_Straight_rsub : PySem.W.findIn K (.ref a.C_Straight) "__rsub__" = some (some (.ref a.a_Straight_rsub))
  i_Straight_rsub : PySem.W.isFn K (.ref a.a_Straight_rsub) = true
  F_Straight_mul : Fun K "__mul__" "Straight.__mul__" s_Straight_mul a.a_Straight_mul a.d_Straight_mul
  b_Straight_mul : Binds K a.d_Straight_mul ["self", "factor"] []
  at_Straight_mul : PySem.W.findIn K (.ref a.C_Straight) "__mul__" = some (some (.ref a.a_Straight_mul))
  i_Straight_mul : PySem.W.isFn K (.ref a.a_Straight_mul) = true
  F_Straight_rmul : Fun K "__rmul__" "Straight.__rmul__" s_Straight_rmul a.a_Straight_rmul a.d_Straight_rmul
  b_Straight_rmul : Binds K a.d_Straight_rmul ["self", "factor"] []
  at_Straight_rmul : PySem.W.findIn K (.ref a.C_Straight) "__rmul__" = some (some (.ref a.a_Straight_rmul))
  i_Straight_rmul : PySem.W.isFn K (.ref a.a_Straight_rmul) = true
  F_Straight_replaced : Fun K "replaced" "Straight.replaced" s_Straight_replaced a.a_Straight_replaced a.d_Straight_replaced
  b_Straight_replaced : Binds K a.d_Straight_replaced ["self", "factor", "shift"] []
  at_Straight_replaced : PySem.W.findIn K (.ref a.C_Straight) "replaced" = some (some (.ref a.a_Straight_replaced))
  i_Straight_replaced : PySem.W.isFn K (.ref a.a_Straight_replaced) = true
  m_Straight_replaced : Meth K a.C_Straight "replaced" a.a_Straight_replaced
  F_straight_of : Fun K "straight_of" "straight_of" s_straight_of a.a_straight_of a.d_straight_of
  b_straight_of : Binds K a.d_straight_of ["value"] []
  g_straight_of : mg "straight_of" = some (.ref a.a_straight_of)
  F_AtLeast_init : Fun K "__init__" "AtLeast.__init__" s_AtLeast_init a.a_AtLeast_init a.d_AtLeast_init
  b_AtLeast_init : Binds K a.d_AtLeast_init ["self", "straight"] []
  at_AtLeast_init : PySem.W.findIn K (.ref a.C_AtLeast) "__init__" = some (some (.ref a.a_AtLeast_init))
  i_AtLeast_init : PySem.W.isFn K (.ref a.a_AtLeast_init) = true
  F_AtLeast_holds : Fun K "holds" "AtLeast.holds" s_AtLeast_holds a.a_AtLeast_holds a.d_AtLeast_holds
  b_AtLeast_holds : Binds K a.d_AtLeast_holds ["self", "i", "n"] []
  at_AtLeast_holds : PySem.W.findIn K (.ref a.C_AtLeast) "holds" = some (some (.ref a.a_AtLeast_holds))
  i_AtLeast_holds : PySem.W.isFn K (.ref a.a_AtLeast_holds) = true
  m_AtLeast_holds : Meth K a.C_AtLeast "holds" a.a_AtLeast_holds
  F_AtLeast_replaced : Fun K "replaced" "AtLeast.replaced" s_AtLeast_replaced a.a_AtLeast_replaced a.d_AtLeast_replaced
  b_AtLeast_replaced : Binds K a.d_AtLeast_replaced ["self", "factor", "shift"] []
  at_AtLeast_replaced : PySem.W.findIn K (.ref a.C_AtLeast) "replaced" = some (some (.ref a.a_AtLeast_replaced))
  i_AtLeast_replaced : PySem.W.isFn K (.ref a.a_AtLeast_replaced) = true
  m_AtLeast_replaced : Meth K a.C_AtLeast "replaced" a.a_AtLeast_replaced
  F_Rest_init : Fun K "__init__" "Rest.__init__" s_Rest_init a.a_Rest_init a.d_Rest_init
  b_Rest_init : Binds K a.d_Rest_init ["self", "straight", "modulus", "rest"] []
  at_Rest_init : PySem.W.findIn K (.ref a.C_Rest) "__init__" = some (some (.ref a.a_Rest_init))
  i_Rest_init : PySem.W.isFn K (.ref a.a_Rest_init) = true
  F_Rest_holds : Fun K "holds" "Rest.holds" s_Rest_holds a.a_Rest_holds a.d_Rest_holds
  b_Rest_holds : Binds K a.d_Rest_holds ["self", "i", "n"] []
  at_Rest_holds : PySem.W.findIn K (.ref a.C_Rest) "holds" = some (some (.ref a.a_Rest_holds))
  i_Rest_holds : PySem.W.isFn K (.ref a.a_Rest_holds) = true
  m_Rest_holds : Meth K a.C_Rest "holds" a.a_Rest_holds
  F_Rest_replaced : Fun K "replaced" "Rest.replaced" s_Rest_replaced a.a_Rest_replaced a.d_Rest_replaced
  b_Rest_replaced : Binds K a.d_Rest_replaced ["self", "factor", "shift"] []
  at_Rest_replaced : PySem.W.findIn K (.ref a.C_Rest) "replaced" = some (some (.ref a.a_Rest_replaced))
  i_Rest_replaced : PySem.W.isFn K (.ref a.a_Rest_replaced) = true
  m_Rest_replaced : Meth K a.C_Rest "replaced" a.a_Rest_replaced
  F_pen : Fun K "_law_pen" "_law_pen" s_pen a.a_pen a.d_pen
  b_pen : Binds K a.d_pen ["_law_script"] []
  g_pen : mg "_law_pen" = some (.ref a.a_pen)
  F_draw : Fun K "_law_draw" "_law_draw" s_draw a.a_draw a.d_draw
  b_draw : Binds K a.d_draw ["_law_pen_here", "_law_many"] []
  g_draw : mg "_law_draw" = some (.ref a.a_draw)
  F_big : Fun K "_law_big" "_law_big" s_big a.a_big a.d_big
  b_big : Binds K a.d_big ["_law_pen_here", "_law_many"] []
  g_big : mg "_law_big" = some (.ref a.a_big)
  F_between : Fun K "_law_between" "_law_between" s_between a.a_between a.d_between
  b_between : Binds K a.d_between ["_law_pen_here", "_law_least", "_law_most"] []
  g_between : mg "_law_between" = some (.ref a.a_between)
  F_far : Fun K "_law_far" "_law_far" s_far a.a_far a.d_far
  b_far : Binds K a.d_far ["_law_pen_here"] []
  g_far : mg "_law_far" = some (.ref a.a_far)
  F_divisor : Fun K "_law_divisor" "_law_divisor" s_divisor a.a_divisor a.d_divisor
  b_divisor : Binds K a.d_divisor ["_law_a", "_law_b"] []
  g_divisor : mg "_law_divisor" = some (.ref a.a_divisor)
  F_guard_due : Fun K "_law_guard_due" "_law_guard_due" s_guard_due a.a_guard_due a.d_guard_due
  b_guard_due : Binds K a.d_guard_due ["_law_guard"] []
  g_guard_due : mg "_law_guard_due" = some (.ref a.a_guard_due)
  F_value : Fun K "_law_value" "_law_value" s_value a.a_value a.d_value
  b_value : Binds K a.d_value ["_law_row", "_law_i", "_law_n"] []
  g_value : mg "_law_value" = some (.ref a.a_value)
  F_guard_holds : Fun K "_law_guard_holds" "_law_guard_holds" s_guard_holds a.a_guard_holds a.d_guard_holds
  b_guard_holds : Binds K a.d_guard_holds ["_law_guard", "_law_i", "_law_n"] []
  g_guard_holds : mg "_law_guard_holds" = some (.ref a.a_guard_holds)
  F_three : Fun K "_law_three" "_law_three" s_three a.a_three a.d_three
  b_three : Binds K a.d_three ["_law_pen_here"] []
  g_three : mg "_law_three" = some (.ref a.a_three)
  F_is_sum : Fun K "_law_is_sum" "_law_is_sum" s_is_sum a.a_is_sum a.d_is_sum
  b_is_sum : Binds K a.d_is_sum ["_law_found", "_law_due", "_law_i", "_law_n"] []
  g_is_sum : mg "_law_is_sum" = some (.ref a.a_is_sum)
  F_pair_right : Fun K "_law_pair_right" "_law_pair_right" s_pair_right a.a_pair_right a.d_pair_right
  b_pair_right : Binds K a.d_pair_right ["_law_pen_here"] []
  g_pair_right : mg "_law_pair_right" = some (.ref a.a_pair_right)
  F_guard_right : Fun K "_law_guard_right" "_law_guard_right" s_guard_right a.a_guard_right a.d_guard_right
  b_guard_right : Binds K a.d_guard_right ["_law_pen_here"] []
  g_guard_right : mg "_law_guard_right" = some (.ref a.a_guard_right)
  F_refused_rest : Fun K "_law_refused_rest" "_law_refused_rest" s_refused_rest a.a_refused_rest a.d_refused_rest
  b_refused_rest : Binds K a.d_refused_rest ["_law_modulus", "_law_rest"] []
  g_refused_rest : mg "_law_refused_rest" = some (.ref a.a_refused_rest)
  F_law : Fun K "law" "law" s_law a.a_law a.d_law
  b_law : Binds K a.d_law ["_law_script"] []
  g_law : mg "law" = some (.ref a.a_law)
  g_LoopError : mg "LoopError" = some (.ref a.C_LoopError)
  g_BadNumber : mg "BadNumber" = some (.ref a.C_BadNumber)
  e_BadNumber : PySem.ErrX.ErrTxt P K mg "BadNumber" a.C_BadNumber a.a_BadNumber_init ["what", "number"]
  x_BadNumber : XfC K a.C_BadNumber
  te_BadNumber : PySem.W.exmOne K (.ref a.C_BadNumber) (.ref a.C_BadNumber) = some true
  g_Straight : mg "Straight" = some (.ref a.C_Straight)
  cl_Straight : Cls K a.C_Straight
  mk_Straight : Mk K a.C_Straight a.a_Straight_init
  na_Straight_i : NoAttr K a.C_Straight "i"
  na_Straight_n : NoAttr K a.C_Straight "n"
  na_Straight_one : NoAttr K a.C_Straight "one"
  ca_Straight : PySem.W.findIn K (.ref a.C_Straight) "__class__" = some (some (.builtin "object.__class__"))
  mo_Straight : PySem.W.mroIn K a.C_Straight (.type "object") = some true
  ne_Straight : PySem.W.findIn K (.ref a.C_Straight) "__ne__" = some (some (.builtin "object.__ne__"))
  g_AtLeast : mg "AtLeast" = some (.ref a.C_AtLeast)
  cl_AtLeast : Cls K a.C_AtLeast
  mk_AtLeast : Mk K a.C_AtLeast a.a_AtLeast_init
  na_AtLeast_straight : NoAttr K a.C_AtLeast "straight"
  ca_AtLeast : PySem.W.findIn K (.ref a.C_AtLeast) "__class__" = some (some (.builtin "object.__class__"))
  mo_AtLeast : PySem.W.mroIn K a.C_AtLeast (.type "object") = some true
  g_Rest : mg "Rest" = some (.ref a.C_Rest)
  cl_Rest : Cls K a.C_Rest
  mk_Rest : Mk K a.C_Rest a.a_Rest_init
  na_Rest_straight : NoAttr K a.C_Rest "straight"
  na_Rest_modulus : NoAttr K a.C_Rest "modulus"
  na_Rest_rest : NoAttr K a.C_Rest "rest"
  ca_Rest : PySem.W.findIn K (.ref a.C_Rest) "__class__" = some (some (.builtin "object.__class__"))
  mo_Rest : PySem.W.mroIn K a.C_Rest (.type "object") = some true
  cg : PySem.W.specialIn K (.builtin "object.__class__") "__get__" = some (some (.builtin "getset_descriptor.__get__"))
  ct : PySem.W.takesIn K (.builtin "object.__class__") = some true
  o_Straight_add : OwnBin K a.C_Straight a.a_Straight_add .Add
  o_Straight_sub : OwnBin K a.C_Straight a.a_Straight_sub .Sub
  o_Straight_radd : OwnBinR K a.C_Straight a.a_Straight_radd a.a_Straight_add .Add
  o_Straight_rsub : OwnBinR K a.C_Straight a.a_Straight_rsub a.a_Straight_sub .Sub
  o_Straight_mul : OwnBin K a.C_Straight a.a_Straight_mul .Mult
  o_Straight_rmul : OwnBinR K a.C_Straight a.a_Straight_rmul a.a_Straight_mul .Mult
  ki_S_S : PySem.W.kitOne K (.ref a.C_Straight) (.ref a.C_Straight) = some true
  ki_int_S : PySem.W.kitOne K (.type "int") (.ref a.C_Straight) = some false
  ki_str_S : PySem.W.kitOne K (.type "str") (.ref a.C_Straight) = some false
  ki_tup_S : PySem.W.kitOne K (.type "tuple") (.ref a.C_Straight) = some false
  nf_S_int : PySem.W.notFirst K a.C_Straight (.type "int") = true
  nf_S_str : PySem.W.notFirst K a.C_Straight (.type "str") = true
  nf_S_tup : PySem.W.notFirst K a.C_Straight (.type "tuple") = true
  n_abs : mg "abs" = none
  n_bool : mg "bool" = none
  n_int : mg "int" = none
  n_isinstance : mg "isinstance" = none
  n_len : mg "len" = none
  n_list : mg "list" = none
  n_max : mg "max" = none
  n_min : mg "min" = none
  n_range : mg "range" = none
  n_str : mg "str" = none
  n_zip : mg "zip" = none
end Lw
local macro_rules | `(tactic| walk_at "hp") => `(tactic| first
  | assumption
  | exact L2.upd_same
  | (refine G.sget (by assumption) ?_; walk_at "hp")
  | (refine G.kget (by assumption) ?_ ?_; (· walk_at "hp"); (· intro _ h; cases h)))
local macro_rules | `(tactic| walk_at "s") => `(tactic| first
  | (with_reducible refine G.seq ?_)
  | (with_reducible refine G.nx ?_)
  | (with_reducible refine G.rt ?_)
  | (with_reducible refine G.next ?_)
  | (with_reducible refine G.asg ?_)
  | (with_reducible refine G.asgG ?_)
  | ((with_reducible refine' G.gtup ?h ?l ?q); (case h => walk_at "hp"); (case l => rfl))
  | (with_reducible refine G.gcons ?_)
  | (with_reducible refine G.gnil ?_)
  | (with_reducible refine G.gname ?_)
  | (with_reducible refine G.inst ?_)
  | (with_reducible refine G.refV ?_)
  | (with_reducible refine G.xf ?_)
  | ((with_reducible refine' G.xfV ?h ?l ?q); (case h => walk_at "hp"); (case l => walk_at "xk"))
  | (with_reducible refine G.ret ?_)
  | (with_reducible refine G.ifS ?_)
  | (with_reducible refine G.drop ?_)
  | ((with_reducible refine' G.var ?h ?q); (case h => rfl))
  | (with_reducible refine G.cst ?_)
  | (with_reducible refine G.op ?_)
  | (with_reducible refine G.un ?_)
  | (with_reducible refine G.I0 ?_)
  | (with_reducible refine G.U1 ?_)
  | ((with_reducible refine G.fdiv ?_ ?_ ?_); (· omega); (· omega))
  | ((with_reducible refine G.md ?_ ?_); (· omega))
  | ((with_reducible refine G.mulL ?_ ?_ ?_); (· omega); (· omega))
  | ((with_reducible refine G.mulR ?_ ?_ ?_); (· omega); (· omega))
  | ((with_reducible refine G.mulW ?_ ?_ ?_ ?_ ?_); (· omega); (· omega); (· omega); (· omega))
  | (with_reducible refine G.pow18 ?_)
  | (with_reducible refine G.pow6 ?_)
  | (with_reducible refine G.pow30 ?_)
  | (with_reducible refine G.pow29 ?_)
  | (with_reducible refine G.pow3 ?_)
  | (with_reducible refine G.eqI ?_)
  | (with_reducible refine G.neI ?_)
  | ((with_reducible refine G.eq ?_ ?_); (· rfl))
  | ((with_reducible refine G.ne ?_ ?_); (· rfl))
  | (with_reducible refine G.isN ?_)
  | (with_reducible refine G.notN ?_)
  | (with_reducible refine G.test ?_)
  | (with_reducible refine G.tBv ?_)
  | (with_reducible refine G.bl ?_)
  | (with_reducible refine G.and ?_)
  | (with_reducible refine G.or ?_)
  | (with_reducible refine G.not ?_)
  | (with_reducible refine G.andV ?_)
  | (with_reducible refine G.orV ?_)
  | (with_reducible refine G.notV ?_)
  | (with_reducible refine G.ifE ?_)
  | (with_reducible refine G.nil ?_)
  | (with_reducible refine G.cons ?_)
  | (with_reducible refine G.tup ?_)
  | (with_reducible refine G.lst ?_)
  | (with_reducible refine G.fld ?_)
  | (with_reducible refine G.call ?_)
  | (with_reducible refine G.cb ?_)
  | (with_reducible refine G.make ?_)
  | (with_reducible refine G.dget ?_)
  | (with_reducible refine G.dput ?_)
  | (with_reducible refine G.fldS ?_)
  | (with_reducible refine G.abs ?_)
  | (with_reducible refine G.max2 ?_)
  | (with_reducible refine G.min2 ?_)
  | (with_reducible refine G.int1 ?_)
  | (with_reducible refine G.own ?_)
  | (with_reducible refine G.ownR ?_)
  | (with_reducible refine G.meth ?_)
  | (with_reducible refine G.par ?_)
  | (with_reducible refine G.par3 ?_)
  | (with_reducible refine G.parV ?_)
  | (with_reducible refine G.parV3 ?_)
  | (with_reducible refine G.forR ?_)
  | (with_reducible refine G.forZ ?_)
  | (with_reducible refine G.forT ?_)
  | (with_reducible refine G.forL ?_)
  | (with_reducible refine G.methU ?_)
  | (with_reducible refine G.sl ?_)
  | (with_reducible refine G.noPart ?_)
  | (with_reducible refine G.part ?_)
  | (with_reducible refine G.partV ?_)
  | (with_reducible refine G.raiseE ?_)
  | (with_reducible refine G.iteT' ?_)
  | (with_reducible refine G.iteNT ?_)
  | (with_reducible refine G.iteNF ?_)
  | (with_reducible refine G.iteF' ?_)
  | ((with_reducible refine' G.dgetS ?h ?l ?q); (case h => walk_at "hp"); (case l => walk_at "dk"))
  | ((with_reducible refine' G.lenL ?h ?q); (case h => walk_at "hp"))
  | ((with_reducible refine' G.lenT ?h ?q); (case h => walk_at "hp"))
  | ((with_reducible refine' G.fldV ?h ?c ?n ?l ?q); (case h => walk_at "hp"); (case c => walk_at "cls"); (case n => walk_at "na"); (case l => walk_at "lk"))
  | ((with_reducible refine' G.fldSV ?h ?c ?n ?l ?q); (case h => walk_at "hp"); (case c => walk_at "cls"); (case n => walk_at "na"); (case l => walk_at "ln")))
local macro_rules | `(tactic| walk_at "g") => `(tactic| repeat (walk_at "s"))
namespace Lw
open PySem L2
def fStraight (v0 : V) (v1 : V) (v2 : V) : List (Str × V) := [("i", v0), ("n", v1), ("one", v2)]
theorem fStraight_i (v0 : V) (v1 : V) (v2 : V) : (fStraight v0 v1 v2).lookup ("i" : Str) = some v0 := by kernel_rfl
theorem fStraight_n (v0 : V) (v1 : V) (v2 : V) : (fStraight v0 v1 v2).lookup ("n" : Str) = some v1 := by kernel_rfl
theorem fStraight_one (v0 : V) (v1 : V) (v2 : V) : (fStraight v0 v1 v2).lookup ("one" : Str) = some v2 := by kernel_rfl
theorem fStraight_no_replaced (v0 : V) (v1 : V) (v2 : V) : (fStraight v0 v1 v2).lookup ("replaced" : Str) = none := by kernel_rfl
theorem fStraight_put0 (v0 : V) : putF "i" v0 ([] : List (Str × V)) = ([("i", v0)] : List (Str × V)) := by kernel_rfl
theorem fStraight_put1 (v0 : V) (v1 : V) : putF "n" v1 ([("i", v0)] : List (Str × V)) = ([("i", v0), ("n", v1)] : List (Str × V)) := by kernel_rfl
theorem fStraight_put2 (v0 : V) (v1 : V) (v2 : V) : putF "one" v2 ([("i", v0), ("n", v1)] : List (Str × V)) = ([("i", v0), ("n", v1), ("one", v2)] : List (Str × V)) := by kernel_rfl
def fAtLeast (v0 : V) : List (Str × V) := [("straight", v0)]
theorem fAtLeast_straight (v0 : V) : (fAtLeast v0).lookup ("straight" : Str) = some v0 := by kernel_rfl
theorem fAtLeast_no_holds (v0 : V) : (fAtLeast v0).lookup ("holds" : Str) = none := by kernel_rfl
theorem fAtLeast_no_replaced (v0 : V) : (fAtLeast v0).lookup ("replaced" : Str) = none := by kernel_rfl
theorem fAtLeast_put0 (v0 : V) : putF "straight" v0 ([] : List (Str × V)) = ([("straight", v0)] : List (Str × V)) := by kernel_rfl
def fRest (v0 : V) (v1 : V) (v2 : V) : List (Str × V) := [("straight", v0), ("modulus", v1), ("rest", v2)]
theorem fRest_straight (v0 : V) (v1 : V) (v2 : V) : (fRest v0 v1 v2).lookup ("straight" : Str) = some v0 := by kernel_rfl
theorem fRest_modulus (v0 : V) (v1 : V) (v2 : V) : (fRest v0 v1 v2).lookup ("modulus" : Str) = some v1 := by kernel_rfl
theorem fRest_rest (v0 : V) (v1 : V) (v2 : V) : (fRest v0 v1 v2).lookup ("rest" : Str) = some v2 := by kernel_rfl
theorem fRest_no_holds (v0 : V) (v1 : V) (v2 : V) : (fRest v0 v1 v2).lookup ("holds" : Str) = none := by kernel_rfl
theorem fRest_no_replaced (v0 : V) (v1 : V) (v2 : V) : (fRest v0 v1 v2).lookup ("replaced" : Str) = none := by kernel_rfl
theorem fRest_put0 (v0 : V) : putF "straight" v0 ([] : List (Str × V)) = ([("straight", v0)] : List (Str × V)) := by kernel_rfl
theorem fRest_put1 (v0 : V) (v1 : V) : putF "modulus" v1 ([("straight", v0)] : List (Str × V)) = ([("straight", v0), ("modulus", v1)] : List (Str × V)) := by kernel_rfl
theorem fRest_put2 (v0 : V) (v1 : V) (v2 : V) : putF "rest" v2 ([("straight", v0), ("modulus", v1)] : List (Str × V)) = ([("straight", v0), ("modulus", v1), ("rest", v2)] : List (Str × V)) := by kernel_rfl
local macro_rules | `(tactic| walk_at "cls") => `(tactic| first | exact Lw.Txt.cl_Straight (by assumption) | exact Lw.Txt.cl_AtLeast (by assumption) | exact Lw.Txt.cl_Rest (by assumption))
local macro_rules | `(tactic| walk_at "na") => `(tactic| first | exact Lw.Txt.na_Straight_i (by assumption) | exact Lw.Txt.na_Straight_n (by assumption) | exact Lw.Txt.na_Straight_one (by assumption) | exact Lw.Txt.na_AtLeast_straight (by assumption) | exact Lw.Txt.na_Rest_straight (by assumption) | exact Lw.Txt.na_Rest_modulus (by assumption) | exact Lw.Txt.na_Rest_rest (by assumption))
local macro_rules | `(tactic| walk_at "lk") => `(tactic| first | exact Lw.fStraight_i _ _ _ | exact Lw.fStraight_n _ _ _ | exact Lw.fStraight_one _ _ _ | exact Lw.fAtLeast_straight _ | exact Lw.fRest_straight _ _ _ | exact Lw.fRest_modulus _ _ _ | exact Lw.fRest_rest _ _ _)
local macro_rules | `(tactic| walk_at "ln") => `(tactic| first | (show 0 < 1000; decide) | (show 1 < 1000; decide) | (show 2 < 1000; decide) | (show 3 < 1000; decide) | (show 4 < 1000; decide))
/-! ### promises -/
def IsS (a : Ad) (H : Hp) (p : Addr) (i n o : Int) : Prop := ∃ dx, H p = some (.ins a.C_Straight dx (fStraight (.int i) (.int n) (.int o)))
/-- a sum, or an integer in its place -/
def SVal (a : Ad) (H : Hp) (y : V) (i n o : Int) : Prop := (∃ q, y = .ref q ∧ IsS a H q i n o) ∨ (y = .int o ∧ i = 0 ∧ n = 0)
def BB (x : Int) : Prop := -10000000000000000000000000000000000000000 < x ∧ x < 10000000000000000000000000000000000000000
def Sm (x : Int) : Prop := -18446744073709551616 < x ∧ x < 18446744073709551616
def spGcd : Sp := fun vs H Q _ => ∃ (a b : Int), vs = [.int a, .int b] ∧ 0 ≤ a ∧ 0 ≤ b ∧ Q (.int (Int.gcd a b)) H
def spSInit (a : Ad) : Sp := fun vs H Q _ => ∃ (p dx : Addr) (i n o : Int), vs = [.ref p, .int i, .int n, .int o] ∧ H p = some (.ins a.C_Straight dx []) ∧ Q .non (upd H p (.ins a.C_Straight dx (fStraight (.int i) (.int n) (.int o))))
def spSCall (a : Ad) : Sp := fun vs H Q _ => ∃ (p : Addr) (i n o x y : Int), vs = [.ref p, .int x, .int y] ∧ IsS a H p i n o ∧ BB i ∧ BB n ∧ BB x ∧ BB y ∧ Q (.int (i * x + n * y + o)) H
/-- y is of another kind than the class at C -/
def Oth (K : PySem.W.Frag) (H : Hp) (C : Addr) (y : V) : Prop := ∃ t, TyX K H y t ∧ PySem.W.kitOne K t (.ref C) = some false
def spSEq (K : PySem.W.Frag) (a : Ad) : Sp := fun vs H Q _ => ∃ (p : Addr) (i n o : Int) (y : V), vs = [.ref p, y] ∧ IsS a H p i n o ∧
  ((∃ q i' n' o', y = .ref q ∧ IsS a H q i' n' o' ∧ Q (.bl (decide (i = i' ∧ n = n' ∧ o = o'))) H) ∨ (Oth K H a.C_Straight y ∧ Q (.bl false) H))
def spSof (a : Ad) : Sp := fun vs H Q _ => ∃ (y : V) (i n o : Int), vs = [y] ∧ SVal a H y i n o ∧ ∀ q H', Same H H' → IsS a H' q i n o → Q (.ref q) H'
def spSAdd (a : Ad) : Sp := fun vs H Q _ => ∃ (p : Addr) (i n o : Int) (y : V) (i' n' o' : Int), vs = [.ref p, y] ∧ IsS a H p i n o ∧ SVal a H y i' n' o' ∧ ∀ q H', Same H H' → IsS a H' q (i + i') (n + n') (o + o') → Q (.ref q) H'
def spSMul (a : Ad) : Sp := fun vs H Q _ => ∃ (p : Addr) (i n o f : Int), vs = [.ref p, .int f] ∧ IsS a H p i n o ∧ Sm f ∧ ∀ q H', Same H H' → IsS a H' q (f * i) (f * n) (f * o) → Q (.ref q) H'
def spSRep (a : Ad) : Sp := fun vs H Q _ => ∃ (p : Addr) (i n o f s : Int), vs = [.ref p, .int f, .int s] ∧ IsS a H p i n o ∧ Sm f ∧ Sm s ∧ ∀ q H', Same H H' → IsS a H' q (i * f) n (o + i * s) → Q (.ref q) H'
/-- the error's dict -/
def xBN (wh : Str) (d : Int) : List (Str × V) := PySem.ErrX.setL [] ["what", "number"] [.str wh, .int d]
def spSSub (a : Ad) : Sp := fun vs H Q _ => ∃ (p : Addr) (i n o : Int) (y : V) (i' n' o' : Int), vs = [.ref p, y] ∧ IsS a H p i n o ∧ SVal a H y i' n' o' ∧ ∀ q H', Same H H' → IsS a H' q (i - i') (n - n') (o - o') → Q (.ref q) H'
def spSRadd (a : Ad) : Sp := fun vs H Q _ => ∃ (p : Addr) (i n o f : Int), vs = [.ref p, .int f] ∧ IsS a H p i n o ∧ ∀ q H', Same H H' → IsS a H' q i n (f + o) → Q (.ref q) H'
def spSRsub (a : Ad) : Sp := fun vs H Q _ => ∃ (p : Addr) (i n o f : Int), vs = [.ref p, .int f] ∧ IsS a H p i n o ∧ ∀ q H', Same H H' → IsS a H' q (-i) (-n) (f - o) → Q (.ref q) H'
def spSNeg (a : Ad) : Sp := fun vs H Q _ => ∃ (p : Addr) (i n o : Int), vs = [.ref p] ∧ IsS a H p i n o ∧ ∀ q H', Same H H' → IsS a H' q (-i) (-n) (-o) → Q (.ref q) H'
/-! ### conditions -/
def aI (i n : Int) : Int := if Int.gcd i n = 0 then 0 else i / (Int.gcd i n : Int)
def aN (i n : Int) : Int := if Int.gcd i n = 0 then 0 else n / (Int.gcd i n : Int)
def aO (i n o : Int) : Int := if Int.gcd i n = 0 then (if 0 ≤ o then 0 else -1) else o / (Int.gcd i n : Int)
def IsA (a : Ad) (H : Hp) (p : Addr) (i n o : Int) : Prop := ∃ dx s dy, H p = some (.ins a.C_AtLeast dx (fAtLeast (.ref s))) ∧ H s = some (.ins a.C_Straight dy (fStraight (.int i) (.int n) (.int o)))
def IsR (a : Ad) (H : Hp) (p : Addr) (i n m r : Int) : Prop := ∃ dx s dy, H p = some (.ins a.C_Rest dx (fRest (.ref s) (.int m) (.int r))) ∧ H s = some (.ins a.C_Straight dy (fStraight (.int i) (.int n) (.int 0)))
def Bd (x : Int) : Prop := -1000000 ≤ x ∧ x ≤ 1000000
def spAInit (a : Ad) : Sp := fun vs H Q _ => ∃ (p dx : Addr) (y : V) (i n o : Int), vs = [.ref p, y] ∧ H p = some (.ins a.C_AtLeast dx []) ∧ SVal a H y i n o ∧ Bd i ∧ Bd n ∧
  ∀ s dy H', Same H H' → H' s = some (.ins a.C_Straight dy (fStraight (.int (aI i n)) (.int (aN i n)) (.int (aO i n o)))) → Q .non (upd H' p (.ins a.C_AtLeast dx (fAtLeast (.ref s))))
def spAHolds (a : Ad) : Sp := fun vs H Q _ => ∃ (p : Addr) (i n o x y : Int), vs = [.ref p, .int x, .int y] ∧ IsA a H p i n o ∧ BB i ∧ BB n ∧ BB x ∧ BB y ∧ Q (.bl (decide (0 ≤ i * x + n * y + o))) H
def spARep (a : Ad) : Sp := fun vs H Q _ => ∃ (p : Addr) (i n o f s : Int), vs = [.ref p, .int f, .int s] ∧ IsA a H p i n o ∧ Sm f ∧ Sm s ∧ Bd (i * f) ∧ Bd n ∧ ∀ q H', Same H H' → IsA a H' q (aI (i * f) n) (aN (i * f) n) (aO (i * f) n (o + i * s)) → Q (.ref q) H'
def spRInit (a : Ad) : Sp := fun vs H Q E => ∃ (p dx : Addr) (y : V) (i n o m r : Int), vs = [.ref p, y, .int m, .int r] ∧ H p = some (.ins a.C_Rest dx []) ∧ SVal a H y i n o ∧
  ((m < 2 ∨ 4 < m) → ∀ e H', Same H H' → H' e = some (.xd (xBN "modulus" m)) → E (.ref a.C_BadNumber) (some e) H') ∧
  ((2 ≤ m ∧ m ≤ 4 ∧ (r < 0 ∨ m ≤ r)) → ∀ e H', Same H H' → H' e = some (.xd (xBN "rest" r)) → E (.ref a.C_BadNumber) (some e) H') ∧
  ((2 ≤ m ∧ m ≤ 4 ∧ 0 ≤ r ∧ r < m) → ∀ s dy H', Same H H' → H' s = some (.ins a.C_Straight dy (fStraight (.int (i % m)) (.int (n % m)) (.int 0))) → Q .non (upd H' p (.ins a.C_Rest dx (fRest (.ref s) (.int m) (.int ((r - o) % m))))))
def spRHolds (a : Ad) : Sp := fun vs H Q _ => ∃ (p : Addr) (i n m r x y : Int), vs = [.ref p, .int x, .int y] ∧ IsR a H p i n m r ∧ BB i ∧ BB n ∧ BB x ∧ BB y ∧ 2 ≤ m ∧ m ≤ 4 ∧ Q (.bl (decide ((i * x + n * y + 0) % m = r))) H
def spRRep (a : Ad) : Sp := fun vs H Q _ => ∃ (p : Addr) (i n m r f s : Int), vs = [.ref p, .int f, .int s] ∧ IsR a H p i n m r ∧ Sm f ∧ Sm s ∧ 2 ≤ m ∧ m ≤ 4 ∧ 0 ≤ r ∧ r < m ∧ ∀ q H', Same H H' → IsR a H' q ((i * f) % m) (n % m) m ((r - (0 + i * s)) % m) → Q (.ref q) H'
section
variable {P : Program} {w : World} {K : PySem.W.Frag} {mg : Str → Option Value} {base : Heap} {a : Ad}
theorem ty_S (T : Txt P K mg a) {H : Hp} {p dx : Addr} {fs : List (Str × V)} (h : H p = some (.ins a.C_Straight dx fs)) : TyX K H (.ref p) (.ref a.C_Straight) := .base (.ins h T.cl_Straight T.ca_Straight T.cg T.ct T.mo_Straight)
theorem same_made {H : Hp} {x dx C : Addr} {o : HO} (hx : H x = none) (hd : H dx = none) : Same H (upd (upd (upd H dx (.own x)) x (.ins C dx [])) x o) := fun b u e => by
  rw [G.upd_upd, upd_ne (ne_of_none e hx), upd_ne (ne_of_none e hd)]
  exact e
theorem same_made0 {H : Hp} {x dx C : Addr} (hx : H x = none) (hd : H dx = none) : Same H (upd (upd H dx (.own x)) x (.ins C dx [])) := fun b u e => by
  rw [upd_ne (ne_of_none e hx), upd_ne (ne_of_none e hd)]
  exact e
theorem mkS {E : XK} {H : Hp} {Q : VK} {i n o : Int} (q : ∀ p dx H', H p = none → Same H H' → H' p = some (.ins a.C_Straight dx (fStraight (.int i) (.int n) (.int o))) → Q (.ref p) H') : G.rMake a.C_Straight (spSInit a) E [.int i, .int n, .int o] H Q :=
  fun x dx hx hd _ => ⟨x, dx, i, n, o, rfl, upd_same, rfl, q x dx _ hx (same_made hx hd) upd_same⟩
theorem ok_common_divisor (T : Txt P K mg a) : FnOk P w K mg base CX0 1 a.a_common_divisor a.d_common_divisor ["a", "b"] spGcd := by
  refine T.F_common_divisor.ok sc_common_divisor (fun vs H Q E h => ?_) (fun cdv A outer s H vs Q E hr h => ?_)
  · obtain ⟨x, y, rfl, _⟩ := h
    rfl
  · obtain ⟨x, y, rfl, hx, hy, k⟩ := h
    obtain ⟨x, rfl⟩ := Int.eq_ofNat_of_zero_le hx
    obtain ⟨y, rfl⟩ := Int.eq_ofNat_of_zero_le hy
    rw [Int.gcd_natCast_natCast] at k
    refine ⟨_, (pss_cons (ps_while PassesOwn.never (pt_cmpR op_gt (pv 1) pe_int (nomark _)) (pss_one (ps_par (i := 0) (j := 1) (by rfl) sc_common_divisor.nd rfl rfl (by decide) rfl rfl (pa_cons (pv 1) (pa_cons (pe_op op_mod (pv 0) (pv 1)) pa_nil)) (by rfl))))
      (pss_one (ps_ret (pv 0)))), ?_⟩
    refine G.seq (G.whl (fun m σ H' => ∃ u v : Nat, σ = [some (.int u), some (.int v)] ∧ H' = H ∧ Nat.gcd u v = Nat.gcd x y ∧ m = v) y ⟨x, y, rfl, rfl, rfl, rfl⟩ ?_ ?_)
    · rintro m σ H' ⟨u, v, rfl, rfl, e, rfl⟩
      walk_at "g"
      refine G.ite (fun hv => ?_) (fun hv => ?_)
      · walk_at "g"
        have hm : 0 < m := by omega
        refine ⟨u % m, Nat.mod_lt _ hm, m, u % m, ?_, rfl, ?_, rfl⟩
        · show [some (V.int (m : Int)), some (V.int ((u : Int) % (m : Int)))] = _
          rw [← Int.natCast_emod] 
        · rw [← e, Nat.gcd_comm u m, Nat.gcd_rec m u, Nat.gcd_comm]
      · walk_at "g"
        have hm : m = 0 := by omega
        subst hm
        rw [Nat.gcd_zero_right] at e
        rw [e]
        exact k
    · intro σ H Q Q' hm hq
      obtain ⟨v, h1, h2⟩ := hq
      obtain ⟨i, j, h3, h4, k', h5, h6⟩ := h2
      exact ⟨v, h1, i, j, h3, h4, k', h5, hm _ _ h6⟩
theorem ok_Straight_init (T : Txt P K mg a) : FnOk P w K mg base CX0 1 a.a_Straight_init a.d_Straight_init ["self", "i", "n", "one"] (spSInit a) := by
  refine T.F_Straight_init.ok sc_Straight_init (fun vs H Q E h => ?_) (fun cdv A outer s H vs Q E hr h => ?_)
  · obtain ⟨p, dx, i, n, o, rfl, _⟩ := h
    rfl
  · obtain ⟨p, dx, i, n, o, rfl, hp, k⟩ := h
    refine ⟨_, (pss_cons (ps_fld (pv 0) (pv 1) rfl)
      (pss_cons (ps_fld (pv 0) (pv 2) rfl)
      (pss_one (ps_fld (pv 0) (pv 3) rfl)))), ?_⟩
    walk_at "g"
    simp only [G.upd_upd, fStraight_put0, fStraight_put1, fStraight_put2]
    exact k
theorem ok_Straight_call (T : Txt P K mg a) : FnOk P w K mg base CX0 1 a.a_Straight_call a.d_Straight_call ["self", "i", "n"] (spSCall a) := by
  refine T.F_Straight_call.ok sc_Straight_call (fun vs H Q E h => ?_) (fun cdv A outer s H vs Q E hr h => ?_)
  · obtain ⟨p, i, n, o, x, y, rfl, _⟩ := h
    rfl
  · obtain ⟨p, i, n, o, x, y, rfl, ⟨dx, hp⟩, ⟨h1, h2⟩, ⟨h3, h4⟩, ⟨h5, h6⟩, ⟨h7, h8⟩, k⟩ := h
    refine ⟨_, (pss_one (ps_ret (pe_op op_add (pe_op op_add (pe_op op_mulW (pe_fld (pv 0) rfl) (pv 1)) (pe_op op_mulW (pe_fld (pv 0) rfl) (pv 2))) (pe_fld (pv 0) rfl)))), ?_⟩
    walk_at "g"
    exact k
theorem ok_Straight_eq (T : Txt P K mg a) : FnOk P w K mg base CX0 1 a.a_Straight_eq a.d_Straight_eq ["self", "other"] (spSEq K a) := by
  refine T.F_Straight_eq.ok sc_Straight_eq (fun vs H Q E h => ?_) (fun cdv A outer s H vs Q E hr h => ?_)
  · obtain ⟨p, i, n, o, y, rfl, _⟩ := h
    rfl
  · obtain ⟨p, i, n, o, y, rfl, ⟨dx, hp⟩, k⟩ := h
    refine ⟨_, (pss_one (ps_ret (pe_and (pe_callB call_isi (by rfl) T.n_isinstance (by decide +kernel) (pa_cons (pv 1) (pa_cons (pe_glob (v := .ref a.C_Straight) rfl T.g_Straight rfl) pa_nil))) (pe_and (pe_cmpR op_eq (pe_fld (pv 0) rfl) (pe_fld (pv 1) rfl) (nomark _)) (pe_and (pe_cmpR op_eq (pe_fld (pv 0) rfl) (pe_fld (pv 1) rfl) (nomark _)) (pe_one (pe_cmpR op_eq (pe_fld (pv 0) rfl) (pe_fld (pv 1) rfl) (nomark _)))))))), ?_⟩
    walk_at "g"
    rcases k with ⟨q, i', n', o', rfl, ⟨dy, hq⟩, k⟩ | ⟨⟨t, ty, ki⟩, k⟩
    · refine ⟨_, _, _, _, true, rfl, .own _, ty_S T hq, T.ki_S_S, ?_⟩
      walk_at "g"
      refine G.ite (fun e1 => ?_) (fun e1 => ?_)
      · walk_at "g"
        refine G.ite (fun e2 => ?_) (fun e2 => ?_)
        · walk_at "g"
          have e : decide (i = i' ∧ n = n' ∧ o = o') = decide (o = o') := by simp [e1, e2]
          rw [← e]; exact k
        · have e : decide (i = i' ∧ n = n' ∧ o = o') = false := by simp [e2]
          rw [← e]; exact k
      · have e : decide (i = i' ∧ n = n' ∧ o = o') = false := by simp [e1]
        rw [← e]; exact k
    · refine ⟨_, _, _, _, false, rfl, .own _, ty, ki, ?_⟩
      walk_at "g"
      exact k
theorem ok_straight_of (T : Txt P K mg a) : FnOk P w K mg base CX0 3 a.a_straight_of a.d_straight_of ["value"] (spSof a) := by
  refine T.F_straight_of.ok sc_straight_of (fun vs H Q E h => ?_) (fun cdv A outer s H vs Q E hr h => ?_)
  · obtain ⟨y, i, n, o, rfl, _⟩ := h
    rfl
  · obtain ⟨y, i, n, o, rfl, hy, k⟩ := h
    refine ⟨_, (pss_cons (ps_if (pt_val (pe_callB call_isi (by rfl) T.n_isinstance (by decide +kernel) (pa_cons (pv 0) (pa_cons (pe_glob (v := .ref a.C_Straight) rfl T.g_Straight rfl) pa_nil)))) (pss_one (ps_ret (pv 0))) pss_nil)
      (pss_one (ps_ret (pe_makeS T.mk_Straight (ok_Straight_init T) (hr.mono (by decide)) rfl T.g_Straight T.b_Straight_init pass0S (pa_cons pe_int (pa_cons pe_int (pa_cons (pv 0) pa_nil))))))), ?_⟩
    walk_at "g"
    rcases hy with ⟨q, rfl, dy, hq⟩ | ⟨rfl, rfl, rfl⟩
    · refine ⟨_, _, _, _, true, rfl, .own _, ty_S T hq, T.ki_S_S, ?_⟩
      walk_at "g"
      exact k q H (Same.refl H) ⟨dy, hq⟩
    · refine ⟨_, _, _, _, false, rfl, .own _, .base (.int o), T.ki_int_S, ?_⟩
      walk_at "g"
      exact mkS fun p dx H' _ s h => k p H' s ⟨dx, h⟩
theorem ok_Straight_add (T : Txt P K mg a) : FnOk P w K mg base CX0 4 a.a_Straight_add a.d_Straight_add ["self", "other"] (spSAdd a) := by
  refine T.F_Straight_add.ok sc_Straight_add (fun vs H Q E h => ?_) (fun cdv A outer s H vs Q E hr h => ?_)
  · obtain ⟨p, i, n, o, y, i', n', o', rfl, _⟩ := h
    rfl
  · obtain ⟨p, i, n, o, y, i', n', o', rfl, ⟨dx, hp⟩, hy, k⟩ := h
    refine ⟨_, (pss_cons (ps_set (i := 2) sc_Straight_add.nd rfl (Or.inl rfl) (pe_callS (ok_straight_of T) (hr.mono (by decide)) rfl T.g_straight_of T.F_straight_of.kp T.b_straight_of pass0S (pa_cons (pv 1) pa_nil)))
      (pss_one (ps_ret (pe_makeS T.mk_Straight (ok_Straight_init T) (hr.mono (by decide)) rfl T.g_Straight T.b_Straight_init pass0S (pa_cons (pe_op op_add (pe_fld (pv 0) rfl) (pe_fld (pv 2) rfl)) (pa_cons (pe_op op_add (pe_fld (pv 0) rfl) (pe_fld (pv 2) rfl)) (pa_cons (pe_op op_add (pe_fld (pv 0) rfl) (pe_fld (pv 2) rfl)) pa_nil))))))), ?_⟩
    walk_at "g"
    refine ⟨y, i', n', o', rfl, hy, fun q H1 s1 ⟨dy, hq⟩ => ?_⟩
    walk_at "g"
    exact mkS fun z dz H2 _ s2 hz => k z H2 (s1.trans s2) ⟨dz, hz⟩
theorem ok_Straight_mul (T : Txt P K mg a) : FnOk P w K mg base CX0 3 a.a_Straight_mul a.d_Straight_mul ["self", "factor"] (spSMul a) := by
  refine T.F_Straight_mul.ok sc_Straight_mul (fun vs H Q E h => ?_) (fun cdv A outer s H vs Q E hr h => ?_)
  · obtain ⟨p, i, n, o, f, rfl, _⟩ := h
    rfl
  · obtain ⟨p, i, n, o, f, rfl, ⟨dx, hp⟩, ⟨h1, h2⟩, k⟩ := h
    refine ⟨_, (pss_one (ps_ret (pe_makeS T.mk_Straight (ok_Straight_init T) (hr.mono (by decide)) rfl T.g_Straight T.b_Straight_init pass0S (pa_cons (pe_op op_mul (pe_fld (pv 0) rfl) (pv 1)) (pa_cons (pe_op op_mul (pe_fld (pv 0) rfl) (pv 1)) (pa_cons (pe_op op_mul (pe_fld (pv 0) rfl) (pv 1)) pa_nil)))))), ?_⟩
    walk_at "g"
    refine mkS fun z dz H2 _ s2 hz => k z H2 s2 ⟨dz, ?_⟩
    rw [hz, Int.mul_comm f i, Int.mul_comm f n, Int.mul_comm f o]
theorem ok_Straight_rmul (T : Txt P K mg a) : FnOk P w K mg base CX0 3 a.a_Straight_rmul a.d_Straight_rmul ["self", "factor"] (spSMul a) := by
  refine T.F_Straight_rmul.ok sc_Straight_rmul (fun vs H Q E h => ?_) (fun cdv A outer s H vs Q E hr h => ?_)
  · obtain ⟨p, i, n, o, f, rfl, _⟩ := h
    rfl
  · obtain ⟨p, i, n, o, f, rfl, ⟨dx, hp⟩, ⟨h1, h2⟩, k⟩ := h
    refine ⟨_, (pss_one (ps_ret (pe_makeS T.mk_Straight (ok_Straight_init T) (hr.mono (by decide)) rfl T.g_Straight T.b_Straight_init pass0S (pa_cons (pe_op op_mul (pv 1) (pe_fld (pv 0) rfl)) (pa_cons (pe_op op_mul (pv 1) (pe_fld (pv 0) rfl)) (pa_cons (pe_op op_mul (pv 1) (pe_fld (pv 0) rfl)) pa_nil)))))), ?_⟩
    walk_at "g"
    exact mkS fun z dz H2 _ s2 hz => k z H2 s2 ⟨dz, hz⟩
theorem ok_Straight_replaced (T : Txt P K mg a) : FnOk P w K mg base CX0 3 a.a_Straight_replaced a.d_Straight_replaced ["self", "factor", "shift"] (spSRep a) := by
  refine T.F_Straight_replaced.ok sc_Straight_replaced (fun vs H Q E h => ?_) (fun cdv A outer s H vs Q E hr h => ?_)
  · obtain ⟨p, i, n, o, f, s, rfl, _⟩ := h
    rfl
  · obtain ⟨p, i, n, o, f, sh, rfl, ⟨dx, hp⟩, ⟨h1, h2⟩, ⟨h3, h4⟩, k⟩ := h
    refine ⟨_, (pss_one (ps_ret (pe_makeS T.mk_Straight (ok_Straight_init T) (hr.mono (by decide)) rfl T.g_Straight T.b_Straight_init pass0S (pa_cons (pe_op op_mul (pe_fld (pv 0) rfl) (pv 1)) (pa_cons (pe_fld (pv 0) rfl) (pa_cons (pe_op op_add (pe_fld (pv 0) rfl) (pe_op op_mul (pe_fld (pv 0) rfl) (pv 2))) pa_nil)))))), ?_⟩
    walk_at "g"
    exact mkS fun z dz H2 _ s2 hz => k z H2 s2 ⟨dz, hz⟩
theorem ok_Straight_sub (T : Txt P K mg a) : FnOk P w K mg base CX0 4 a.a_Straight_sub a.d_Straight_sub ["self", "other"] (spSSub a) := by
  refine T.F_Straight_sub.ok sc_Straight_sub (fun vs H Q E h => ?_) (fun cdv A outer s H vs Q E hr h => ?_)
  · obtain ⟨p, i, n, o, y, i', n', o', rfl, _⟩ := h
    rfl
  · obtain ⟨p, i, n, o, y, i', n', o', rfl, ⟨dx, hp⟩, hy, k⟩ := h
    refine ⟨_, (pss_cons (ps_set (i := 2) sc_Straight_sub.nd rfl (Or.inl rfl) (pe_callS (ok_straight_of T) (hr.mono (by decide)) rfl T.g_straight_of T.F_straight_of.kp T.b_straight_of pass0S (pa_cons (pv 1) pa_nil)))
      (pss_one (ps_ret (pe_makeS T.mk_Straight (ok_Straight_init T) (hr.mono (by decide)) rfl T.g_Straight T.b_Straight_init pass0S (pa_cons (pe_op op_sub (pe_fld (pv 0) rfl) (pe_fld (pv 2) rfl)) (pa_cons (pe_op op_sub (pe_fld (pv 0) rfl) (pe_fld (pv 2) rfl)) (pa_cons (pe_op op_sub (pe_fld (pv 0) rfl) (pe_fld (pv 2) rfl)) pa_nil))))))), ?_⟩
    walk_at "g"
    refine ⟨y, i', n', o', rfl, hy, fun q H1 s1 ⟨dy, hq⟩ => ?_⟩
    walk_at "g"
    exact mkS fun z dz H2 _ s2 hz => k z H2 (s1.trans s2) ⟨dz, hz⟩
theorem ok_Straight_radd (T : Txt P K mg a) : FnOk P w K mg base CX0 3 a.a_Straight_radd a.d_Straight_radd ["self", "other"] (spSRadd a) := by
  refine T.F_Straight_radd.ok sc_Straight_radd (fun vs H Q E h => ?_) (fun cdv A outer s H vs Q E hr h => ?_)
  · obtain ⟨p, i, n, o, f, rfl, _⟩ := h
    rfl
  · obtain ⟨p, i, n, o, f, rfl, ⟨dx, hp⟩, k⟩ := h
    refine ⟨_, (pss_one (ps_ret (pe_makeS T.mk_Straight (ok_Straight_init T) (hr.mono (by decide)) rfl T.g_Straight T.b_Straight_init pass0S (pa_cons (pe_fld (pv 0) rfl) (pa_cons (pe_fld (pv 0) rfl) (pa_cons (pe_op op_add (pv 1) (pe_fld (pv 0) rfl)) pa_nil)))))), ?_⟩
    walk_at "g"
    exact mkS fun z dz H2 _ s2 hz => k z H2 s2 ⟨dz, hz⟩
theorem ok_Straight_rsub (T : Txt P K mg a) : FnOk P w K mg base CX0 3 a.a_Straight_rsub a.d_Straight_rsub ["self", "other"] (spSRsub a) := by
  refine T.F_Straight_rsub.ok sc_Straight_rsub (fun vs H Q E h => ?_) (fun cdv A outer s H vs Q E hr h => ?_)
  · obtain ⟨p, i, n, o, f, rfl, _⟩ := h
    rfl
  · obtain ⟨p, i, n, o, f, rfl, ⟨dx, hp⟩, k⟩ := h
    refine ⟨_, (pss_one (ps_ret (pe_makeS T.mk_Straight (ok_Straight_init T) (hr.mono (by decide)) rfl T.g_Straight T.b_Straight_init pass0S (pa_cons (pe_un un_neg (pe_fld (pv 0) rfl)) (pa_cons (pe_un un_neg (pe_fld (pv 0) rfl)) (pa_cons (pe_op op_sub (pv 1) (pe_fld (pv 0) rfl)) pa_nil)))))), ?_⟩
    walk_at "g"
    exact mkS fun z dz H2 _ s2 hz => k z H2 s2 ⟨dz, hz⟩
theorem ok_Straight_neg (T : Txt P K mg a) : FnOk P w K mg base CX0 3 a.a_Straight_neg a.d_Straight_neg ["self"] (spSNeg a) := by
  refine T.F_Straight_neg.ok sc_Straight_neg (fun vs H Q E h => ?_) (fun cdv A outer s H vs Q E hr h => ?_)
  · obtain ⟨p, i, n, o, rfl, _⟩ := h
    rfl
  · obtain ⟨p, i, n, o, rfl, ⟨dx, hp⟩, k⟩ := h
    refine ⟨_, (pss_one (ps_ret (pe_makeS T.mk_Straight (ok_Straight_init T) (hr.mono (by decide)) rfl T.g_Straight T.b_Straight_init pass0S (pa_cons (pe_un un_neg (pe_fld (pv 0) rfl)) (pa_cons (pe_un un_neg (pe_fld (pv 0) rfl)) (pa_cons (pe_un un_neg (pe_fld (pv 0) rfl)) pa_nil)))))), ?_⟩
    walk_at "g"
    exact mkS fun z dz H2 _ s2 hz => k z H2 s2 ⟨dz, hz⟩
theorem gcd_le {i n : Int} (hi : Bd i) (hn : Bd n) : (Int.gcd i n : Int) ≤ 1000000 := by
  obtain ⟨h1, h2⟩ := hi
  obtain ⟨h3, h4⟩ := hn
  by_cases h : i = 0
  · subst h
    rw [Int.gcd_zero_left]
    omega
  · have := Int.gcd_dvd_left (a := i) (b := n)
    have h5 := Int.le_of_dvd (by omega : (0 : Int) < i.natAbs) (Int.dvd_natAbs.mpr this)
    omega
theorem sval_same {H H' : Hp} {y : V} {i n o : Int} (h : SVal a H y i n o) (s : Same H H') : SVal a H' y i n o := by
  rcases h with ⟨q, rfl, dq, hq⟩ | h
  · exact .inl ⟨q, rfl, dq, s _ _ hq⟩
  · exact .inr h
theorem ok_AtLeast_init (T : Txt P K mg a) : FnOk P w K mg base CX0 4 a.a_AtLeast_init a.d_AtLeast_init ["self", "straight"] (spAInit a) := by
  refine T.F_AtLeast_init.ok sc_AtLeast_init (fun vs H Q E h => ?_) (fun cdv A outer s H vs Q E hr h => ?_)
  · obtain ⟨p, dx, y, i, n, o, rfl, _⟩ := h
    rfl
  · obtain ⟨p, dx, y, i, n, o, rfl, hp, hy, hi, hn, k⟩ := h
    refine ⟨_, (pss_cons (ps_set (i := 2) sc_AtLeast_init.nd rfl (Or.inl rfl) (pe_callS (ok_straight_of T) (hr.mono (by decide)) rfl T.g_straight_of T.F_straight_of.kp T.b_straight_of pass0S (pa_cons (pv 1) pa_nil)))
      (pss_cons (ps_set (i := 3) sc_AtLeast_init.nd rfl (Or.inl rfl) (pe_callS (ok_common_divisor T) (hr.mono (by decide)) rfl T.g_common_divisor T.F_common_divisor.kp T.b_common_divisor pass0S (pa_cons (pe_callB G.cAbs (by rfl) T.n_abs (by decide +kernel) (pa_cons (pe_fld (pv 2) rfl) pa_nil)) (pa_cons (pe_callB G.cAbs (by rfl) T.n_abs (by decide +kernel) (pa_cons (pe_fld (pv 2) rfl) pa_nil)) pa_nil))))
      (pss_one (ps_if (pt_cmpR op_gt (pv 3) pe_int (nomark _)) (pss_one (ps_fld (pv 0) (pe_makeS T.mk_Straight (ok_Straight_init T) (hr.mono (by decide)) rfl T.g_Straight T.b_Straight_init pass0S (pa_cons (pe_op op_fdiv (pe_fld (pv 2) rfl) (pv 3)) (pa_cons (pe_op op_fdiv (pe_fld (pv 2) rfl) (pv 3)) (pa_cons (pe_op op_fdiv (pe_fld (pv 2) rfl) (pv 3)) pa_nil)))) rfl)) (pss_one (ps_if (pt_cmpR op_ge (pe_fld (pv 2) rfl) pe_int (nomark _)) (pss_one (ps_fld (pv 0) (pe_makeS T.mk_Straight (ok_Straight_init T) (hr.mono (by decide)) rfl T.g_Straight T.b_Straight_init pass0S (pa_cons pe_int (pa_cons pe_int (pa_cons pe_int pa_nil)))) rfl)) (pss_one (ps_fld (pv 0) (pe_makeS T.mk_Straight (ok_Straight_init T) (hr.mono (by decide)) rfl T.g_Straight T.b_Straight_init pass0S (pa_cons pe_int (pa_cons pe_int (pa_cons (pe_un un_neg pe_int) pa_nil)))) rfl)))))))), ?_⟩
    walk_at "g"
    refine ⟨y, i, n, o, rfl, hy, fun q H1 s1 ⟨dy, hq⟩ => ?_⟩
    walk_at "g"
    refine ⟨_, _, rfl, by omega, by omega, ?_⟩
    have eg : (Int.gcd i.natAbs n.natAbs : Int) = (Int.gcd i n : Int) := by simp [Int.gcd]
    rw [eg]
    have hb := gcd_le hi hn
    walk_at "g"
    refine G.ite (fun hg => ?_) (fun hg => ?_)
    · walk_at "g"
      refine mkS fun z dz H2 _ s2 hz => ?_
      walk_at "g"
      have e1 : aI i n = i / (Int.gcd i n : Int) := if_neg (by omega)
      have e2 : aN i n = n / (Int.gcd i n : Int) := if_neg (by omega)
      have e3 : aO i n o = o / (Int.gcd i n : Int) := if_neg (by omega)
      have := k z dz H2 (s1.trans s2) (by rw [e1, e2, e3]; exact hz)
      simp only [fAtLeast_put0]
      exact this
    · have g0 : Int.gcd i n = 0 := by omega
      have e1 : aI i n = 0 := if_pos g0
      have e2 : aN i n = 0 := if_pos g0
      have e3 : aO i n o = if 0 ≤ o then 0 else -1 := if_pos g0
      walk_at "g"
      refine G.ite (fun ho => ?_) (fun ho => ?_)
      · walk_at "g"
        refine mkS fun z dz H2 _ s2 hz => ?_
        walk_at "g"
        have := k z dz H2 (s1.trans s2) (by rw [e1, e2, e3, if_pos ho]; exact hz)
        simp only [fAtLeast_put0]
        exact this
      · walk_at "g"
        refine mkS fun z dz H2 _ s2 hz => ?_
        walk_at "g"
        have := k z dz H2 (s1.trans s2) (by rw [e1, e2, e3, if_neg ho]; exact hz)
        simp only [fAtLeast_put0]
        exact this
theorem mkA {E : XK} {H : Hp} {Q : VK} {y : V} {i n o : Int} (hy : SVal a H y i n o) (hi : Bd i) (hn : Bd n)
    (kQ : ∀ p dx s dy H', Same H H' → H' p = some (.ins a.C_AtLeast dx (fAtLeast (.ref s))) → H' s = some (.ins a.C_Straight dy (fStraight (.int (aI i n)) (.int (aN i n)) (.int (aO i n o)))) → Q (.ref p) H') : G.rMake a.C_AtLeast (spAInit a) E [y] H Q := by
  intro x dx hx hdx _
  have s0 := same_made0 (C := a.C_AtLeast) hx hdx
  refine ⟨x, dx, y, i, n, o, rfl, upd_same, sval_same hy s0, hi, hn, fun s dy H' s1 hs => ⟨rfl, ?_⟩⟩
  have hx1 : H' x = some (.ins a.C_AtLeast dx []) := s1 _ _ upd_same
  have ne : s ≠ x := fun z => by
    rw [z, hx1] at hs
    have := (HO.ins.inj (Option.some.inj hs)).2.2
    cases this
  refine kQ x dx s dy _ (fun b u e => ?_) upd_same (by rw [upd_ne ne]; exact hs)
  rw [upd_ne (ne_of_none e hx)]
  exact s1 _ _ (s0 _ _ e)
theorem ok_AtLeast_holds (T : Txt P K mg a) : FnOk P w K mg base CX0 2 a.a_AtLeast_holds a.d_AtLeast_holds ["self", "i", "n"] (spAHolds a) := by
  refine T.F_AtLeast_holds.ok sc_AtLeast_holds (fun vs H Q E h => ?_) (fun cdv A outer s H vs Q E hr h => ?_)
  · obtain ⟨p, i, n, o, x, y, rfl, _⟩ := h
    rfl
  · obtain ⟨p, i, n, o, x, y, rfl, ⟨dx, s', dy, hp, hs⟩, hi, hn, hx, hy, k⟩ := h
    refine ⟨_, (pss_one (ps_ret (pe_cmpR op_ge (pe_fldI (pv 0) T.c_Straight_call (ok_Straight_call T) (hr.mono (by decide)) T.b_Straight_call pass0S (pa_cons (pv 1) (pa_cons (pv 2) pa_nil))) pe_int (nomark _)))), ?_⟩
    walk_at "g"
    refine ⟨⟨dy, _, hs⟩, s', i, n, o, x, y, rfl, ⟨dy, hs⟩, hi, hn, hx, hy, ?_⟩
    walk_at "g"
    exact k
theorem ok_AtLeast_replaced (T : Txt P K mg a) : FnOk P w K mg base CX0 6 a.a_AtLeast_replaced a.d_AtLeast_replaced ["self", "factor", "shift"] (spARep a) := by
  refine T.F_AtLeast_replaced.ok sc_AtLeast_replaced (fun vs H Q E h => ?_) (fun cdv A outer s H vs Q E hr h => ?_)
  · obtain ⟨p, i, n, o, f, s, rfl, _⟩ := h
    rfl
  · obtain ⟨p, i, n, o, f, sh, rfl, ⟨dx, s', dy, hp, hs⟩, hf, hsh, hb1, hb2, k⟩ := h
    refine ⟨_, (pss_one (ps_ret (pe_makeS T.mk_AtLeast (ok_AtLeast_init T) (hr.mono (by decide)) rfl T.g_AtLeast T.b_AtLeast_init pass0S (pa_cons (pe_methZ (pe_fld (pv 0) rfl) T.cl_Straight T.m_Straight_replaced (ok_Straight_replaced T) (hr.mono (by decide)) T.b_Straight_replaced pass0S (pa_cons (pv 1) (pa_cons (pv 2) pa_nil))) pa_nil)))), ?_⟩
    walk_at "g"
    refine ⟨s', dy, _, rfl, hs, fStraight_no_replaced .., ?_⟩
    walk_at "g"
    refine ⟨s', i, n, o, f, sh, rfl, ⟨dy, hs⟩, hf, hsh, fun q H1 s1 ⟨dq, hq⟩ => ?_⟩
    walk_at "g"
    exact mkA (.inl ⟨q, rfl, dq, hq⟩) hb1 hb2 fun p' dx' s3 dy' H' s2 h2 h3 => k p' H' (s1.trans s2) ⟨dx', s3, dy', h2, h3⟩
theorem ok_Rest_init (T : Txt P K mg a) : FnOk P w K mg base (L2.CX P w) 4 a.a_Rest_init a.d_Rest_init ["self", "straight", "modulus", "rest"] (spRInit a) := by
  refine T.F_Rest_init.okX sc_Rest_init (fun vs H Q E h => ?_) (fun cdv A outer s H vs Q E hr h => ?_)
  · obtain ⟨p, dx, y, i, n, o, m, r, rfl, _⟩ := h
    rfl
  · obtain ⟨p, dx, y, i, n, o, m, r, rfl, hp, hy, k1, k2, k⟩ := h
    refine ⟨_, (pss_cons (ps_if (PW.pt (pw_or (pt_cmpR op_lt (pv 2) pe_int (nomark _)) (pw_or1 (pt_cmpR op_gt (pv 2) pe_int (nomark _))))) (pss_one (ps_raiseE rfl T.e_BadNumber (by decide) (by decide) hr (takes_of rfl rfl rfl rfl) (pa_cons pe_str (pa_cons (pv 2) pa_nil)))) pss_nil)
      (pss_cons (ps_if (PW.pt (pw_or (pt_cmpR op_lt (pv 3) pe_int (nomark _)) (pw_or1 (pt_cmpR op_ge (pv 3) (pv 2) (nomark _))))) (pss_one (ps_raiseE rfl T.e_BadNumber (by decide) (by decide) hr (takes_of rfl rfl rfl rfl) (pa_cons pe_str (pa_cons (pv 3) pa_nil)))) pss_nil)
      (pss_cons (ps_set (i := 4) sc_Rest_init.nd rfl (Or.inl rfl) (pe_callS (ok_straight_of T) (hr.mono (by decide)) rfl T.g_straight_of T.F_straight_of.kp T.b_straight_of pass0S (pa_cons (pv 1) pa_nil)))
      (pss_cons (ps_fld (pv 0) (pe_makeS T.mk_Straight (ok_Straight_init T) (hr.mono (by decide)) rfl T.g_Straight T.b_Straight_init pass0S (pa_cons (pe_op op_mod (pe_fld (pv 4) rfl) (pv 2)) (pa_cons (pe_op op_mod (pe_fld (pv 4) rfl) (pv 2)) (pa_cons pe_int pa_nil)))) rfl)
      (pss_cons (ps_fld (pv 0) (pv 2) rfl)
      (pss_one (ps_fld (pv 0) (pe_op op_mod (pe_op op_sub (pv 3) (pe_fld (pv 4) rfl)) (pv 2)) rfl))))))), ?_⟩
    walk_at "g"
    refine G.ite (fun h1 => ?_) (fun h1 => ?_)
    · walk_at "g"
      exact G.mkE rfl fun e H' _ s1 he => k1 (.inl h1) e H' s1 he
    walk_at "g"
    refine G.ite (fun h2 => ?_) (fun h2 => ?_)
    · walk_at "g"
      exact G.mkE rfl fun e H' _ s1 he => k1 (.inr h2) e H' s1 he
    walk_at "g"
    refine G.ite (fun h3 => ?_) (fun h3 => ?_)
    · walk_at "g"
      exact G.mkE rfl fun e H' _ s1 he => k2 ⟨by omega, by omega, .inl h3⟩ e H' s1 he
    walk_at "g"
    refine G.ite (fun h4 => ?_) (fun h4 => ?_)
    · walk_at "g"
      exact G.mkE rfl fun e H' _ s1 he => k2 ⟨by omega, by omega, .inr h4⟩ e H' s1 he
    walk_at "g"
    refine ⟨y, i, n, o, rfl, hy, fun q H1 s1 ⟨dy, hq⟩ => ?_⟩
    walk_at "g"
    refine mkS fun z dz H2 _ s2 hz => ?_
    have hq2 := s2 _ _ hq
    walk_at "g"
    have nq : q ≠ p := fun e => by
      have hp2 := s2 _ _ (s1 _ _ hp)
      rw [← e, hq2] at hp2
      have := (HO.ins.inj (Option.some.inj hp2)).2.2
      cases this
    refine' G.fldV ?h ?c ?n ?l ?q
    case h => rw [upd_ne nq, upd_ne nq]; exact hq2
    case c => walk_at "cls"
    case n => walk_at "na"
    case l => walk_at "lk"
    walk_at "g"
    have := k ⟨by omega, by omega, by omega, by omega⟩ z dz H2 (s1.trans s2) hz
    simp only [G.upd_upd, fRest_put0, fRest_put1, fRest_put2]
    exact this
theorem mkR {E : XK} {H : Hp} {Q : VK} {y : V} {i n o m r : Int} (hy : SVal a H y i n o) (k1 : (m < 2 ∨ 4 < m) → ∀ e H', Same H H' → H' e = some (.xd (xBN "modulus" m)) → E (.ref a.C_BadNumber) (some e) H')
    (k2 : (2 ≤ m ∧ m ≤ 4 ∧ (r < 0 ∨ m ≤ r)) → ∀ e H', Same H H' → H' e = some (.xd (xBN "rest" r)) → E (.ref a.C_BadNumber) (some e) H')
    (kQ : (2 ≤ m ∧ m ≤ 4 ∧ 0 ≤ r ∧ r < m) → ∀ p dx s dy H', Same H H' → H' p = some (.ins a.C_Rest dx (fRest (.ref s) (.int m) (.int ((r - o) % m)))) → H' s = some (.ins a.C_Straight dy (fStraight (.int (i % m)) (.int (n % m)) (.int 0))) → Q (.ref p) H') : G.rMake a.C_Rest (spRInit a) E [y, .int m, .int r] H Q := by
  intro x dx hx hdx _
  have s0 := same_made0 (C := a.C_Rest) hx hdx
  refine ⟨x, dx, y, i, n, o, m, r, rfl, upd_same, sval_same hy s0, fun h e H' s1 he => k1 h e H' (s0.trans s1) he, fun h e H' s1 he => k2 h e H' (s0.trans s1) he, fun h s dy H' s1 hs => ⟨rfl, ?_⟩⟩
  have hx1 : H' x = some (.ins a.C_Rest dx []) := s1 _ _ upd_same
  have ne : s ≠ x := fun z => by
    rw [z, hx1] at hs
    have := (HO.ins.inj (Option.some.inj hs)).2.2
    cases this
  refine kQ h x dx s dy _ (fun b u e => ?_) upd_same (by rw [upd_ne ne]; exact hs)
  rw [upd_ne (ne_of_none e hx)]
  exact s1 _ _ (s0 _ _ e)
theorem ok_Rest_holds (T : Txt P K mg a) : FnOk P w K mg base CX0 2 a.a_Rest_holds a.d_Rest_holds ["self", "i", "n"] (spRHolds a) := by
  refine T.F_Rest_holds.ok sc_Rest_holds (fun vs H Q E h => ?_) (fun cdv A outer s H vs Q E hr h => ?_)
  · obtain ⟨p, i, n, m, r, x, y, rfl, _⟩ := h
    rfl
  · obtain ⟨p, i, n, m, r, x, y, rfl, ⟨dx, s', dy, hp, hs⟩, hi, hn, hx, hy, hm, hm2, k⟩ := h
    refine ⟨_, (pss_one (ps_ret (pe_cmpR op_eq (pe_op op_mod (pe_fldI (pv 0) T.c_Straight_call (ok_Straight_call T) (hr.mono (by decide)) T.b_Straight_call pass0S (pa_cons (pv 1) (pa_cons (pv 2) pa_nil))) (pe_fld (pv 0) rfl)) (pe_fld (pv 0) rfl) (nomark _)))), ?_⟩
    walk_at "g"
    refine ⟨⟨dy, _, hs⟩, s', i, n, 0, x, y, rfl, ⟨dy, hs⟩, hi, hn, hx, hy, ?_⟩
    walk_at "g"
    exact k
theorem ok_Rest_replaced (T : Txt P K mg a) : FnOk P w K mg base CX0 6 a.a_Rest_replaced a.d_Rest_replaced ["self", "factor", "shift"] (spRRep a) := by
  refine T.F_Rest_replaced.ok sc_Rest_replaced (fun vs H Q E h => ?_) (fun cdv A outer s H vs Q E hr h => ?_)
  · obtain ⟨p, i, n, m, r, f, s, rfl, _⟩ := h
    rfl
  · obtain ⟨p, i, n, m, r, f, sh, rfl, ⟨dx, s', dy, hp, hs⟩, hf, hsh, hm, hm2, hr0, hr1, k⟩ := h
    refine ⟨_, (pss_one (ps_ret (pe_makeS T.mk_Rest (ok_Rest_init T) (hr.mono (by decide)) rfl T.g_Rest T.b_Rest_init passLS (pa_cons (pe_methZ (pe_fld (pv 0) rfl) T.cl_Straight T.m_Straight_replaced (ok_Straight_replaced T) (hr.mono (by decide)) T.b_Straight_replaced pass0S (pa_cons (pv 1) (pa_cons (pv 2) pa_nil))) (pa_cons (pe_fld (pv 0) rfl) (pa_cons (pe_fld (pv 0) rfl) pa_nil)))))), ?_⟩
    walk_at "g"
    refine ⟨s', dy, _, rfl, hs, fStraight_no_replaced .., ?_⟩
    walk_at "g"
    refine ⟨s', i, n, 0, f, sh, rfl, ⟨dy, hs⟩, hf, hsh, fun q H1 s1 ⟨dq, hq⟩ => ?_⟩
    walk_at "g"
    exact mkR (.inl ⟨q, rfl, dq, hq⟩) (fun h => by omega) (fun h => by omega) fun _ p' dx' s3 dy' H' s2 h2 h3 => k p' H' (s1.trans s2) ⟨dx', s3, dy', h2, h3⟩
end
end Lw
local macro_rules | `(tactic| walk_at "hp") => `(tactic| first
  | assumption
  | exact L2.upd_same
  | (refine G.sget (by assumption) ?_; walk_at "hp")
  | (refine G.kget (by assumption) ?_ ?_; (· walk_at "hp"); (· intro _ h; cases h)))
local macro_rules | `(tactic| walk_at "s") => `(tactic| first
  | (with_reducible refine G.seq ?_)
  | (with_reducible refine G.nx ?_)
  | (with_reducible refine G.rt ?_)
  | (with_reducible refine G.next ?_)
  | (with_reducible refine G.asg ?_)
  | (with_reducible refine G.asgG ?_)
  | ((with_reducible refine' G.gtup ?h ?l ?q); (case h => walk_at "hp"); (case l => rfl))
  | (with_reducible refine G.gcons ?_)
  | (with_reducible refine G.gnil ?_)
  | (with_reducible refine G.gname ?_)
  | (with_reducible refine G.inst ?_)
  | (with_reducible refine G.refV ?_)
  | (with_reducible refine G.xf ?_)
  | ((with_reducible refine' G.xfV ?h ?l ?q); (case h => walk_at "hp"); (case l => walk_at "xk"))
  | (with_reducible refine G.ret ?_)
  | (with_reducible refine G.ifS ?_)
  | (with_reducible refine G.drop ?_)
  | ((with_reducible refine' G.var ?h ?q); (case h => rfl))
  | (with_reducible refine G.cst ?_)
  | (with_reducible refine G.op ?_)
  | (with_reducible refine G.un ?_)
  | (with_reducible refine G.I0 ?_)
  | (with_reducible refine G.U1 ?_)
  | ((with_reducible refine G.fdiv ?_ ?_ ?_); (· omega); (· omega))
  | ((with_reducible refine G.md ?_ ?_); (· omega))
  | ((with_reducible refine G.mulL ?_ ?_ ?_); (· omega); (· omega))
  | ((with_reducible refine G.mulR ?_ ?_ ?_); (· omega); (· omega))
  | ((with_reducible refine G.mulW ?_ ?_ ?_ ?_ ?_); (· omega); (· omega); (· omega); (· omega))
  | (with_reducible refine G.pow18 ?_)
  | (with_reducible refine G.pow6 ?_)
  | (with_reducible refine G.pow30 ?_)
  | (with_reducible refine G.pow29 ?_)
  | (with_reducible refine G.pow3 ?_)
  | (with_reducible refine G.eqI ?_)
  | (with_reducible refine G.neI ?_)
  | ((with_reducible refine G.eq ?_ ?_); (· rfl))
  | ((with_reducible refine G.ne ?_ ?_); (· rfl))
  | (with_reducible refine G.isN ?_)
  | (with_reducible refine G.notN ?_)
  | (with_reducible refine G.test ?_)
  | (with_reducible refine G.tBv ?_)
  | (with_reducible refine G.bl ?_)
  | (with_reducible refine G.and ?_)
  | (with_reducible refine G.or ?_)
  | (with_reducible refine G.not ?_)
  | (with_reducible refine G.andV ?_)
  | (with_reducible refine G.orV ?_)
  | (with_reducible refine G.notV ?_)
  | (with_reducible refine G.ifE ?_)
  | (with_reducible refine G.nil ?_)
  | (with_reducible refine G.cons ?_)
  | (with_reducible refine G.tup ?_)
  | (with_reducible refine G.lst ?_)
  | (with_reducible refine G.fld ?_)
  | (with_reducible refine G.call ?_)
  | (with_reducible refine G.cb ?_)
  | (with_reducible refine G.make ?_)
  | (with_reducible refine G.dget ?_)
  | (with_reducible refine G.dput ?_)
  | (with_reducible refine G.fldS ?_)
  | (with_reducible refine G.abs ?_)
  | (with_reducible refine G.max2 ?_)
  | (with_reducible refine G.min2 ?_)
  | (with_reducible refine G.int1 ?_)
  | (with_reducible refine G.own ?_)
  | (with_reducible refine G.ownR ?_)
  | (with_reducible refine G.meth ?_)
  | (with_reducible refine G.par ?_)
  | (with_reducible refine G.par3 ?_)
  | (with_reducible refine G.parV ?_)
  | (with_reducible refine G.parV3 ?_)
  | (with_reducible refine G.forR ?_)
  | (with_reducible refine G.forZ ?_)
  | (with_reducible refine G.forT ?_)
  | (with_reducible refine G.forL ?_)
  | (with_reducible refine G.methU ?_)
  | (with_reducible refine G.sl ?_)
  | (with_reducible refine G.noPart ?_)
  | (with_reducible refine G.part ?_)
  | (with_reducible refine G.partV ?_)
  | (with_reducible refine G.raiseE ?_)
  | (with_reducible refine G.iteT' ?_)
  | (with_reducible refine G.iteNT ?_)
  | (with_reducible refine G.iteNF ?_)
  | (with_reducible refine G.iteF' ?_)
  | ((with_reducible refine' G.dgetS ?h ?l ?q); (case h => walk_at "hp"); (case l => walk_at "dk"))
  | ((with_reducible refine' G.lenL ?h ?q); (case h => walk_at "hp"))
  | ((with_reducible refine' G.lenT ?h ?q); (case h => walk_at "hp"))
  | ((with_reducible refine' G.fldV ?h ?c ?n ?l ?q); (case h => walk_at "hp"); (case c => walk_at "cls"); (case n => walk_at "na"); (case l => walk_at "lk"))
  | ((with_reducible refine' G.fldSV ?h ?c ?n ?l ?q); (case h => walk_at "hp"); (case c => walk_at "cls"); (case n => walk_at "na"); (case l => walk_at "ln")))
local macro_rules | `(tactic| walk_at "g") => `(tactic| repeat (walk_at "s"))
namespace Lw
open PySem L2
local macro_rules | `(tactic| walk_at "cls") => `(tactic| first | exact Lw.Txt.cl_Straight (by assumption) | exact Lw.Txt.cl_AtLeast (by assumption) | exact Lw.Txt.cl_Rest (by assumption))
local macro_rules | `(tactic| walk_at "na") => `(tactic| first | exact Lw.Txt.na_Straight_i (by assumption) | exact Lw.Txt.na_Straight_n (by assumption) | exact Lw.Txt.na_Straight_one (by assumption) | exact Lw.Txt.na_AtLeast_straight (by assumption) | exact Lw.Txt.na_Rest_straight (by assumption) | exact Lw.Txt.na_Rest_modulus (by assumption) | exact Lw.Txt.na_Rest_rest (by assumption))
local macro_rules | `(tactic| walk_at "lk") => `(tactic| first | exact Lw.fStraight_i _ _ _ | exact Lw.fStraight_n _ _ _ | exact Lw.fStraight_one _ _ _ | exact Lw.fAtLeast_straight _ | exact Lw.fRest_straight _ _ _ | exact Lw.fRest_modulus _ _ _ | exact Lw.fRest_rest _ _ _)
local macro_rules | `(tactic| walk_at "ln") => `(tactic| first | (show 0 < 1000; decide) | (show 1 < 1000; decide) | (show 2 < 1000; decide) | (show 3 < 1000; decide) | (show 4 < 1000; decide))
/-! ### the pen of the law -/
def pd (c : V) (s l : Int) : List (Key × V) := [(Sum.inr "cells", c), (Sum.inr "at", .int s), (Sum.inr "left", .int l)]
theorem pd_cells (c : V) (s l : Int) : valV (pd c s l) (Sum.inr ("cells" : Str)) = some c := by kernel_rfl
theorem pd_at (c : V) (s l : Int) : valV (pd c s l) (Sum.inr ("at" : Str)) = some (.int s) := by kernel_rfl
theorem pd_left (c : V) (s l : Int) : valV (pd c s l) (Sum.inr ("left" : Str)) = some (.int l) := by kernel_rfl
theorem pd_put_at (c : V) (s l x : Int) : putK (pd c s l) (Sum.inr ("at" : Str)) (.int x) = pd c x l := by kernel_rfl
theorem pd_put_left (c : V) (s l x : Int) : putK (pd c s l) (Sum.inr ("left" : Str)) (.int x) = pd c s x := by kernel_rfl
theorem pd_new (c : V) : mergeK [] [(Sum.inr ("cells" : Str), c), (Sum.inr ("at" : Str), .int 0), (Sum.inr ("left" : Str), .int 0)] = pd c 0 0 := by kernel_rfl
/-- at p a pen that has drawn at most n times -/
def Pen (H : Hp) (p : Addr) (n : Int) : Prop := ∃ (l : Addr) (cs : List Int) (s r : Int), H p = some (.dK (pd (.ref l) s r)) ∧ H l = some (.lst (cs.map V.int)) ∧ cs.length ≤ 63 ∧ 0 ≤ s ∧ s ≤ n ∧ 0 ≤ r
theorem Pen.same {H H' : Hp} {p : Addr} {n : Int} (h : Pen H p n) (s : Same H H') : Pen H' p n := by
  obtain ⟨l, cs, x, r, h1, h2, h3⟩ := h
  exact ⟨l, cs, x, r, s _ _ h1, s _ _ h2, h3⟩
theorem Pen.mono {H : Hp} {p : Addr} {n m : Int} (h : Pen H p n) (hm : n ≤ m) : Pen H p m := by
  obtain ⟨l, cs, x, r, h1, h2, h3, h4, h5, h6⟩ := h
  exact ⟨l, cs, x, r, h1, h2, h3, h4, by omega, h6⟩
def spPen (K : PySem.W.Frag) : Sp := fun vs H Q _ => ∃ (s : Addr) (ns : List Int), vs = [.ref s] ∧ SqL K H s (ns.map V.int) ∧ ∀ p H', Same H H' → Pen H' p 0 → Q (.ref p) H'
def spDraw : Sp := fun vs H Q _ => ∃ (p : Addr) (m n : Int), vs = [.ref p, .int m] ∧ Pen H p n ∧ n ≤ 1000000000000 ∧ 0 < m ∧ m < 1073741824 ∧ ∀ r H', G.Kp H H' → Pen H' p (n + 1) → 0 ≤ r → r < m → Q (.int r) H'
def spBig : Sp := fun vs H Q _ => ∃ (p : Addr) (m n : Int), vs = [.ref p, .int m] ∧ Pen H p n ∧ n ≤ 100000000000 ∧ 0 < m ∧ m.natAbs.log2 < 1920 ∧ (Str.ofString (toString m)).length ≤ 600 ∧ ∀ r H', G.Kp H H' → Pen H' p (n + 1000) → 0 ≤ r → r < m → Q (.int r) H'
def spBetween : Sp := fun vs H Q _ => ∃ (p : Addr) (lo hi n : Int), vs = [.ref p, .int lo, .int hi] ∧ Pen H p n ∧ n ≤ 100000000000 ∧ lo ≤ hi ∧ hi - lo < 1000000000 ∧ ∀ r H', G.Kp H H' → Pen H' p (n + 2) → lo ≤ r → r ≤ hi → Q (.int r) H'
def spFar : Sp := fun vs H Q _ => ∃ (p : Addr) (n : Int), vs = [.ref p] ∧ Pen H p n ∧ n ≤ 10000000000 ∧ ∀ r H', G.Kp H H' → Pen H' p (n + 2000) → 0 ≤ r → r < 1000000000000000000000000000000 → Q (.int r) H'
local macro_rules | `(tactic| walk_at "dk") => `(tactic| first | exact Lw.pd_cells _ _ _ | exact Lw.pd_at _ _ _ | exact Lw.pd_left _ _ _)
theorem kp_pen {H : Hp} {p : Addr} {kvs kvs' : List (Key × V)} (h : H p = some (.dK kvs)) : G.Kp H (upd H p (.dK kvs')) := fun b u e n => by
  by_cases hb : b = p
  · subst hb
    rw [h] at e
    exact absurd (Option.some.inj e).symm (n kvs)
  · rw [upd_ne hb]
    exact e
theorem put_at {H : Hp} {p : Addr} {c : V} {s l x : Int} {f : Hp → Prop} (h : H p = some (.dK (pd c s l))) (q : ∀ H', G.Kp H H' → H' p = some (.dK (pd c x l)) → f H') : G.rDPut (.int x) (.ref p) (.str "at") H f :=
  G.dputS h (by show 3 < 100000; decide) (by rw [pd_put_at]; exact q _ (kp_pen h) upd_same)
theorem put_left {H : Hp} {p : Addr} {c : V} {s l x : Int} {f : Hp → Prop} (h : H p = some (.dK (pd c s l))) (q : ∀ H', G.Kp H H' → H' p = some (.dK (pd c s x)) → f H') : G.rDPut (.int x) (.ref p) (.str "left") H f :=
  G.dputS h (by show 3 < 100000; decide) (by rw [pd_put_left]; exact q _ (kp_pen h) upd_same)
theorem eqv_nil (cs : List Int) : PyData.eqv (.list (cs.map PyData.int)) (.list []) = decide (cs = []) := by
  cases cs with
  | nil => simp [PyData.eqv, PyData.eqvAll]
  | cons c r => simp [PyData.eqv, PyData.eqvAll]
theorem xBN_what (wh : Str) (d : Int) : (xBN wh d).lookup ("what" : Str) = some (.str wh) := by kernel_rfl
theorem xBN_number (wh : Str) (d : Int) : (xBN wh d).lookup ("number" : Str) = some (.int d) := by kernel_rfl
local macro_rules | `(tactic| walk_at "xk") => `(tactic| first | exact Lw.xBN_what _ _ | exact Lw.xBN_number _ _)
section
variable {P : Program} {w : World} {K : PySem.W.Frag} {mg : Str → Option Value} {base : Heap} {a : Ad}
theorem cut63 (ns : List Int) : cutV (ns.map V.int) none (some 63) = (ns.take 63).map V.int := by
  unfold cutV
  have e1 : HT.sIx (ns.map V.int).length (ns.map V.int).length (some 63) = min 63 (ns.map V.int).length := HT.sIx_nat _ _ 63
  have e0 : HT.sIx (ns.map V.int).length 0 none = 0 := rfl
  rw [e1, e0, List.drop_zero, Nat.sub_zero, List.map_take, ← List.take_eq_take_min]
theorem ok_pen (T : Txt P K mg a) : FnOk P w K mg base CX0 1 a.a_pen a.d_pen ["_law_script"] (spPen K) := by
  refine T.F_pen.ok sc_pen (fun vs H Q E h => ?_) (fun cdv A outer s H vs Q E hr h => ?_)
  · obtain ⟨s, ns, rfl, _⟩ := h
    rfl
  · obtain ⟨sc, ns, rfl, hs, k⟩ := h
    refine ⟨_, (pss_one (ps_ret (pe_disp (pps_cons pe_str (pe_callTy G.cListOf (by rfl) T.n_list (by decide +kernel) (pa_cons (pe_slice sl_list (pv 0) po_none (po_some pe_int)) pa_nil)) (pps_cons pe_str pe_int (pps_cons pe_str pe_int pps_nil))) (by rfl) (by rfl) (fun z => by cases z) (by decide)))), ?_⟩
    walk_at "g"
    intro p hp
    refine G.cst (G.cb (G.cons ?_))
    refine ⟨_, rfl, ?_⟩
    refine ⟨_, rfl, sc, _, rfl, (G.same_new hp).seq hs, fun l hl => ?_⟩
    walk_at "g"
    refine ⟨l, _, rfl, .inl (SqL.of upd_same), fun l2 hl2 => ?_⟩
    show tC _ _ _ _
    walk_at "g"
    show tC _ _ _ _
    walk_at "g"
    have s1 : Same (upd H p (.dK [])) (upd (upd (upd H p (.dK [])) l (.lst (cutV (ns.map V.int) none (some 63)))) l2 (.lst (cutV (ns.map V.int) none (some 63)))) := (G.same_new hl).trans (G.same_new hl2)
    refine ⟨s1 _ _ upd_same, [(Sum.inr "cells", .ref l2), (Sum.inr "at", .int 0), (Sum.inr "left", .int 0)], rfl, by show 3 ≤ 15; decide, ?_⟩
    rw [pd_new]
    walk_at "g"
    have np : l2 ≠ p := fun z => by
      rw [z] at hl2
      rw [G.same_new hl _ _ upd_same] at hl2
      cases hl2
    refine k p _ (fun b u e => ?_) ⟨l2, ns.take 63, 0, 0, upd_same, ?_, ?_, by omega, by omega, by omega⟩
    · rw [upd_ne (ne_of_none e hp)]
      exact s1 _ _ (G.same_new hp _ _ e)
    · rw [upd_ne np, upd_same, cut63]
    · rw [List.length_take]; omega
theorem ok_draw (T : Txt P K mg a) : FnOk P w K mg base CX0 1 a.a_draw a.d_draw ["_law_pen_here", "_law_many"] spDraw := by
  refine T.F_draw.ok sc_draw (fun vs H Q E h => ?_) (fun cdv A outer s H vs Q E hr h => ?_)
  · obtain ⟨p, m, n, rfl, _⟩ := h
    rfl
  · obtain ⟨p, m, n, rfl, ⟨l, cs, x, r, hp, hl, hc, hx0, hx1, hr0⟩, hn, hm, hm2, k⟩ := h
    refine ⟨_, (pss_cons (ps_if (pt_cmpR op_ge (pe_dget (hu_of hr) (pv 0) pe_str (fun _ _ => rfl)) (pv 1) (nomark _)) (pss_cons (ps_set (i := 2) sc_draw.nd rfl (Or.inl rfl) (pe_op op_mod (pe_callTy G.cInt1 (by rfl) T.n_int (by decide +kernel) (pa_cons (pe_dget (hu_of hr) (pv 0) pe_str (fun _ _ => rfl)) pa_nil)) (pv 1)))
      (pss_cons (ps_dput (hu_of hr) (pv 0) pe_str (pe_op op_fdiv (pe_dget (hu_of hr) (pv 0) pe_str (fun _ _ => rfl)) (pv 1)) rfl)
      (pss_one (ps_ret (pv 2))))) pss_nil)
      (pss_cons (ps_set (i := 3) sc_draw.nd rfl (Or.inl rfl) (pe_dget (hu_of hr) (pv 0) pe_str (fun _ _ => rfl)))
      (pss_cons (ps_dput (hu_of hr) (pv 0) pe_str (pe_op op_add (pv 3) pe_int) rfl)
      (pss_cons (ps_if (pt_cmpR (op_eqD hr.units) (pe_dget (hu_of hr) (pv 0) pe_str (fun _ _ => rfl)) (pe_lst pa_nil) (nomark _)) (pss_one (ps_ret (pe_op op_mod (pe_callTy G.cInt1 (by rfl) T.n_int (by decide +kernel) (pa_cons (pe_op op_add (pe_op op_mul pe_int (pv 3)) pe_int) pa_nil)) (pv 1)))) pss_nil)
      (pss_cons (ps_set (i := 4) sc_draw.nd rfl (Or.inl rfl) (pe_ix ix_list (pe_dget (hu_of hr) (pv 0) pe_str (fun _ _ => rfl)) (pe_op op_mod (pe_callTy G.cInt1 (by rfl) T.n_int (by decide +kernel) (pa_cons (pv 3) pa_nil)) (pe_callB G.cLenSeq (by rfl) T.n_len (by decide +kernel) (pa_cons (pe_dget (hu_of hr) (pv 0) pe_str (fun _ _ => rfl)) pa_nil))) (fun _ _ => rfl)))
      (pss_cons (ps_if (PW.pt (pw_and (pt_cmpR op_lt (pv 3) (pe_callB G.cLenSeq (by rfl) T.n_len (by decide +kernel) (pa_cons (pe_dget (hu_of hr) (pv 0) pe_str (fun _ _ => rfl)) pa_nil)) (nomark _)) (pw_and1 (pt_cmpR op_ge (pv 4) (pe_op op_pow pe_int pe_int) (nomark _))))) (pss_cons (ps_dput (hu_of hr) (pv 0) pe_str (pe_op op_fdiv (pe_op op_sub (pv 4) (pe_op op_pow pe_int pe_int)) (pv 1)) rfl)
      (pss_one (ps_ret (pe_op op_mod (pe_callTy G.cInt1 (by rfl) T.n_int (by decide +kernel) (pa_cons (pe_op op_sub (pv 4) (pe_op op_pow pe_int pe_int)) pa_nil)) (pv 1))))) pss_nil)
      (pss_cons (ps_set (i := 5) sc_draw.nd rfl (Or.inl rfl) (pe_op op_add (pe_op op_add (pe_op op_mul (pe_op op_add (pe_op op_mod (pe_callTy G.cInt1 (by rfl) T.n_int (by decide +kernel) (pa_cons (pv 4) pa_nil)) pe_int) pe_int) (pe_op op_add (pe_op op_mul pe_int (pv 3)) pe_int)) (pe_op op_mul (pe_op op_mul pe_int (pv 3)) (pv 3))) pe_int))
      (pss_cons (ps_set (i := 5) sc_draw.nd rfl (Or.inl rfl) (pe_op op_mod (pe_callTy G.cInt1 (by rfl) T.n_int (by decide +kernel) (pa_cons (pv 5) pa_nil)) pe_int))
      (pss_cons (ps_set (i := 5) sc_draw.nd rfl (Or.inl rfl) (pe_op op_mod (pe_callTy G.cInt1 (by rfl) T.n_int (by decide +kernel) (pa_cons (pe_op op_mul (pv 5) (pe_op op_add (pv 5) pe_int)) pa_nil)) pe_int))
      (pss_cons (ps_set (i := 5) sc_draw.nd rfl (Or.inl rfl) (pe_op op_mod (pe_callTy G.cInt1 (by rfl) T.n_int (by decide +kernel) (pa_cons (pe_op op_mul (pv 5) (pv 5)) pa_nil)) pe_int))
      (pss_one (ps_ret (pe_op op_mod (pe_callTy G.cInt1 (by rfl) T.n_int (by decide +kernel) (pa_cons (pe_op op_fdiv (pv 5) pe_int) pa_nil)) (pv 1)))))))))))))), ?_⟩
    walk_at "g"
    refine G.ite (fun h1 => ?_) (fun h1 => ?_)
    · walk_at "g"
      refine put_left hp fun H1 k1 hp1 => ?_
      walk_at "g"
      exact k _ _ k1 ⟨l, cs, x, r / m, hp1, by walk_at "hp", hc, hx0, by omega, Int.ediv_nonneg hr0 (by omega)⟩ (Int.emod_nonneg _ (by omega)) (Int.emod_lt_of_pos _ hm)
    · walk_at "g"
      refine put_at hp fun H1 k1 hp1 => ?_
      have hl1 : H1 l = some (.lst (cs.map V.int)) := by walk_at "hp"
      walk_at "g"
      refine G.newL (by decide) fun q H2 _ s2 hq => ?_
      have hp2 := s2 _ _ hp1
      refine G.eqD (k := decide (cs = [])) (G.dpL (by walk_at "hp") (G.dpInts cs)) (G.dpL hq .nil) (PySem.W.shaped_ints cs) (by rfl) (eqv_nil cs) ?_
      walk_at "g"
      refine G.ite (fun h2 => ?_) (fun h2 => ?_)
      · walk_at "g"
        exact k _ _ (k1.then s2) ⟨l, cs, x + 1, r, hp2, by walk_at "hp", hc, by omega, by omega, hr0⟩ (Int.emod_nonneg _ (by omega)) (Int.emod_lt_of_pos _ hm)
      · have hcl : 0 < cs.length := List.length_pos_iff.mpr h2
        walk_at "g"
        rw [List.length_map]
        walk_at "g"
        have hi0 : 0 ≤ x % (cs.length : Int) := Int.emod_nonneg _ (by omega)
        have hi1 : x % (cs.length : Int) < cs.length := Int.emod_lt_of_pos _ (by omega)
        obtain ⟨j, hj⟩ := Int.eq_ofNat_of_zero_le hi0
        have hjl : j < cs.length := by omega
        refine G.ixL (v := .int cs[j]) (by walk_at "hp") (at_of hj (by rw [List.getElem?_map, List.getElem?_eq_getElem hjl]; rfl)) ?_
        walk_at "g"
        rw [List.length_map]
        refine G.ite (fun h3 => ?_) (fun h3 => ?_)
        · walk_at "g"
          refine G.ite (fun h4 => ?_) (fun h4 => ?_)
          · walk_at "g"
            refine put_left hp2 fun H3 k3 hp3 => ?_
            walk_at "g"
            exact k _ _ ((k1.then s2).trans k3) ⟨l, cs, x + 1, _, hp3, by walk_at "hp", hc, by omega, by omega, Int.ediv_nonneg (by omega) (by omega)⟩ (Int.emod_nonneg _ (by omega)) (Int.emod_lt_of_pos _ hm)
          · walk_at "g"
            exact k _ _ (k1.then s2) ⟨l, cs, x + 1, r, hp2, by walk_at "hp", hc, by omega, by omega, hr0⟩ (Int.emod_nonneg _ (by omega)) (Int.emod_lt_of_pos _ hm)
        · walk_at "g"
          exact k _ _ (k1.then s2) ⟨l, cs, x + 1, r, hp2, by walk_at "hp", hc, by omega, by omega, hr0⟩ (Int.emod_nonneg _ (by omega)) (Int.emod_lt_of_pos _ hm)
theorem ok_big (T : Txt P K mg a) : FnOk P w K mg base CX0 2 a.a_big a.d_big ["_law_pen_here", "_law_many"] spBig := by
  refine T.F_big.ok sc_big (fun vs H Q E h => ?_) (fun cdv A outer s H vs Q E hr h => ?_)
  · obtain ⟨p, m, n, rfl, _⟩ := h
    rfl
  · obtain ⟨p, m, n, rfl, pe, hn, hm, hm2, hlen, k⟩ := h
    refine ⟨_, (pss_cons (ps_set (i := 2) sc_big.nd rfl (Or.inl rfl) pe_int)
      (pss_cons (ps_for PassesOwn.never rfl (pi_range1 (by rfl) T.n_range (pa_cons (pe_op op_add (pe_op op_fdiv (pe_callB G.cLenStr (by rfl) T.n_len (by decide +kernel) (pa_cons (pe_callTy G.cStrI (by rfl) T.n_str (by decide +kernel) (pa_cons (pv 1) pa_nil)) pa_nil)) pe_int) pe_int) pa_nil)) (pg_name (i := 3) sc_big.nd rfl (Or.inl rfl))
      (pss_one (ps_set (i := 2) sc_big.nd rfl (Or.inl rfl) (pe_op op_add (pe_op op_mul (pv 2) (pe_op op_pow pe_int pe_int)) (pe_callS (ok_draw T) (hr.mono (by decide)) rfl T.g_draw T.F_draw.kp T.b_draw pass0S (pa_cons (pv 0) (pa_cons (pe_op op_pow pe_int pe_int) pa_nil)))))))
      (pss_one (ps_ret (pe_op op_mod (pe_callTy G.cInt1 (by rfl) T.n_int (by decide +kernel) (pa_cons (pv 2) pa_nil)) (pv 1)))))), ?_⟩
    walk_at "g"
    refine G.strI hm2 ?_
    walk_at "g"
    refine G.lenS (by omega) ?_
    walk_at "g"
    refine G.forR1 (fun i σ H' => ∃ (f : Int) (v : Option V), σ = [some (.ref p), some (.int m), some (.int f), v] ∧ 0 ≤ f ∧ G.Kp H H' ∧ Pen H' p (n + i)) (by omega) ⟨0, none, rfl, by omega, G.Kp.refl H, pe.mono (by omega)⟩ ?_ ?_
    · rintro i σ H' hi ⟨f, v, rfl, hf, k1, pe1⟩
      walk_at "g"
      refine ⟨p, _, n + i, rfl, pe1, by omega, by omega, by omega, fun r H2 k2 pe2 h1 h2 => ?_⟩
      walk_at "g"
      exact ⟨_, _, rfl, by omega, k1.trans k2, pe2.mono (by omega)⟩
    · rintro σ H' ⟨f, v, rfl, hf, k1, pe1⟩
      walk_at "g"
      exact k _ _ k1 (pe1.mono (by omega)) (Int.emod_nonneg _ (by omega)) (Int.emod_lt_of_pos _ hm)
theorem ok_between (T : Txt P K mg a) : FnOk P w K mg base CX0 2 a.a_between a.d_between ["_law_pen_here", "_law_least", "_law_most"] spBetween := by
  refine T.F_between.ok sc_between (fun vs H Q E h => ?_) (fun cdv A outer s H vs Q E hr h => ?_)
  · obtain ⟨p, lo, hi, n, rfl, _⟩ := h
    rfl
  · obtain ⟨p, lo, hi, n, rfl, pe, hn, hlh, hb, k⟩ := h
    refine ⟨_, (pss_cons (ps_set (i := 3) sc_between.nd rfl (Or.inl rfl) (pe_callS (ok_draw T) (hr.mono (by decide)) rfl T.g_draw T.F_draw.kp T.b_draw pass0S (pa_cons (pv 0) (pa_cons pe_int pa_nil))))
      (pss_cons (ps_if (pt_cmpR op_lt (pv 3) pe_int (nomark _)) (pss_one (ps_set (i := 4) sc_between.nd rfl (Or.inl rfl) (pe_op op_sub (pe_callS (ok_draw T) (hr.mono (by decide)) rfl T.g_draw T.F_draw.kp T.b_draw pass0S (pa_cons (pv 0) (pa_cons pe_int pa_nil))) pe_int))) (pss_one (ps_if (pt_cmpR op_eq (pv 3) pe_int (nomark _)) (pss_one (ps_set (i := 4) sc_between.nd rfl (Or.inl rfl) (pe_ix ix_list (pe_lst (pa_cons (pv 1) (pa_cons (pv 2) (pa_cons (pe_op op_add (pv 1) pe_int) (pa_cons (pe_op op_sub (pv 2) pe_int) pa_nil))))) (pe_callS (ok_draw T) (hr.mono (by decide)) rfl T.g_draw T.F_draw.kp T.b_draw pass0S (pa_cons (pv 0) (pa_cons pe_int pa_nil))) (fun _ _ => rfl)))) (pss_one (ps_set (i := 4) sc_between.nd rfl (Or.inl rfl) (pe_op op_add (pv 1) (pe_callS (ok_draw T) (hr.mono (by decide)) rfl T.g_draw T.F_draw.kp T.b_draw pass0S (pa_cons (pv 0) (pa_cons (pe_op op_add (pe_op op_sub (pv 2) (pv 1)) pe_int) pa_nil)))))))))
      (pss_one (ps_ret (pe_callB (G.cMax2 rfl) (by rfl) T.n_max (by decide +kernel) (pa_cons (pv 1) (pa_cons (pe_callB (G.cMin2 rfl) (by rfl) T.n_min (by decide +kernel) (pa_cons (pv 2) (pa_cons (pv 4) pa_nil))) pa_nil))))))), ?_⟩
    walk_at "g"
    refine ⟨p, 4, n, rfl, pe, by omega, by omega, by omega, fun r1 H1 k1 pe1 h1 h2 => ?_⟩
    walk_at "g"
    refine G.ite (fun h3 => ?_) (fun h3 => ?_)
    · walk_at "g"
      refine ⟨p, 7, n + 1, rfl, pe1, by omega, by omega, by omega, fun r2 H2 k2 pe2 h4 h5 => ?_⟩
      walk_at "g"
      exact k _ _ (k1.trans k2) (pe2.mono (by omega)) (by omega) (by omega)
    · walk_at "g"
      refine G.ite (fun h6 => ?_) (fun h6 => ?_)
      · walk_at "g"
        refine G.newL (by simp) fun q H2 _ s2 hq => ?_
        walk_at "g"
        refine ⟨p, 4, n + 1, rfl, pe1.same s2, by omega, by omega, by omega, fun r2 H3 k2 pe2 h4 h5 => ?_⟩
        walk_at "g"
        obtain ⟨j, rfl⟩ := Int.eq_ofNat_of_zero_le h4
        have hj : j < 4 := by omega
        have fin : ∀ v : Int, lo ≤ hi → Q (.int (max lo (min hi v))) H3 := fun v _ => k _ _ ((k1.then s2).trans k2) (pe2.mono (by omega)) (by omega) (by omega)
        match j, hj with
        | 0, _ => exact G.ixL (by walk_at "hp") rfl (by walk_at "g"; exact fin _ hlh)
        | 1, _ => exact G.ixL (by walk_at "hp") rfl (by walk_at "g"; exact fin _ hlh)
        | 2, _ => exact G.ixL (by walk_at "hp") rfl (by walk_at "g"; exact fin _ hlh)
        | 3, _ => exact G.ixL (by walk_at "hp") rfl (by walk_at "g"; exact fin _ hlh)
      · walk_at "g"
        refine ⟨p, hi - lo + 1, n + 1, rfl, pe1, by omega, by omega, by omega, fun r2 H2 k2 pe2 h4 h5 => ?_⟩
        walk_at "g"
        exact k _ _ (k1.trans k2) (pe2.mono (by omega)) (by omega) (by omega)
theorem ok_far (T : Txt P K mg a) : FnOk P w K mg base CX0 3 a.a_far a.d_far ["_law_pen_here"] spFar := by
  refine T.F_far.ok sc_far (fun vs H Q E h => ?_) (fun cdv A outer s H vs Q E hr h => ?_)
  · obtain ⟨p, n, rfl, _⟩ := h
    rfl
  · obtain ⟨p, n, rfl, pe, hn, k⟩ := h
    refine ⟨_, (pss_cons (ps_set (i := 1) sc_far.nd rfl (Or.inl rfl) (pe_callS (ok_draw T) (hr.mono (by decide)) rfl T.g_draw T.F_draw.kp T.b_draw pass0S (pa_cons (pv 0) (pa_cons pe_int pa_nil))))
      (pss_cons (ps_if (pt_cmpR op_eq (pv 1) pe_int (nomark _)) (pss_one (ps_ret (pe_callS (ok_draw T) (hr.mono (by decide)) rfl T.g_draw T.F_draw.kp T.b_draw pass0S (pa_cons (pv 0) (pa_cons pe_int pa_nil))))) pss_nil)
      (pss_cons (ps_if (pt_cmpR op_eq (pv 1) pe_int (nomark _)) (pss_one (ps_ret (pe_callS (ok_draw T) (hr.mono (by decide)) rfl T.g_draw T.F_draw.kp T.b_draw pass0S (pa_cons (pv 0) (pa_cons pe_int pa_nil))))) pss_nil)
      (pss_one (ps_ret (pe_callS (ok_big T) (hr.mono (by decide)) rfl T.g_big T.F_big.kp T.b_big pass0S (pa_cons (pv 0) (pa_cons (pe_op op_pow pe_int pe_int) pa_nil)))))))), ?_⟩
    walk_at "g"
    refine ⟨p, 3, n, rfl, pe, by omega, by omega, by omega, fun r1 H1 k1 pe1 h1 h2 => ?_⟩
    walk_at "g"
    refine G.ite (fun h3 => ?_) (fun h3 => ?_)
    · walk_at "g"
      refine ⟨p, 6, n + 1, rfl, pe1, by omega, by omega, by omega, fun r2 H2 k2 pe2 h4 h5 => ?_⟩
      walk_at "g"
      exact k _ _ (k1.trans k2) (pe2.mono (by omega)) (by omega) (by omega)
    · walk_at "g"
      refine G.ite (fun h6 => ?_) (fun h6 => ?_)
      · walk_at "g"
        refine ⟨p, 600, n + 1, rfl, pe1, by omega, by omega, by omega, fun r2 H2 k2 pe2 h4 h5 => ?_⟩
        walk_at "g"
        exact k _ _ (k1.trans k2) (pe2.mono (by omega)) (by omega) (by omega)
      · walk_at "g"
        refine ⟨p, _, n + 1, rfl, pe1, by omega, by omega, by decide +kernel, by decide +kernel, fun r2 H2 k2 pe2 h4 h5 => ?_⟩
        walk_at "g"
        exact k _ _ (k1.trans k2) (pe2.mono (by omega)) (by omega) (by omega)
def spDivisor : Sp := fun vs H Q _ => ∃ (x y : Int), vs = [.int x, .int y] ∧ Q (.int (Int.gcd x y)) H
theorem ok_divisor (T : Txt P K mg a) : FnOk P w K mg base CX0 1 a.a_divisor a.d_divisor ["_law_a", "_law_b"] spDivisor := by
  refine T.F_divisor.ok sc_divisor (fun vs H Q E h => ?_) (fun cdv A outer s H vs Q E hr h => ?_)
  · obtain ⟨x, y, rfl, _⟩ := h
    rfl
  · obtain ⟨x, y, rfl, k⟩ := h
    refine ⟨_, (pss_cons (ps_par (i := 0) (j := 1) (by rfl) sc_divisor.nd rfl rfl (by decide) rfl rfl (pa_cons (pe_callB G.cAbs (by rfl) T.n_abs (by decide +kernel) (pa_cons (pv 0) pa_nil)) (pa_cons (pe_callB G.cAbs (by rfl) T.n_abs (by decide +kernel) (pa_cons (pv 1) pa_nil)) pa_nil)) (by rfl))
      (pss_cons (ps_while PassesOwn.never (pt_cmpR op_gt (pv 1) pe_int (nomark _)) (pss_one (ps_par (i := 0) (j := 1) (by rfl) sc_divisor.nd rfl rfl (by decide) rfl rfl (pa_cons (pv 1) (pa_cons (pe_op op_mod (pe_callTy G.cInt1 (by rfl) T.n_int (by decide +kernel) (pa_cons (pv 0) pa_nil)) (pv 1)) pa_nil)) (by rfl))))
      (pss_one (ps_ret (pv 0))))), ?_⟩
    walk_at "g"
    refine (G.whl (fun m σ H' => ∃ u v : Nat, σ = [some (.int u), some (.int v)] ∧ H' = H ∧ Nat.gcd u v = Int.gcd x y ∧ m = v) y.natAbs ⟨x.natAbs, y.natAbs, rfl, rfl, rfl, rfl⟩ ?_ ?_)
    · rintro m σ H' ⟨u, v, rfl, rfl, e, rfl⟩
      walk_at "g"
      refine G.ite (fun hv => ?_) (fun hv => ?_)
      · walk_at "g"
        have hm : 0 < m := by omega
        refine ⟨u % m, Nat.mod_lt _ hm, m, u % m, ?_, rfl, ?_, rfl⟩
        · show [some (V.int (m : Int)), some (V.int ((u : Int) % (m : Int)))] = _
          rw [← Int.natCast_emod] 
        · rw [← e, Nat.gcd_comm u m, Nat.gcd_rec m u, Nat.gcd_comm]
      · walk_at "g"
        have hm : m = 0 := by omega
        subst hm
        rw [Nat.gcd_zero_right] at e
        rw [e]
        exact k
    · intro σ H Q Q' hm hq
      obtain ⟨v, h1, h2⟩ := hq
      obtain ⟨i, j, h3, h4, k', h5, h6⟩ := h2
      exact ⟨v, h1, i, j, h3, h4, k', h5, hm _ _ h6⟩
/-- a condition as the law tells it -/
def GL (H : Hp) (g : Addr) (i n o : Int) : Prop := ∃ t, H g = some (.tup [.str "least", .ref t]) ∧ H t = some (.tup [.int i, .int n, .int o])
def GR (H : Hp) (g : Addr) (i n o m r : Int) : Prop := ∃ t, H g = some (.tup [.str "rest", .ref t, .int m, .int r]) ∧ H t = some (.tup [.int i, .int n, .int o])
def spGDue : Sp := fun vs H Q _ => ∃ (g : Addr), vs = [.ref g] ∧
  ((∃ i n o, GL H g i n o ∧ Bd i ∧ Bd n ∧ ∀ q H', Same H H' → H' q = some (.tup [.int (aI i n), .int (aN i n), .int (aO i n o)]) → Q (.ref q) H') ∨
  (∃ i n o m r, GR H g i n o m r ∧ 2 ≤ m ∧ m ≤ 4 ∧ ∀ q H', Same H H' → H' q = some (.tup [.int (i % m), .int (n % m), .int 0, .int m, .int ((r - o) % m)]) → Q (.ref q) H'))
theorem ok_guard_due (T : Txt P K mg a) : FnOk P w K mg base CX0 2 a.a_guard_due a.d_guard_due ["_law_guard"] spGDue := by
  refine T.F_guard_due.ok sc_guard_due (fun vs H Q E h => ?_) (fun cdv A outer s H vs Q E hr h => ?_)
  · obtain ⟨g, rfl, _⟩ := h
    rfl
  · obtain ⟨g, rfl, h⟩ := h
    refine ⟨_, (pss_cons (ps_asg (pe_ix ix_tup (pv 0) pe_int (fun _ _ => rfl)) (pg_tup (by rfl) (pgs_cons (pg_name (i := 1) sc_guard_due.nd rfl (Or.inl rfl)) (pgs_cons (pg_name (i := 2) sc_guard_due.nd rfl (Or.inl rfl)) (pgs_cons (pg_name (i := 3) sc_guard_due.nd rfl (Or.inl rfl)) pgs_nil)))))
      (pss_cons (ps_if (pt_cmpR op_eq (pe_ix ix_tup (pv 0) pe_int (fun _ _ => rfl)) pe_str (nomark _)) (pss_cons (ps_set (i := 4) sc_guard_due.nd rfl (Or.inl rfl) (pe_ix ix_tup (pv 0) pe_int (fun _ _ => rfl)))
      (pss_one (ps_ret (pe_tup (pa_cons (pe_op op_mod (pe_callTy G.cInt1 (by rfl) T.n_int (by decide +kernel) (pa_cons (pv 1) pa_nil)) (pv 4)) (pa_cons (pe_op op_mod (pe_callTy G.cInt1 (by rfl) T.n_int (by decide +kernel) (pa_cons (pv 2) pa_nil)) (pv 4)) (pa_cons pe_int (pa_cons (pv 4) (pa_cons (pe_op op_mod (pe_callTy G.cInt1 (by rfl) T.n_int (by decide +kernel) (pa_cons (pe_op op_sub (pe_ix ix_tup (pv 0) pe_int (fun _ _ => rfl)) (pv 3)) pa_nil)) (pv 4)) pa_nil))))))))) pss_nil)
      (pss_cons (ps_set (i := 5) sc_guard_due.nd rfl (Or.inl rfl) (pe_callS (ok_divisor T) (hr.mono (by decide)) rfl T.g_divisor T.F_divisor.kp T.b_divisor pass0S (pa_cons (pv 1) (pa_cons (pv 2) pa_nil))))
      (pss_cons (ps_if (pt_cmpR op_eq (pv 5) pe_int (nomark _)) (pss_one (ps_ret (pe_tup (pa_cons pe_int (pa_cons pe_int (pa_cons (pe_ifExp (pt_cmpR op_ge (pv 3) pe_int (nomark _)) pe_int (pe_un un_neg pe_int)) pa_nil)))))) pss_nil)
      (pss_one (ps_ret (pe_tup (pa_cons (pe_op op_fdiv (pv 1) (pv 5)) (pa_cons (pe_op op_fdiv (pv 2) (pv 5)) (pa_cons (pe_op op_fdiv (pv 3) (pv 5)) pa_nil)))))))))), ?_⟩
    walk_at "g"
    rcases h with ⟨i, n, o, ⟨t, hg, ht⟩, hi, hn, k⟩ | ⟨i, n, o, m, r, ⟨t, hg, ht⟩, hm, hm2, k⟩
    · refine G.ixT hg (rfl : atI _ 1 = some (.ref t)) ?_
      walk_at "g"
      refine G.ixT hg (rfl : atI _ 0 = some (.str "least")) ?_
      walk_at "g"
      refine G.iteF' ?_
      walk_at "g"
      refine ⟨i, n, rfl, ?_⟩
      walk_at "g"
      have hb := gcd_le hi hn
      refine G.ite (fun hg => ?_) (fun hg => ?_)
      · have g0 : Int.gcd i n = 0 := by omega
        have e1 : aI i n = 0 := if_pos g0
        have e2 : aN i n = 0 := if_pos g0
        have e3 : aO i n o = if 0 ≤ o then 0 else -1 := if_pos g0
        walk_at "g"
        refine G.ite (fun ho => ?_) (fun ho => ?_)
        · walk_at "g"
          refine G.newT (by simp) fun q H2 _ s2 hq => ?_
          walk_at "g"
          exact k q H2 s2 (by rw [e1, e2, e3, if_pos ho]; exact hq)
        · walk_at "g"
          refine G.newT (by simp) fun q H2 _ s2 hq => ?_
          walk_at "g"
          exact k q H2 s2 (by rw [e1, e2, e3, if_neg ho]; exact hq)
      · have e1 : aI i n = i / (Int.gcd i n : Int) := if_neg (by omega)
        have e2 : aN i n = n / (Int.gcd i n : Int) := if_neg (by omega)
        have e3 : aO i n o = o / (Int.gcd i n : Int) := if_neg (by omega)
        walk_at "g"
        refine G.newT (by simp) fun q H2 _ s2 hq => ?_
        walk_at "g"
        exact k q H2 s2 (by rw [e1, e2, e3]; exact hq)
    · refine G.ixT hg (rfl : atI _ 1 = some (.ref t)) ?_
      walk_at "g"
      refine G.ixT hg (rfl : atI _ 0 = some (.str "rest")) ?_
      walk_at "g"
      refine G.iteT' ?_
      walk_at "g"
      refine G.ixT hg (rfl : atI _ 2 = some (.int m)) ?_
      walk_at "g"
      refine G.ixT hg (rfl : atI _ 3 = some (.int r)) ?_
      walk_at "g"
      refine G.newT (by simp) fun q H2 _ s2 hq => ?_
      walk_at "g"
      exact k q H2 s2 hq
def spValue : Sp := fun vs H Q _ => ∃ (t : Addr) (i n o x y : Int), vs = [.ref t, .int x, .int y] ∧ H t = some (.tup [.int i, .int n, .int o]) ∧ BB i ∧ BB n ∧ BB x ∧ BB y ∧ Q (.int (i * x + n * y + o)) H
theorem ok_value (T : Txt P K mg a) : FnOk P w K mg base CX0 1 a.a_value a.d_value ["_law_row", "_law_i", "_law_n"] spValue := by
  refine T.F_value.ok sc_value (fun vs H Q E h => ?_) (fun cdv A outer s H vs Q E hr h => ?_)
  · obtain ⟨t, i, n, o, x, y, rfl, _⟩ := h
    rfl
  · obtain ⟨t, i, n, o, x, y, rfl, ht, ⟨i1, i2⟩, ⟨n1, n2⟩, ⟨x1, x2⟩, ⟨y1, y2⟩, k⟩ := h
    refine ⟨_, (pss_cons (ps_set (i := 3) sc_value.nd rfl (Or.inl rfl) (pe_op op_add (pe_op op_add (pe_op op_mulW (pe_ix ix_tup (pv 0) pe_int (fun _ _ => rfl)) (pv 1)) (pe_op op_mulW (pe_ix ix_tup (pv 0) pe_int (fun _ _ => rfl)) (pv 2))) (pe_ix ix_tup (pv 0) pe_int (fun _ _ => rfl))))
      (pss_cons (ps_if (pt_cmpR op_eq (pe_callB G.cLenSeq (by rfl) T.n_len (by decide +kernel) (pa_cons (pv 0) pa_nil)) pe_int (nomark _)) (pss_one (ps_ret (pe_op op_fdiv (pv 3) (pe_ix ix_tup (pv 0) pe_int (fun _ _ => rfl))))) pss_nil)
      (pss_one (ps_ret (pv 3))))), ?_⟩
    walk_at "g"
    refine G.ixT ht (rfl : atI _ 0 = some (.int i)) ?_
    walk_at "g"
    refine G.ixT ht (rfl : atI _ 1 = some (.int n)) ?_
    walk_at "g"
    refine G.ixT ht (rfl : atI _ 2 = some (.int o)) ?_
    walk_at "g"
    refine G.iteZ (by simp) ?_
    walk_at "g"
    exact k
def spGHolds : Sp := fun vs H Q _ => ∃ (g : Addr) (x y : Int), vs = [.ref g, .int x, .int y] ∧ BB x ∧ BB y ∧
  ((∃ i n o, GL H g i n o ∧ BB i ∧ BB n ∧ Q (.bl (decide (0 ≤ i * x + n * y + o))) H) ∨
  (∃ i n o m r, GR H g i n o m r ∧ BB i ∧ BB n ∧ 2 ≤ m ∧ m ≤ 4 ∧ Q (.bl (decide ((i * x + n * y + o) % m = r))) H))
theorem ok_guard_holds (T : Txt P K mg a) : FnOk P w K mg base CX0 2 a.a_guard_holds a.d_guard_holds ["_law_guard", "_law_i", "_law_n"] spGHolds := by
  refine T.F_guard_holds.ok sc_guard_holds (fun vs H Q E h => ?_) (fun cdv A outer s H vs Q E hr h => ?_)
  · obtain ⟨g, x, y, rfl, _⟩ := h
    rfl
  · obtain ⟨g, x, y, rfl, hx, hy, h⟩ := h
    refine ⟨_, (pss_cons (ps_if (pt_cmpR op_eq (pe_ix ix_tup (pv 0) pe_int (fun _ _ => rfl)) pe_str (nomark _)) (pss_one (ps_ret (pe_cmpR op_eq (pe_op op_mod (pe_callTy G.cInt1 (by rfl) T.n_int (by decide +kernel) (pa_cons (pe_callS (ok_value T) (hr.mono (by decide)) rfl T.g_value T.F_value.kp T.b_value pass0S (pa_cons (pe_ix ix_tup (pv 0) pe_int (fun _ _ => rfl)) (pa_cons (pv 1) (pa_cons (pv 2) pa_nil)))) pa_nil)) (pe_ix ix_tup (pv 0) pe_int (fun _ _ => rfl))) (pe_ix ix_tup (pv 0) pe_int (fun _ _ => rfl)) (nomark _)))) pss_nil)
      (pss_one (ps_ret (pe_cmpR op_ge (pe_callS (ok_value T) (hr.mono (by decide)) rfl T.g_value T.F_value.kp T.b_value pass0S (pa_cons (pe_ix ix_tup (pv 0) pe_int (fun _ _ => rfl)) (pa_cons (pv 1) (pa_cons (pv 2) pa_nil)))) pe_int (nomark _))))), ?_⟩
    walk_at "g"
    rcases h with ⟨i, n, o, ⟨t, hg, ht⟩, hi, hn, k⟩ | ⟨i, n, o, m, r, ⟨t, hg, ht⟩, hi, hn, hm, hm2, k⟩
    · refine G.ixT hg (rfl : atI _ 0 = some (.str "least")) ?_
      walk_at "g"
      refine G.iteF' ?_
      walk_at "g"
      refine G.ixT hg (rfl : atI _ 1 = some (.ref t)) ?_
      walk_at "g"
      refine ⟨t, i, n, o, x, y, rfl, ht, hi, hn, hx, hy, ?_⟩
      walk_at "g"
      exact k
    · refine G.ixT hg (rfl : atI _ 0 = some (.str "rest")) ?_
      walk_at "g"
      refine G.iteT' ?_
      walk_at "g"
      refine G.ixT hg (rfl : atI _ 1 = some (.ref t)) ?_
      walk_at "g"
      refine ⟨t, i, n, o, x, y, rfl, ht, hi, hn, hx, hy, ?_⟩
      walk_at "g"
      refine G.ixT hg (rfl : atI _ 2 = some (.int m)) ?_
      walk_at "g"
      refine G.ixT hg (rfl : atI _ 3 = some (.int r)) ?_
      walk_at "g"
      exact k
def B30 (x : Int) : Prop := -1000000000000000000000000000000 ≤ x ∧ x ≤ 1000000000000000000000000000000
def spThree : Sp := fun vs H Q _ => ∃ (p : Addr) (n : Int), vs = [.ref p] ∧ Pen H p n ∧ n ≤ 1000000000 ∧ ∀ q x y z H', G.Kp H H' → Pen H' p (n + 7000) → H' q = some (.tup [.int x, .int y, .int z]) → B30 x → B30 y → B30 z → Q (.ref q) H'
theorem ok_three (T : Txt P K mg a) : FnOk P w K mg base CX0 4 a.a_three a.d_three ["_law_pen_here"] spThree := by
  refine T.F_three.ok sc_three (fun vs H Q E h => ?_) (fun cdv A outer s H vs Q E hr h => ?_)
  · obtain ⟨p, n, rfl, _⟩ := h
    rfl
  · obtain ⟨p, n, rfl, pe, hn, k⟩ := h
    refine ⟨_, (pss_cons (ps_if (pt_cmpR op_eq (pe_callS (ok_draw T) (hr.mono (by decide)) rfl T.g_draw T.F_draw.kp T.b_draw pass0S (pa_cons (pv 0) (pa_cons pe_int pa_nil))) pe_int (nomark _)) (pss_one (ps_ret (pe_tup (pa_cons (pe_callS (ok_far T) (hr.mono (by decide)) rfl T.g_far T.F_far.kp T.b_far pass0S (pa_cons (pv 0) pa_nil)) (pa_cons (pe_un un_neg (pe_callS (ok_far T) (hr.mono (by decide)) rfl T.g_far T.F_far.kp T.b_far pass0S (pa_cons (pv 0) pa_nil))) (pa_cons (pe_op op_sub (pe_callS (ok_far T) (hr.mono (by decide)) rfl T.g_far T.F_far.kp T.b_far pass0S (pa_cons (pv 0) pa_nil)) pe_int) pa_nil)))))) pss_nil)
      (pss_one (ps_ret (pe_tup (pa_cons (pe_callS (ok_between T) (hr.mono (by decide)) rfl T.g_between T.F_between.kp T.b_between pass0S (pa_cons (pv 0) (pa_cons (pe_un un_neg pe_int) (pa_cons pe_int pa_nil)))) (pa_cons (pe_callS (ok_between T) (hr.mono (by decide)) rfl T.g_between T.F_between.kp T.b_between pass0S (pa_cons (pv 0) (pa_cons (pe_un un_neg pe_int) (pa_cons pe_int pa_nil)))) (pa_cons (pe_callS (ok_between T) (hr.mono (by decide)) rfl T.g_between T.F_between.kp T.b_between pass0S (pa_cons (pv 0) (pa_cons (pe_un un_neg pe_int) (pa_cons pe_int pa_nil)))) pa_nil))))))), ?_⟩
    walk_at "g"
    refine ⟨p, 3, n, rfl, pe, by omega, by omega, by omega, fun r1 H1 k1 pe1 h1 h2 => ?_⟩
    walk_at "g"
    refine G.ite (fun h3 => ?_) (fun h3 => ?_)
    · walk_at "g"
      refine ⟨p, n + 1, rfl, pe1, by omega, fun x H2 k2 pe2 x1 x2 => ?_⟩
      walk_at "g"
      refine ⟨p, n + 2001, rfl, pe2.mono (by omega), by omega, fun y H3 k3 pe3 y1 y2 => ?_⟩
      walk_at "g"
      refine ⟨p, n + 4001, rfl, pe3.mono (by omega), by omega, fun z H4 k4 pe4 z1 z2 => ?_⟩
      walk_at "g"
      refine G.newT (by simp) fun q H5 _ s5 hq => ?_
      walk_at "g"
      exact k q _ _ _ H5 ((((k1.trans k2).trans k3).trans k4).then s5) ((pe4.mono (by omega)).same s5) hq ⟨by omega, by omega⟩ ⟨by omega, by omega⟩ ⟨by omega, by omega⟩
    · walk_at "g"
      refine ⟨p, -99, 99, n + 1, rfl, pe1, by omega, by omega, by omega, fun x H2 k2 pe2 x1 x2 => ?_⟩
      walk_at "g"
      refine ⟨p, -99, 99, n + 3, rfl, pe2.mono (by omega), by omega, by omega, by omega, fun y H3 k3 pe3 y1 y2 => ?_⟩
      walk_at "g"
      refine ⟨p, -99, 99, n + 5, rfl, pe3.mono (by omega), by omega, by omega, by omega, fun z H4 k4 pe4 z1 z2 => ?_⟩
      walk_at "g"
      refine G.newT (by simp) fun q H5 _ s5 hq => ?_
      walk_at "g"
      exact k q _ _ _ H5 ((((k1.trans k2).trans k3).trans k4).then s5) ((pe4.mono (by omega)).same s5) hq ⟨by omega, by omega⟩ ⟨by omega, by omega⟩ ⟨by omega, by omega⟩
theorem shaped3 (x y z : Int) : SeqAt.shaped (.tuple [.int x, .int y, .int z]) = true := by rfl
theorem eqv3 (x y z x' y' z' : Int) : PyData.eqv (.tuple [.int x, .int y, .int z]) (.tuple [.int x', .int y', .int z']) = decide (x = x' ∧ y = y' ∧ z = z') := by
  rw [Bool.eq_iff_iff]
  simp [PyData.eqv, PyData.eqvAll]
theorem dp3 {K : PySem.W.Frag} {H : Hp} {p : Addr} {x y z : Int} (h : H p = some (.tup [.int x, .int y, .int z])) : Dp K H (.ref p) (.tuple [.int x, .int y, .int z]) := G.dpT h (G.dpInts [x, y, z])
def spIsSum (a : Ad) : Sp := fun vs H Q _ => ∃ (p t : Addr) (i n o x y : Int), vs = [.ref p, .ref t, .int x, .int y] ∧ IsS a H p i n o ∧ H t = some (.tup [.int i, .int n, .int o]) ∧ BB i ∧ BB n ∧ BB x ∧ BB y ∧ ∀ H', Same H H' → Q (.bl true) H'
theorem ok_is_sum (T : Txt P K mg a) : FnOk P w K mg base CX0 2 a.a_is_sum a.d_is_sum ["_law_found", "_law_due", "_law_i", "_law_n"] (spIsSum a) := by
  refine T.F_is_sum.ok sc_is_sum (fun vs H Q E h => ?_) (fun cdv A outer s H vs Q E hr h => ?_)
  · obtain ⟨p, t, i, n, o, x, y, rfl, _⟩ := h
    rfl
  · obtain ⟨p, t, i, n, o, x, y, rfl, ⟨dx, hp⟩, ht, hi, hn, hx, hy, k⟩ := h
    have hi' := hi
    have hn' := hn
    have hx' := hx
    have hy' := hy
    obtain ⟨i1, i2⟩ := hi
    obtain ⟨n1, n2⟩ := hn
    obtain ⟨x1, x2⟩ := hx
    obtain ⟨y1, y2⟩ := hy
    refine ⟨_, (pss_cons (ps_if (PW.pt (pw_or (pt_not (pt_val (pe_callB call_isi (by rfl) T.n_isinstance (by decide +kernel) (pa_cons (pv 0) (pa_cons (pe_glob (v := .ref a.C_Straight) rfl T.g_Straight rfl) pa_nil))))) (pw_or1 (pt_cmpR (op_neD hr.units) (pe_tup (pa_cons (pe_fld (pv 0) rfl) (pa_cons (pe_fld (pv 0) rfl) (pa_cons (pe_fld (pv 0) rfl) pa_nil)))) (pv 1) (nomark _))))) (pss_one (ps_ret pe_bl)) pss_nil)
      (pss_one (ps_ret (pe_cmpR op_eq (pe_callI (pv 0) T.c_Straight_call (ok_Straight_call T) (hr.mono (by decide)) T.b_Straight_call pass0S (pa_cons (pv 2) (pa_cons (pv 3) pa_nil))) (pe_op op_add (pe_op op_add (pe_op op_mulW (pe_ix ix_tup (pv 1) pe_int (fun _ _ => rfl)) (pv 2)) (pe_op op_mulW (pe_ix ix_tup (pv 1) pe_int (fun _ _ => rfl)) (pv 3))) (pe_ix ix_tup (pv 1) pe_int (fun _ _ => rfl))) (nomark _))))), ?_⟩
    walk_at "g"
    refine ⟨_, _, _, _, true, rfl, .own _, ty_S T hp, T.ki_S_S, ?_⟩
    walk_at "g"
    refine G.newT (by simp) fun q H2 _ s2 hq => ?_
    walk_at "g"
    refine G.neD (k := true) (dp3 hq) (dp3 (by walk_at "hp")) (shaped3 ..) (shaped3 ..) (by rw [eqv3]; simp) ?_
    walk_at "g"
    have hp2 := s2 _ _ hp
    refine ⟨⟨dx, _, hp2⟩, p, i, n, o, x, y, rfl, ⟨dx, hp2⟩, hi', hn', hx', hy', ?_⟩
    walk_at "g"
    have ht2 := s2 _ _ ht
    refine G.ixT ht2 (rfl : atI _ 0 = some (.int i)) ?_
    walk_at "g"
    refine G.ixT ht2 (rfl : atI _ 1 = some (.int n)) ?_
    walk_at "g"
    refine G.ixT ht2 (rfl : atI _ 2 = some (.int o)) ?_
    walk_at "g"
    rw [decide_eq_true rfl]
    exact k H2 s2
def spRefused : Sp := fun vs H Q _ => ∃ (m r : Int), vs = [.int m, .int r] ∧
  ((m < 2 ∨ 4 < m) → ∀ q H', Same H H' → H' q = some (.tup [.str "modulus", .int m]) → Q (.ref q) H') ∧
  ((2 ≤ m ∧ m ≤ 4 ∧ (r < 0 ∨ m ≤ r)) → ∀ q H', Same H H' → H' q = some (.tup [.str "rest", .int r]) → Q (.ref q) H') ∧
  ((2 ≤ m ∧ m ≤ 4 ∧ 0 ≤ r ∧ r < m) → ∀ H', Same H H' → Q .non H')
theorem ok_refused_rest (T : Txt P K mg a) : FnOk P w K mg base CX0 6 a.a_refused_rest a.d_refused_rest ["_law_modulus", "_law_rest"] spRefused := by
  refine T.F_refused_rest.ok sc_refused_rest (fun vs H Q E h => ?_) (fun cdv A outer s H vs Q E hr h => ?_)
  · obtain ⟨m, r, rfl, _⟩ := h
    rfl
  · obtain ⟨m, r, rfl, k1, k2, k3⟩ := h
    refine ⟨_, (pss_cons (ps_set (i := 2) sc_refused_rest.nd rfl (Or.inl rfl) pe_non)
      (pss_cons (ps_try_as (i := 3)  rfl rfl sc_refused_rest.nd rfl rfl ⟨rfl, by decide, Or.inl T.g_BadNumber⟩ takes0
      (fun W pn xe tk _ => (pss_one (ps_expr (pe_makeS T.mk_Rest (ok_Rest_init T) (hr.mono (by decide)) rfl T.g_Rest T.b_Rest_init (fun σ => passAt tk σ) (pa_cons (pe_makeS T.mk_Straight (ok_Straight_init T) (hr.mono (by decide)) rfl T.g_Straight T.b_Straight_init pass0S (pa_cons pe_int (pa_cons pe_int (pa_cons pe_int pa_nil)))) (pa_cons (pv 0) (pa_cons (pv 1) pa_nil)))))))
      (fun ea oe cls dd pn hz hf => (pss_one (ps_set (i := 2) sc_refused_rest.nd rfl (Or.inl rfl) (pe_tup (pa_cons (pe_xf T.x_BadNumber (T.e_BadNumber.noF _ (by decide)) hz hf (pv 3)) (pa_cons (pe_xf T.x_BadNumber (T.e_BadNumber.noF _ (by decide)) hz hf (pv 3)) pa_nil)))))))
      (pss_one (ps_ret (pv 2))))), ?_⟩
    walk_at "g"
    refine mkS fun p dx H1 _ s1 hp => ?_
    walk_at "g"
    refine mkR (.inl ⟨p, rfl, dx, hp⟩) (fun hb e H2 s2 he => ?_) (fun hb e H2 s2 he => ?_) (fun hb p' dx' st dy H2 s2 _ _ => ?_)
    · refine ⟨true, T.te_BadNumber, fun _ ea _ => ?_, fun z => Bool.noConfusion z⟩
      walk_at "g"
      refine G.newT (by simp) fun q H3 _ s3 hq => ?_
      walk_at "g"
      exact k1 hb q H3 ((s1.trans s2).trans s3) hq
    · refine ⟨true, T.te_BadNumber, fun _ ea _ => ?_, fun z => Bool.noConfusion z⟩
      walk_at "g"
      refine G.newT (by simp) fun q H3 _ s3 hq => ?_
      walk_at "g"
      exact k2 hb q H3 ((s1.trans s2).trans s3) hq
    · walk_at "g"
      exact k3 hb H2 (s1.trans s2)
end
end Lw
local macro_rules | `(tactic| walk_at "hp") => `(tactic| first
  | assumption
  | exact L2.upd_same
  | (refine G.sget (by assumption) ?_; walk_at "hp")
  | (refine G.kget (by assumption) ?_ ?_; (· walk_at "hp"); (· intro _ h; cases h)))
local macro_rules | `(tactic| walk_at "s") => `(tactic| first
  | (with_reducible refine G.seq ?_)
  | (with_reducible refine G.nx ?_)
  | (with_reducible refine G.rt ?_)
  | (with_reducible refine G.next ?_)
  | (with_reducible refine G.asg ?_)
  | (with_reducible refine G.asgG ?_)
  | ((with_reducible refine' G.gtup ?h ?l ?q); (case h => walk_at "hp"); (case l => rfl))
  | (with_reducible refine G.gcons ?_)
  | (with_reducible refine G.gnil ?_)
  | (with_reducible refine G.gname ?_)
  | (with_reducible refine G.inst ?_)
  | (with_reducible refine G.refV ?_)
  | (with_reducible refine G.xf ?_)
  | ((with_reducible refine' G.xfV ?h ?l ?q); (case h => walk_at "hp"); (case l => walk_at "xk"))
  | (with_reducible refine G.ret ?_)
  | (with_reducible refine G.ifS ?_)
  | (with_reducible refine G.drop ?_)
  | ((with_reducible refine' G.var ?h ?q); (case h => rfl))
  | (with_reducible refine G.cst ?_)
  | (with_reducible refine G.op ?_)
  | (with_reducible refine G.un ?_)
  | (with_reducible refine G.I0 ?_)
  | (with_reducible refine G.U1 ?_)
  | ((with_reducible refine G.fdiv ?_ ?_ ?_); (· omega); (· omega))
  | ((with_reducible refine G.md ?_ ?_); (· omega))
  | ((with_reducible refine G.mulL ?_ ?_ ?_); (· omega); (· omega))
  | ((with_reducible refine G.mulR ?_ ?_ ?_); (· omega); (· omega))
  | ((with_reducible refine G.mulW ?_ ?_ ?_ ?_ ?_); (· omega); (· omega); (· omega); (· omega))
  | (with_reducible refine G.pow18 ?_)
  | (with_reducible refine G.pow6 ?_)
  | (with_reducible refine G.pow30 ?_)
  | (with_reducible refine G.pow29 ?_)
  | (with_reducible refine G.pow3 ?_)
  | (with_reducible refine G.eqI ?_)
  | (with_reducible refine G.neI ?_)
  | ((with_reducible refine G.eq ?_ ?_); (· rfl))
  | ((with_reducible refine G.ne ?_ ?_); (· rfl))
  | (with_reducible refine G.isN ?_)
  | (with_reducible refine G.notN ?_)
  | (with_reducible refine G.test ?_)
  | (with_reducible refine G.tBv ?_)
  | (with_reducible refine G.bl ?_)
  | (with_reducible refine G.and ?_)
  | (with_reducible refine G.or ?_)
  | (with_reducible refine G.not ?_)
  | (with_reducible refine G.andV ?_)
  | (with_reducible refine G.orV ?_)
  | (with_reducible refine G.notV ?_)
  | (with_reducible refine G.ifE ?_)
  | (with_reducible refine G.nil ?_)
  | (with_reducible refine G.cons ?_)
  | (with_reducible refine G.tup ?_)
  | (with_reducible refine G.lst ?_)
  | (with_reducible refine G.fld ?_)
  | (with_reducible refine G.call ?_)
  | (with_reducible refine G.cb ?_)
  | (with_reducible refine G.make ?_)
  | (with_reducible refine G.dget ?_)
  | (with_reducible refine G.dput ?_)
  | (with_reducible refine G.fldS ?_)
  | (with_reducible refine G.abs ?_)
  | (with_reducible refine G.max2 ?_)
  | (with_reducible refine G.min2 ?_)
  | (with_reducible refine G.int1 ?_)
  | (with_reducible refine G.own ?_)
  | (with_reducible refine G.ownR ?_)
  | (with_reducible refine G.meth ?_)
  | (with_reducible refine G.par ?_)
  | (with_reducible refine G.par3 ?_)
  | (with_reducible refine G.parV ?_)
  | (with_reducible refine G.parV3 ?_)
  | (with_reducible refine G.forR ?_)
  | (with_reducible refine G.forZ ?_)
  | (with_reducible refine G.forT ?_)
  | (with_reducible refine G.forL ?_)
  | (with_reducible refine G.methU ?_)
  | (with_reducible refine G.sl ?_)
  | (with_reducible refine G.noPart ?_)
  | (with_reducible refine G.part ?_)
  | (with_reducible refine G.partV ?_)
  | (with_reducible refine G.raiseE ?_)
  | (with_reducible refine G.iteT' ?_)
  | (with_reducible refine G.iteNT ?_)
  | (with_reducible refine G.iteNF ?_)
  | (with_reducible refine G.iteF' ?_)
  | ((with_reducible refine' G.dgetS ?h ?l ?q); (case h => walk_at "hp"); (case l => walk_at "dk"))
  | ((with_reducible refine' G.lenL ?h ?q); (case h => walk_at "hp"))
  | ((with_reducible refine' G.lenT ?h ?q); (case h => walk_at "hp"))
  | ((with_reducible refine' G.fldV ?h ?c ?n ?l ?q); (case h => walk_at "hp"); (case c => walk_at "cls"); (case n => walk_at "na"); (case l => walk_at "lk"))
  | ((with_reducible refine' G.fldSV ?h ?c ?n ?l ?q); (case h => walk_at "hp"); (case c => walk_at "cls"); (case n => walk_at "na"); (case l => walk_at "ln")))
local macro_rules | `(tactic| walk_at "g") => `(tactic| repeat (walk_at "s"))
namespace Lw
open PySem L2
local macro_rules | `(tactic| walk_at "cls") => `(tactic| first | exact Lw.Txt.cl_Straight (by assumption) | exact Lw.Txt.cl_AtLeast (by assumption) | exact Lw.Txt.cl_Rest (by assumption))
local macro_rules | `(tactic| walk_at "na") => `(tactic| first | exact Lw.Txt.na_Straight_i (by assumption) | exact Lw.Txt.na_Straight_n (by assumption) | exact Lw.Txt.na_Straight_one (by assumption) | exact Lw.Txt.na_AtLeast_straight (by assumption) | exact Lw.Txt.na_Rest_straight (by assumption) | exact Lw.Txt.na_Rest_modulus (by assumption) | exact Lw.Txt.na_Rest_rest (by assumption))
local macro_rules | `(tactic| walk_at "lk") => `(tactic| first | exact Lw.fStraight_i _ _ _ | exact Lw.fStraight_n _ _ _ | exact Lw.fStraight_one _ _ _ | exact Lw.fAtLeast_straight _ | exact Lw.fRest_straight _ _ _ | exact Lw.fRest_modulus _ _ _ | exact Lw.fRest_rest _ _ _)
local macro_rules | `(tactic| walk_at "ln") => `(tactic| first | (show 0 < 1000; decide) | (show 1 < 1000; decide) | (show 2 < 1000; decide) | (show 3 < 1000; decide) | (show 4 < 1000; decide))
theorem iteC {c : Prop} [Decidable c] {x y : Int} {σ : L2.St} {H : Hp} {Q : VK} (q : Q (.int (if c then x else y)) H) : if decide c = true then tC (.int x) σ H Q else tC (.int y) σ H Q := by
  by_cases h : c
  · rw [if_pos h] at q; rw [if_pos (decide_eq_true h)]; exact q
  · rw [if_neg h] at q; rw [if_neg (by simp [h])]; exact q
theorem shaped6 (x y z u v t : Int) : SeqAt.shaped (.tuple [.int x, .int y, .int z, .int u, .int v, .int t]) = true := by rfl
theorem eqv6 (x y z u v t : Int) : PyData.eqv (.tuple [.int x, .int y, .int z, .int u, .int v, .int t]) (.tuple [.int x, .int y, .int z, .int u, .int v, .int t]) = true := by
  simp [PyData.eqv, PyData.eqvAll]
theorem dp6 {K : PySem.W.Frag} {H : Hp} {p : Addr} {x y z u v t : Int} (h : H p = some (.tup [.int x, .int y, .int z, .int u, .int v, .int t])) : Dp K H (.ref p) (.tuple [.int x, .int y, .int z, .int u, .int v, .int t]) := G.dpT h (G.dpInts [x, y, z, u, v, t])
theorem bb_mul {x k : Int} (hx : B30 x) (hk : -99 ≤ k ∧ k ≤ 99) : BB (k * x) := by
  obtain ⟨h1, h2⟩ := hx
  obtain ⟨h3, h4⟩ := hk
  have a1 : (k + 99) * (x + 1000000000000000000000000000000) ≥ 0 := Int.mul_nonneg (by omega) (by omega)
  have a2 : (k + 99) * (1000000000000000000000000000000 - x) ≥ 0 := Int.mul_nonneg (by omega) (by omega)
  have a3 : (99 - k) * (x + 1000000000000000000000000000000) ≥ 0 := Int.mul_nonneg (by omega) (by omega)
  have a4 : (99 - k) * (1000000000000000000000000000000 - x) ≥ 0 := Int.mul_nonneg (by omega) (by omega)
  rw [Int.add_mul, Int.mul_add, Int.mul_add] at a1
  rw [Int.add_mul, Int.mul_sub, Int.mul_sub] at a2
  rw [Int.sub_mul, Int.mul_add, Int.mul_add] at a3
  rw [Int.sub_mul, Int.mul_sub, Int.mul_sub] at a4
  constructor <;> omega
def spRight : Sp := fun vs H Q _ => ∃ (p : Addr) (m : Int), vs = [.ref p] ∧ Pen H p m ∧ m ≤ 900000000 ∧ ∀ H', G.Kp H H' → Pen H' p (m + 20000) → Q (.bl true) H'
section
variable {P : Program} {w : World} {K : PySem.W.Frag} {mg : Str → Option Value} {base : Heap} {a : Ad}
theorem ok_pair_right (T : Txt P K mg a) : FnOk P w K mg base CX0 5 a.a_pair_right a.d_pair_right ["_law_pen_here"] spRight := by
  refine T.F_pair_right.ok sc_pair_right (fun vs H Q E h => ?_) (fun cdv A outer s H vs Q E hr h => ?_)
  · obtain ⟨p, m, rfl, _⟩ := h
    rfl
  · obtain ⟨p, m, rfl, pe, hm, k⟩ := h
    refine ⟨_, (pss_cons (ps_asg (pe_callS (ok_three T) (hr.mono (by decide)) rfl T.g_three T.F_three.kp T.b_three pass0S (pa_cons (pv 0) pa_nil)) (pg_tup (by rfl) (pgs_cons (pg_name (i := 1) sc_pair_right.nd rfl (Or.inl rfl)) (pgs_cons (pg_name (i := 2) sc_pair_right.nd rfl (Or.inl rfl)) (pgs_cons (pg_name (i := 3) sc_pair_right.nd rfl (Or.inl rfl)) pgs_nil)))))
      (pss_cons (ps_asg (pe_callS (ok_three T) (hr.mono (by decide)) rfl T.g_three T.F_three.kp T.b_three pass0S (pa_cons (pv 0) pa_nil)) (pg_tup (by rfl) (pgs_cons (pg_name (i := 4) sc_pair_right.nd rfl (Or.inl rfl)) (pgs_cons (pg_name (i := 5) sc_pair_right.nd rfl (Or.inl rfl)) (pgs_cons (pg_name (i := 6) sc_pair_right.nd rfl (Or.inl rfl)) pgs_nil)))))
      (pss_cons (ps_par (i := 7) (j := 8) (by rfl) sc_pair_right.nd rfl rfl (by decide) rfl rfl (pa_cons (pe_makeS T.mk_Straight (ok_Straight_init T) (hr.mono (by decide)) rfl T.g_Straight T.b_Straight_init pass0S (pa_cons (pv 1) (pa_cons (pv 2) (pa_cons (pv 3) pa_nil)))) (pa_cons (pe_makeS T.mk_Straight (ok_Straight_init T) (hr.mono (by decide)) rfl T.g_Straight T.b_Straight_init pass0S (pa_cons (pv 4) (pa_cons (pv 5) (pa_cons (pv 6) pa_nil)))) pa_nil)) (by rfl))
      (pss_cons (ps_par3 (i := 9) (j := 10) (l := 11) (by rfl) sc_pair_right.nd rfl rfl rfl (by decide) (by decide) (by decide) rfl rfl rfl (pa_cons (pe_callS (ok_between T) (hr.mono (by decide)) rfl T.g_between T.F_between.kp T.b_between pass0S (pa_cons (pv 0) (pa_cons (pe_un un_neg pe_int) (pa_cons pe_int pa_nil)))) (pa_cons (pe_callS (ok_far T) (hr.mono (by decide)) rfl T.g_far T.F_far.kp T.b_far pass0S (pa_cons (pv 0) pa_nil)) (pa_cons (pe_callS (ok_far T) (hr.mono (by decide)) rfl T.g_far T.F_far.kp T.b_far pass0S (pa_cons (pv 0) pa_nil)) pa_nil))) (by rfl))
      (pss_cons (ps_set (i := 12) sc_pair_right.nd rfl (Or.inl rfl) (pe_lst (pa_cons (pe_own T.o_Straight_add (ok_Straight_add T) (hr.mono (by decide)) T.b_Straight_add pass0S (pv 7) (pv 8)) (pa_cons (pe_own T.o_Straight_sub (ok_Straight_sub T) (hr.mono (by decide)) T.b_Straight_sub pass0S (pv 7) (pv 8)) (pa_cons (pe_own T.o_Straight_add (ok_Straight_add T) (hr.mono (by decide)) T.b_Straight_add pass0S (pv 7) (pv 9)) (pa_cons (pe_ownR declines_add T.o_Straight_radd (ok_Straight_radd T) (hr.mono (by decide)) T.b_Straight_radd pass0S (pv 9) (pv 7)) (pa_cons (pe_own T.o_Straight_sub (ok_Straight_sub T) (hr.mono (by decide)) T.b_Straight_sub pass0S (pv 7) (pv 9)) (pa_cons (pe_ownR declines_sub T.o_Straight_rsub (ok_Straight_rsub T) (hr.mono (by decide)) T.b_Straight_rsub pass0S (pv 9) (pv 7)) (pa_cons (pe_own T.o_Straight_mul (ok_Straight_mul T) (hr.mono (by decide)) T.b_Straight_mul pass0S (pv 7) (pv 9)) (pa_cons (pe_ownR declines_mul T.o_Straight_rmul (ok_Straight_rmul T) (hr.mono (by decide)) T.b_Straight_rmul pass0S (pv 9) (pv 7)) (pa_cons (pe_negO T.at_Straight_neg T.i_Straight_neg (ok_Straight_neg T) (hr.mono (by decide)) T.b_Straight_neg pass0S (pv 7)) (pa_cons (pe_own T.o_Straight_add (ok_Straight_add T) (hr.mono (by decide)) T.b_Straight_add pass0S (pv 7) pe_int) pa_nil))))))))))))
      (pss_cons (ps_set (i := 13) sc_pair_right.nd rfl (Or.inl rfl) (pe_lst (pa_cons (pe_tup (pa_cons (pe_op op_add (pv 1) (pv 4)) (pa_cons (pe_op op_add (pv 2) (pv 5)) (pa_cons (pe_op op_add (pv 3) (pv 6)) pa_nil)))) (pa_cons (pe_tup (pa_cons (pe_op op_sub (pv 1) (pv 4)) (pa_cons (pe_op op_sub (pv 2) (pv 5)) (pa_cons (pe_op op_sub (pv 3) (pv 6)) pa_nil)))) (pa_cons (pe_tup (pa_cons (pv 1) (pa_cons (pv 2) (pa_cons (pe_op op_add (pv 3) (pv 9)) pa_nil)))) (pa_cons (pe_tup (pa_cons (pv 1) (pa_cons (pv 2) (pa_cons (pe_op op_add (pv 9) (pv 3)) pa_nil)))) (pa_cons (pe_tup (pa_cons (pv 1) (pa_cons (pv 2) (pa_cons (pe_op op_sub (pv 3) (pv 9)) pa_nil)))) (pa_cons (pe_tup (pa_cons (pe_un un_neg (pv 1)) (pa_cons (pe_un un_neg (pv 2)) (pa_cons (pe_op op_sub (pv 9) (pv 3)) pa_nil)))) (pa_cons (pe_tup (pa_cons (pe_op op_mul (pv 1) (pv 9)) (pa_cons (pe_op op_mul (pv 2) (pv 9)) (pa_cons (pe_op op_mul (pv 3) (pv 9)) pa_nil)))) (pa_cons (pe_tup (pa_cons (pe_op op_mul (pv 1) (pv 9)) (pa_cons (pe_op op_mul (pv 2) (pv 9)) (pa_cons (pe_op op_mul (pv 3) (pv 9)) pa_nil)))) (pa_cons (pe_tup (pa_cons (pe_un un_neg (pv 1)) (pa_cons (pe_un un_neg (pv 2)) (pa_cons (pe_un un_neg (pv 3)) pa_nil)))) (pa_cons (pe_tup (pa_cons (pv 1) (pa_cons (pv 2) (pa_cons (pv 3) pa_nil)))) pa_nil))))))))))))
      (pss_cons (ps_for PassesOwn.never rfl (pi_zip (by rfl) T.n_zip (pa_cons (pv 12) (pa_cons (pv 13) pa_nil))) (pg_tup rfl (pgs_cons (pg_name (i := 14) sc_pair_right.nd rfl (Or.inl rfl)) (pgs_cons (pg_name (i := 15) sc_pair_right.nd rfl (Or.inl rfl)) pgs_nil)))
      (pss_one (ps_if (pt_not (pt_val (pe_callS (ok_is_sum T) (hr.mono (by decide)) rfl T.g_is_sum T.F_is_sum.kp T.b_is_sum pass0S (pa_cons (pv 14) (pa_cons (pv 15) (pa_cons (pv 10) (pa_cons (pv 11) pa_nil))))))) (pss_one (ps_ret pe_bl)) pss_nil)))
      (pss_cons (ps_set (i := 16) sc_pair_right.nd rfl (Or.inl rfl) (pe_callS (ok_draw T) (hr.mono (by decide)) rfl T.g_draw T.F_draw.kp T.b_draw pass0S (pa_cons (pv 0) (pa_cons pe_int pa_nil))))
      (pss_cons (ps_set (i := 17) sc_pair_right.nd rfl (Or.inl rfl) (pe_makeS T.mk_Straight (ok_Straight_init T) (hr.mono (by decide)) rfl T.g_Straight T.b_Straight_init pass0S (pa_cons (pe_op op_add (pv 1) (pe_ifExp (pt_cmpR op_eq (pv 16) pe_int (nomark _)) pe_int pe_int)) (pa_cons (pe_op op_add (pv 2) (pe_ifExp (pt_cmpR op_eq (pv 16) pe_int (nomark _)) pe_int pe_int)) (pa_cons (pe_op op_add (pv 3) (pe_ifExp (pt_cmpR op_eq (pv 16) pe_int (nomark _)) pe_int pe_int)) pa_nil)))))
      (pss_cons (ps_if (PW.pt (pw_or (pt_cmpR op_ne (pe_cmpR (op_eqO T.at_Straight_eq T.i_Straight_eq (ok_Straight_eq T) (hr.mono (by decide)) T.b_Straight_eq pass0S) (pv 17) (pv 7) (nomark _)) (pe_cmpR op_eq (pv 16) pe_int (nomark _)) (nomark _)) (pw_or1 (pt_cmpR op_ne (pe_cmpR (op_eqO T.at_Straight_eq T.i_Straight_eq (ok_Straight_eq T) (hr.mono (by decide)) T.b_Straight_eq pass0S) (pv 7) (pv 8) (nomark _)) (pe_cmpR (op_eqD hr.units) (pe_tup (pa_cons (pv 1) (pa_cons (pv 2) (pa_cons (pv 3) pa_nil)))) (pe_tup (pa_cons (pv 4) (pa_cons (pv 5) (pa_cons (pv 6) pa_nil)))) (nomark _)) (nomark _))))) (pss_one (ps_ret pe_bl)) pss_nil)
      (pss_cons (ps_if (PW.pt (pw_or (pt_cmpR (op_eqO T.at_Straight_eq T.i_Straight_eq (ok_Straight_eq T) (hr.mono (by decide)) T.b_Straight_eq pass0S) (pe_makeS T.mk_Straight (ok_Straight_init T) (hr.mono (by decide)) rfl T.g_Straight T.b_Straight_init pass0S (pa_cons pe_int (pa_cons pe_int (pa_cons (pv 9) pa_nil)))) (pv 9) (nomark _)) (pw_or (pt_cmpR (op_eqO T.at_Straight_eq T.i_Straight_eq (ok_Straight_eq T) (hr.mono (by decide)) T.b_Straight_eq pass0S) (pv 7) (pe_tup (pa_cons (pv 1) (pa_cons (pv 2) (pa_cons (pv 3) pa_nil)))) (nomark _)) (pw_or (pt_cmpR (op_eqO T.at_Straight_eq T.i_Straight_eq (ok_Straight_eq T) (hr.mono (by decide)) T.b_Straight_eq pass0S) (pv 7) pe_str (nomark _)) (pw_or1 (pt_not (pt_cmpR (op_neO T.ne_Straight T.mo_Straight T.at_Straight_eq T.i_Straight_eq (ok_Straight_eq T) (hr.mono (by decide)) T.b_Straight_eq pass0S) (pe_makeS T.mk_Straight (ok_Straight_init T) (hr.mono (by decide)) rfl T.g_Straight T.b_Straight_init pass0S (pa_cons pe_int (pa_cons pe_int (pa_cons (pv 9) pa_nil)))) (pv 9) (nomark _)))))))) (pss_one (ps_ret pe_bl)) pss_nil)
      (pss_cons (ps_par (i := 18) (j := 19) (by rfl) sc_pair_right.nd rfl rfl (by decide) rfl rfl (pa_cons (pe_op op_sub (pe_callS (ok_draw T) (hr.mono (by decide)) rfl T.g_draw T.F_draw.kp T.b_draw pass0S (pa_cons (pv 0) (pa_cons pe_int pa_nil))) pe_int) (pa_cons (pe_callS (ok_between T) (hr.mono (by decide)) rfl T.g_between T.F_between.kp T.b_between pass0S (pa_cons (pv 0) (pa_cons (pe_un un_neg pe_int) (pa_cons pe_int pa_nil)))) pa_nil)) (by rfl))
      (pss_cons (ps_if (pt_not (pt_val (pe_callS (ok_is_sum T) (hr.mono (by decide)) rfl T.g_is_sum T.F_is_sum.kp T.b_is_sum pass0S (pa_cons (pe_methZ (pv 7) T.cl_Straight T.m_Straight_replaced (ok_Straight_replaced T) (hr.mono (by decide)) T.b_Straight_replaced pass0S (pa_cons (pv 18) (pa_cons (pv 19) pa_nil))) (pa_cons (pe_tup (pa_cons (pe_op op_mul (pv 1) (pv 18)) (pa_cons (pv 2) (pa_cons (pe_op op_add (pe_op op_mul (pv 1) (pv 19)) (pv 3)) pa_nil)))) (pa_cons (pv 10) (pa_cons (pv 11) pa_nil))))))) (pss_one (ps_ret pe_bl)) pss_nil)
      (pss_one (ps_ret (pe_cmpR (op_eqD hr.units) (pe_tup (pa_cons (pe_fld (pv 7) rfl) (pa_cons (pe_fld (pv 7) rfl) (pa_cons (pe_fld (pv 7) rfl) (pa_cons (pe_fld (pv 8) rfl) (pa_cons (pe_fld (pv 8) rfl) (pa_cons (pe_fld (pv 8) rfl) pa_nil))))))) (pe_tup (pa_cons (pv 1) (pa_cons (pv 2) (pa_cons (pv 3) (pa_cons (pv 4) (pa_cons (pv 5) (pa_cons (pv 6) pa_nil))))))) (nomark _))))))))))))))))), ?_⟩
    walk_at "g"
    refine ⟨p, m, rfl, pe, by omega, fun q1 ca cb cc H1 k1 pe1 hq1 ha hb' hc => ?_⟩
    walk_at "g"
    refine ⟨p, m + 7000, rfl, pe1, by omega, fun q2 cx cy cz H2 k2 pe2 hq2 hx hy hz => ?_⟩
    walk_at "g"
    refine mkS fun one d1 H3 _ s3 h1 => ?_
    walk_at "g"
    refine mkS fun oth d2 H4 _ s4 h2 => ?_
    walk_at "g"
    refine ⟨p, -99, 99, m + 14000, rfl, ((pe2.same s3).same s4).mono (by omega), by omega, by omega, by omega, fun ck H5 k5 pe5 c1 c2 => ?_⟩
    walk_at "g"
    refine ⟨p, m + 14002, rfl, pe5.mono (by omega), by omega, fun ci H6 k6 pe6 i1 i2 => ?_⟩
    walk_at "g"
    refine ⟨p, m + 16002, rfl, pe6.mono (by omega), by omega, fun cn H7 k7 pe7 n1 n2 => ?_⟩
    have h17 : H7 one = some (.ins a.C_Straight d1 (fStraight (.int ca) (.int cb) (.int cc))) := by walk_at "hp"
    have h27 : H7 oth = some (.ins a.C_Straight d2 (fStraight (.int cx) (.int cy) (.int cz))) := by walk_at "hp"
    have K7 : G.Kp H H7 := ((((((k1.trans k2).then s3).then s4).trans k5).trans k6).trans k7)
    clear pe pe1 pe2 pe5 pe6 hq1 hq2 k1 k2 s3 s4 k5 k6 k7 h1 h2
    walk_at "g"
    refine ⟨one, d1, _, rfl, h17, .inl ⟨oth, d2, _, rfl, h27⟩, one, _, _, _, .ref oth, _, _, _, rfl, ⟨d1, h17⟩, .inl ⟨oth, rfl, d2, h27⟩, fun r0 K0 s0 ⟨e0, z0⟩ => ?_⟩
    have h1 := s0 _ _ h17
    have h2 := s0 _ _ h27
    walk_at "g"
    refine ⟨one, d1, _, rfl, h1, .inl ⟨oth, d2, _, rfl, h2⟩, one, _, _, _, .ref oth, _, _, _, rfl, ⟨d1, h1⟩, .inl ⟨oth, rfl, d2, h2⟩, fun r1 K1 s1 ⟨e1, z1⟩ => ?_⟩
    replace h1 := s1 _ _ h1
    walk_at "g"
    refine ⟨one, d1, _, rfl, h1, .inr ⟨ck, rfl⟩, one, _, _, _, .int ck, _, _, _, rfl, ⟨d1, h1⟩, .inr ⟨rfl, rfl, rfl⟩, fun r2 K2 s2 ⟨e2, z2⟩ => ?_⟩
    replace h1 := s2 _ _ h1
    walk_at "g"
    refine ⟨one, d1, _, ck, rfl, h1, rfl, one, _, _, _, ck, rfl, ⟨d1, h1⟩, fun r3 K3 s3 ⟨e3, z3⟩ => ?_⟩
    replace h1 := s3 _ _ h1
    walk_at "g"
    refine ⟨one, d1, _, rfl, h1, .inr ⟨ck, rfl⟩, one, _, _, _, .int ck, _, _, _, rfl, ⟨d1, h1⟩, .inr ⟨rfl, rfl, rfl⟩, fun r4 K4 s4 ⟨e4, z4⟩ => ?_⟩
    replace h1 := s4 _ _ h1
    walk_at "g"
    refine ⟨one, d1, _, ck, rfl, h1, rfl, one, _, _, _, ck, rfl, ⟨d1, h1⟩, fun r5 K5 s5 ⟨e5, z5⟩ => ?_⟩
    replace h1 := s5 _ _ h1
    walk_at "g"
    refine ⟨one, d1, _, rfl, h1, .inr ⟨ck, rfl⟩, one, _, _, _, ck, rfl, ⟨d1, h1⟩, ⟨by omega, by omega⟩, fun r6 K6 s6 ⟨e6, z6⟩ => ?_⟩
    replace h1 := s6 _ _ h1
    walk_at "g"
    refine ⟨one, d1, _, ck, rfl, h1, rfl, one, _, _, _, ck, rfl, ⟨d1, h1⟩, ⟨by omega, by omega⟩, fun r7 K7' s7 ⟨e7, z7⟩ => ?_⟩
    replace h1 := s7 _ _ h1
    walk_at "g"
    refine ⟨_, rfl, one, d1, _, rfl, h1, one, _, _, _, rfl, ⟨d1, h1⟩, fun r8 K8 s8 ⟨e8, z8⟩ => ?_⟩
    replace h1 := s8 _ _ h1
    walk_at "g"
    refine ⟨one, d1, _, rfl, h1, .inr ⟨0, rfl⟩, one, _, _, _, .int 0, _, _, _, rfl, ⟨d1, h1⟩, .inr ⟨rfl, rfl, rfl⟩, fun r9 K9 s9 ⟨e9, z9⟩ => ?_⟩
    replace h1 := s9 _ _ h1
    walk_at "g"
    refine G.newL (by simp) fun fl J0 _ u hfl => ?_
    have Z0 : IsS a J0 r0 (ca + cx) (cb + cy) (cc + cz) := ⟨e0, by walk_at "hp"⟩
    have Z1 : IsS a J0 r1 (ca - cx) (cb - cy) (cc - cz) := ⟨e1, by walk_at "hp"⟩
    have Z2 : IsS a J0 r2 (ca + 0) (cb + 0) (cc + ck) := ⟨e2, by walk_at "hp"⟩
    have Z3 : IsS a J0 r3 ca cb (ck + cc) := ⟨e3, by walk_at "hp"⟩
    have Z4 : IsS a J0 r4 (ca - 0) (cb - 0) (cc - ck) := ⟨e4, by walk_at "hp"⟩
    have Z5 : IsS a J0 r5 (-ca) (-cb) (ck - cc) := ⟨e5, by walk_at "hp"⟩
    have Z6 : IsS a J0 r6 (ck * ca) (ck * cb) (ck * cc) := ⟨e6, by walk_at "hp"⟩
    have Z7 : IsS a J0 r7 (ck * ca) (ck * cb) (ck * cc) := ⟨e7, by walk_at "hp"⟩
    have Z8 : IsS a J0 r8 (-ca) (-cb) (-cc) := ⟨e8, by walk_at "hp"⟩
    have Z9 : IsS a J0 r9 (ca + 0) (cb + 0) (cc + 0) := ⟨e9, by walk_at "hp"⟩
    have S0 : Same H7 J0 := (((((((((s0.trans s1).trans s2).trans s3).trans s4).trans s5).trans s6).trans s7).trans s8).trans s9).trans u
    rw [Int.add_zero, Int.add_zero] at Z2
    rw [Int.sub_zero, Int.sub_zero] at Z4
    rw [Int.add_zero, Int.add_zero, Int.add_zero] at Z9
    rw [Int.mul_comm ck, Int.mul_comm ck, Int.mul_comm ck] at Z6 Z7
    clear z0 z1 z2 z3 z4 z5 z6 z7 z8 z9 s0 s1 s2 s3 s4 s5 s6 s7 s8 s9 u h1 h2
    have h1 := S0 _ _ h17
    have h2 := S0 _ _ h27
    have pe := pe7.same S0
    have K0 := K7.then S0
    clear h17 h27 S0 K7 pe7
    walk_at "g"
    refine G.newT (by simp) fun t0 J1 _ u0 y0 => ?_
    walk_at "g"
    refine G.newT (by simp) fun t1 J2 _ u1 y1 => ?_
    walk_at "g"
    refine G.newT (by simp) fun t2 J3 _ u2 y2 => ?_
    walk_at "g"
    refine G.newT (by simp) fun t3 J4 _ u3 y3 => ?_
    walk_at "g"
    refine G.newT (by simp) fun t4 J5 _ u4 y4 => ?_
    walk_at "g"
    refine G.newT (by simp) fun t5 J6 _ u5 y5 => ?_
    walk_at "g"
    refine G.newT (by simp) fun t6 J7 _ u6 y6 => ?_
    walk_at "g"
    refine G.newT (by simp) fun t7 J8 _ u7 y7 => ?_
    walk_at "g"
    refine G.newT (by simp) fun t8 J9 _ u8 y8 => ?_
    walk_at "g"
    refine G.newT (by simp) fun t9 J10 _ u9 y9 => ?_
    walk_at "g"
    refine G.newL (by simp) fun dl J11 _ u10 hdl => ?_
    have Y0 : J11 t0 = some (.tup [.int (ca + cx), .int (cb + cy), .int (cc + cz)]) := by walk_at "hp"
    have Y1 : J11 t1 = some (.tup [.int (ca - cx), .int (cb - cy), .int (cc - cz)]) := by walk_at "hp"
    have Y2 : J11 t2 = some (.tup [.int ca, .int cb, .int (cc + ck)]) := by walk_at "hp"
    have Y3 : J11 t3 = some (.tup [.int ca, .int cb, .int (ck + cc)]) := by walk_at "hp"
    have Y4 : J11 t4 = some (.tup [.int ca, .int cb, .int (cc - ck)]) := by walk_at "hp"
    have Y5 : J11 t5 = some (.tup [.int (-ca), .int (-cb), .int (ck - cc)]) := by walk_at "hp"
    have Y6 : J11 t6 = some (.tup [.int (ca * ck), .int (cb * ck), .int (cc * ck)]) := by walk_at "hp"
    have Y7 : J11 t7 = some (.tup [.int (ca * ck), .int (cb * ck), .int (cc * ck)]) := by walk_at "hp"
    have Y8 : J11 t8 = some (.tup [.int (-ca), .int (-cb), .int (-cc)]) := by walk_at "hp"
    have Y9 : J11 t9 = some (.tup [.int ca, .int cb, .int cc]) := by walk_at "hp"
    have S1 : Same J0 J11 := (((((((((u0.trans u1).trans u2).trans u3).trans u4).trans u5).trans u6).trans u7).trans u8).trans u9).trans u10
    have isS : ∀ {q x y z}, IsS a J0 q x y z → IsS a J11 q x y z := fun ⟨d, h⟩ => ⟨d, S1 _ _ h⟩
    have m1 := bb_mul ha ⟨c1, c2⟩
    have m2 := bb_mul hb' ⟨c1, c2⟩
    rw [Int.mul_comm] at m1 m2
    have key : ∀ (j : Nat) (x y : V), [V.ref r0, .ref r1, .ref r2, .ref r3, .ref r4, .ref r5, .ref r6, .ref r7, .ref r8, .ref r9][j]? = some x → [V.ref t0, .ref t1, .ref t2, .ref t3, .ref t4, .ref t5, .ref t6, .ref t7, .ref t8, .ref t9][j]? = some y →
        ∃ (q t : Addr) (i n o : Int), x = .ref q ∧ y = .ref t ∧ IsS a J11 q i n o ∧ J11 t = some (.tup [.int i, .int n, .int o]) ∧ BB i ∧ BB n := by
      obtain ⟨b1, b2⟩ := ha
      obtain ⟨b3, b4⟩ := hb'
      obtain ⟨b5, b6⟩ := hx
      obtain ⟨b7, b8⟩ := hy
      intro j x y hx hy
      match j with
      | 0 => cases hx; cases hy; exact ⟨_, _, _, _, _, rfl, rfl, isS Z0, Y0, ⟨by omega, by omega⟩, ⟨by omega, by omega⟩⟩
      | 1 => cases hx; cases hy; exact ⟨_, _, _, _, _, rfl, rfl, isS Z1, Y1, ⟨by omega, by omega⟩, ⟨by omega, by omega⟩⟩
      | 2 => cases hx; cases hy; exact ⟨_, _, _, _, _, rfl, rfl, isS Z2, Y2, ⟨by omega, by omega⟩, ⟨by omega, by omega⟩⟩
      | 3 => cases hx; cases hy; exact ⟨_, _, _, _, _, rfl, rfl, isS Z3, Y3, ⟨by omega, by omega⟩, ⟨by omega, by omega⟩⟩
      | 4 => cases hx; cases hy; exact ⟨_, _, _, _, _, rfl, rfl, isS Z4, Y4, ⟨by omega, by omega⟩, ⟨by omega, by omega⟩⟩
      | 5 => cases hx; cases hy; exact ⟨_, _, _, _, _, rfl, rfl, isS Z5, Y5, ⟨by omega, by omega⟩, ⟨by omega, by omega⟩⟩
      | 6 => cases hx; cases hy; exact ⟨_, _, _, _, _, rfl, rfl, isS Z6, Y6, m1, m2⟩
      | 7 => cases hx; cases hy; exact ⟨_, _, _, _, _, rfl, rfl, isS Z7, Y7, m1, m2⟩
      | 8 => cases hx; cases hy; exact ⟨_, _, _, _, _, rfl, rfl, isS Z8, Y8, ⟨by omega, by omega⟩, ⟨by omega, by omega⟩⟩
      | 9 => cases hx; cases hy; exact ⟨_, _, _, _, _, rfl, rfl, isS Z9, Y9, ⟨by omega, by omega⟩, ⟨by omega, by omega⟩⟩
      | j + 10 => cases hx
    have hfl' := S1 _ _ hfl
    have h1' := S1 _ _ h1
    have h2' := S1 _ _ h2
    have pe' := pe.same S1
    have K1 := K0.then S1
    clear Z0 Z1 Z2 Z3 Z4 Z5 Z6 Z7 Z8 Z9 y0 y1 y2 y3 y4 y5 y6 y7 y8 y9 u0 u1 u2 u3 u4 u5 u6 u7 u8 u9 u10 S1 isS hfl h1 h2 pe K0
    walk_at "g"
    refine G.forZ1 (fun i σ' H' => ∃ v w : Option V, σ' = [some (.ref p), some (.int ca), some (.int cb), some (.int cc), some (.int cx), some (.int cy), some (.int cz), some (.ref one), some (.ref oth), some (.int ck), some (.int ci), some (.int cn), some (.ref fl), some (.ref dl), v, w, none, none, none, none] ∧ Same J11 H') hfl' hdl rfl ⟨none, none, rfl, fun _ _ h => h⟩ (fun i σ' H' ⟨v, w, _, s⟩ => ⟨s _ _ hfl', s _ _ hdl⟩) ?_ ?_
    · rintro i x y tt σ' H' H'' gx gy ⟨v, w, rfl, s⟩ s' ht
      obtain ⟨q, t, i', n', o', rfl, rfl, ⟨dq, hq⟩, ht', bi, bn⟩ := key i x y gx gy
      have hq2 := s' _ _ (s _ _ hq)
      have ht2 := s' _ _ (s _ _ ht')
      walk_at "g"
      refine ⟨q, t, i', n', o', ci, cn, rfl, ⟨dq, hq2⟩, ht2, bi, bn, ⟨by omega, by omega⟩, ⟨by omega, by omega⟩, fun H3 s3 => ?_⟩
      walk_at "g"
      exact ⟨_, _, rfl, (s.trans s').trans s3⟩
    rintro σ' H1 ⟨v, w, rfl, s1⟩
    replace h1 := s1 _ _ h1'
    replace h2 := s1 _ _ h2'
    have pe := pe'.same s1
    have K2 := K1.then s1
    clear key hfl' hdl h1' h2' pe' K1 s1
    walk_at "g"
    refine ⟨p, 4, m + 18002, rfl, pe.mono (by omega), by omega, by omega, by omega, fun r H3 k3 pe3 r1 r2 => ?_⟩
    walk_at "g"
    refine iteC ?_
    walk_at "g"
    refine iteC ?_
    walk_at "g"
    refine iteC ?_
    walk_at "g"
    refine mkS fun nr dn H4 _ s4 hnr => ?_
    have h14 : H4 one = some (.ins a.C_Straight d1 (fStraight (.int ca) (.int cb) (.int cc))) := by walk_at "hp"
    have h24 : H4 oth = some (.ins a.C_Straight d2 (fStraight (.int cx) (.int cy) (.int cz))) := by walk_at "hp"
    walk_at "g"
    refine ⟨nr, dn, _, _, rfl, hnr, ty_S T h14, by simp [PySem.W.notFirst], nr, _, _, _, .ref one, rfl, ⟨dn, hnr⟩, .inl ⟨one, _, _, _, rfl, ⟨d1, h14⟩, ?_⟩⟩
    walk_at "g"
    refine G.iteNY ?_ ?_
    · have hr4 : r = 0 ∨ r = 1 ∨ r = 2 ∨ r = 3 := by omega
      rcases hr4 with rfl | rfl | rfl | rfl
      · simp
      · simp; omega
      · simp; omega
      · simp; omega
    walk_at "g"
    refine ⟨one, d1, _, _, rfl, h14, ty_S T h24, by simp [PySem.W.notFirst], one, _, _, _, .ref oth, rfl, ⟨d1, h14⟩, .inl ⟨oth, _, _, _, rfl, ⟨d2, h24⟩, ?_⟩⟩
    walk_at "g"
    refine G.newT (by simp) fun w1 H5 _ s5 hw1 => ?_
    walk_at "g"
    refine G.newT (by simp) fun w2 H6 _ s6 hw2 => ?_
    refine G.eqD (dp3 (by walk_at "hp")) (dp3 hw2) (shaped3 ..) (shaped3 ..) (eqv3 ..) ?_
    walk_at "g"
    refine G.iteNY rfl ?_
    walk_at "g"
    refine mkS fun a1 b1 H7 _ s7 ha1 => ?_
    walk_at "g"
    refine ⟨a1, b1, _, _, rfl, ha1, .base (.int _), T.nf_S_int, a1, _, _, _, .int ck, rfl, ⟨b1, ha1⟩, .inr ⟨⟨_, .base (.int _), T.ki_int_S⟩, ?_⟩⟩
    walk_at "g"
    refine G.newT (by simp) fun w3 H8 _ s8 hw3 => ?_
    have h18 : H8 one = some (.ins a.C_Straight d1 (fStraight (.int ca) (.int cb) (.int cc))) := by walk_at "hp"
    have h28 : H8 oth = some (.ins a.C_Straight d2 (fStraight (.int cx) (.int cy) (.int cz))) := by walk_at "hp"
    have pe8 := ((((pe3.same s4).same s5).same s6).same s7).same s8
    have K8 : G.Kp H H8 := (((((K2.trans k3).then s4).then s5).then s6).then s7).then s8
    clear pe3 pe s4 s5 s6 s7 s8 h14 h24 k3 K2
    refine ⟨one, d1, _, _, rfl, h18, .base (.tup hw3), T.nf_S_tup, one, _, _, _, .ref w3, rfl, ⟨d1, h18⟩, .inr ⟨⟨_, .base (.tup hw3), T.ki_tup_S⟩, ?_⟩⟩
    walk_at "g"
    refine ⟨one, d1, _, _, rfl, h18, .base (.str _), T.nf_S_str, one, _, _, _, .str "sum", rfl, ⟨d1, h18⟩, .inr ⟨⟨_, .base (.str _), T.ki_str_S⟩, ?_⟩⟩
    walk_at "g"
    refine mkS fun a2 b2 H9 _ s9 ha2 => ?_
    walk_at "g"
    refine ⟨a2, b2, _, _, rfl, ha2, .base (.int _), T.nf_S_int, a2, _, _, _, .int ck, rfl, ⟨b2, ha2⟩, .inr ⟨⟨_, .base (.int _), T.ki_int_S⟩, ⟨false, rfl, ?_⟩⟩⟩
    walk_at "g"
    rw [if_neg (by decide)]
    walk_at "g"
    refine ⟨p, 7, m + 18003, rfl, (pe8.same s9).mono (by omega), by omega, by omega, by omega, fun f H10 k10 pe10 f1 f2 => ?_⟩
    walk_at "g"
    refine ⟨p, -99, 99, m + 18004, rfl, pe10.mono (by omega), by omega, by omega, by omega, fun sh H11 k11 pe11 t1 t2 => ?_⟩
    have h111 : H11 one = some (.ins a.C_Straight d1 (fStraight (.int ca) (.int cb) (.int cc))) := by walk_at "hp"
    have h211 : H11 oth = some (.ins a.C_Straight d2 (fStraight (.int cx) (.int cy) (.int cz))) := by walk_at "hp"
    walk_at "g"
    refine ⟨one, d1, _, rfl, h111, fStraight_no_replaced .., ?_⟩
    walk_at "g"
    refine ⟨one, _, _, _, f - 2, sh, rfl, ⟨d1, h111⟩, ⟨by omega, by omega⟩, ⟨by omega, by omega⟩, fun rq H12 s12 ⟨dr, hrq⟩ => ?_⟩
    rw [Int.add_comm cc] at hrq
    walk_at "g"
    refine G.newT (by simp) fun w4 H13 _ s13 hw4 => ?_
    walk_at "g"
    have mm := bb_mul ha (k := f - 2) ⟨by omega, by omega⟩
    rw [Int.mul_comm] at mm
    refine ⟨rq, w4, _, _, _, ci, cn, rfl, ⟨dr, s13 _ _ hrq⟩, hw4, mm, ⟨by have := hb'.1; omega, by have := hb'.2; omega⟩, ⟨by omega, by omega⟩, ⟨by omega, by omega⟩, fun H14 s14 => ?_⟩
    have h114 := s14 _ _ (s13 _ _ (s12 _ _ h111))
    have h214 := s14 _ _ (s13 _ _ (s12 _ _ h211))
    walk_at "g"
    refine G.newT (by simp) fun w5 H15 _ s15 hw5 => ?_
    walk_at "g"
    refine G.newT (by simp) fun w6 H16 _ s16 hw6 => ?_
    refine G.eqD (dp6 (by walk_at "hp")) (dp6 hw6) (shaped6 ..) (shaped6 ..) (eqv6 ..) ?_
    walk_at "g"
    exact k H16 (((((((K8.then s9).trans k10).trans k11).then s12).then s13).then s14).then s15 |>.then s16) (((((pe11.same s12).same s13).same s14).same s15).same s16 |>.mono (by omega))
end
end Lw
namespace Lw
open PySem L2
theorem ediv_abs {x g B : Int} (hg : 0 < g) (h : -B ≤ x ∧ x ≤ B) (hB : 0 ≤ B) : -B ≤ x / g ∧ x / g ≤ B := by
  have h1 : x / g * g + x % g = x := Int.ediv_mul_add_emod x g
  have h2 := Int.emod_nonneg x (show g ≠ 0 by omega)
  have h3 := Int.emod_lt_of_pos x hg
  constructor
  · apply Int.le_ediv_of_mul_le hg
    have : -B * g ≤ -B * 1 := Int.mul_le_mul_of_nonpos_left (by omega) (by omega)
    omega
  · apply Int.le_of_lt_add_one
    apply Int.ediv_lt_of_lt_mul hg
    have : (B + 1) * 1 ≤ (B + 1) * g := Int.mul_le_mul_of_nonneg_left (by omega) (by omega)
    omega
theorem aI_abs {i n B : Int} (h : -B ≤ i ∧ i ≤ B) (hB : 0 ≤ B) : -B ≤ aI i n ∧ aI i n ≤ B := by
  unfold aI
  split
  · omega
  · exact ediv_abs (by omega) h hB
theorem aN_abs {i n B : Int} (h : -B ≤ n ∧ n ≤ B) (hB : 0 ≤ B) : -B ≤ aN i n ∧ aN i n ≤ B := by
  unfold aN
  split
  · omega
  · exact ediv_abs (by omega) h hB
/-- the least form of a condition holds where the condition does -/
theorem least_pos {i n o x y : Int} : (0 ≤ aI i n * x + aN i n * y + aO i n o) ↔ (0 ≤ i * x + n * y + o) := by
  unfold aI aN aO
  by_cases hg : Int.gcd i n = 0
  · rw [if_pos hg, if_pos hg, if_pos hg]
    obtain ⟨rfl, rfl⟩ := Int.gcd_eq_zero_iff.mp hg
    split <;> omega
  · rw [if_neg hg, if_neg hg, if_neg hg]
    obtain ⟨i', hi⟩ := Int.gcd_dvd_left (a := i) (b := n)
    obtain ⟨n', hn⟩ := Int.gcd_dvd_right (a := i) (b := n)
    generalize hgg : (Int.gcd i n : Int) = g at *
    have hg0 : 0 < g := by omega
    have e1 : i / g = i' := by rw [hi, Int.mul_ediv_cancel_left _ (by omega)]
    have e2 : n / g = n' := by rw [hn, Int.mul_ediv_cancel_left _ (by omega)]
    rw [e1, e2]
    have e5 : i * x + n * y + o = g * (i' * x + n' * y) + o := by rw [hi, hn, Int.mul_add, Int.mul_assoc, Int.mul_assoc]
    have e6 : (g * (i' * x + n' * y) + o) / g = i' * x + n' * y + o / g := by rw [Int.add_comm, Int.add_mul_ediv_left _ _ (by omega), Int.add_comm]
    rw [e5, ← e6, Int.ediv_nonneg_iff_of_pos hg0]
theorem mod_iff {m u v : Int} : u % m = v % m ↔ m ∣ u - v := by
  rw [Int.emod_eq_emod_iff_emod_sub_eq_zero, Int.dvd_iff_emod_eq_zero]
theorem rest_holds {A B C m r x y : Int} (h0 : 0 ≤ r) (h1 : r < m) : ((A % m * x + B % m * y + 0) % m = (r - C) % m) ↔ ((A * x + B * y + C) % m = r) := by
  have hr : r = r % m := (Int.emod_eq_of_lt h0 h1).symm
  rw [mod_iff]
  conv => rhs; rhs; rw [hr]
  rw [mod_iff]
  have e1 := Int.emod_add_mul_ediv A m
  have e2 := Int.emod_add_mul_ediv B m
  have e : A * x + B * y + C - r = m * (A / m * x + B / m * y) + (A % m * x + B % m * y + 0 - (r - C)) := by
    conv => lhs; rw [← e1, ← e2]
    simp only [Int.add_mul, Int.mul_add, Int.mul_assoc]
    omega
  rw [e]
  exact (Int.dvd_add_right (Int.dvd_mul_right ..)).symm
theorem rest_moved {A B C m r f s x y : Int} (h0 : 0 ≤ r) (h1 : r < m) :
    ((A % m * f % m * x + B % m % m * y + 0) % m = ((r - C) % m - (0 + A % m * s)) % m) ↔ ((A * (f * x + s) + B * y + C) % m = r) := by
  have hr : r = r % m := (Int.emod_eq_of_lt h0 h1).symm
  rw [mod_iff]
  conv => rhs; rhs; rw [hr]
  rw [mod_iff, Int.emod_emod]
  have e1 := Int.emod_add_mul_ediv A m
  have e2 := Int.emod_add_mul_ediv B m
  have e3 := Int.emod_add_mul_ediv (A % m * f) m
  have e4 := Int.emod_add_mul_ediv (r - C) m
  have e : A * (f * x + s) + B * y + C - r = m * (A / m * (f * x + s) + B / m * y + A % m * f / m * x - (r - C) / m) + (A % m * f % m * x + B % m * y + 0 - ((r - C) % m - (0 + A % m * s))) := by
    have e5 : A * (f * x + s) = A % m * f * x + A % m * s + m * (A / m * (f * x + s)) := by
      conv => lhs; rw [← e1]
      simp only [Int.add_mul, Int.mul_add, Int.mul_assoc]
      omega
    have e6 : A % m * f * x = A % m * f % m * x + m * (A % m * f / m * x) := by
      conv => lhs; rw [← e3]
      simp only [Int.add_mul, Int.mul_assoc]
    have e7 : B * y = B % m * y + m * (B / m * y) := by
      conv => lhs; rw [← e2]
      simp only [Int.add_mul, Int.mul_assoc]
    rw [e5, e6, e7]
    simp only [Int.mul_sub, Int.mul_add]
    simp only [Int.mul_add] at *
    omega
  rw [e]
  exact (Int.dvd_add_right (Int.dvd_mul_right ..)).symm
theorem alone_holds {k x y : Int} : (0 ≤ aI 0 0 * x + aN 0 0 * y + aO 0 0 k) ↔ 0 ≤ k := by
  rw [least_pos]
  omega
theorem left_holds {k m r x y : Int} (h0 : 0 ≤ r) (h1 : r < m) : ((0 % m * x + 0 % m * y + 0) % m = (r - k) % m) ↔ (k % m = r) := by
  rw [rest_holds h0 h1]
  have : 0 * x + 0 * y + k = k := by omega
  rw [this]
end Lw
local macro_rules | `(tactic| walk_at "hp") => `(tactic| first
  | assumption
  | exact L2.upd_same
  | (refine G.sget (by assumption) ?_; walk_at "hp")
  | (refine G.kget (by assumption) ?_ ?_; (· walk_at "hp"); (· intro _ h; cases h)))
local macro_rules | `(tactic| walk_at "s") => `(tactic| first
  | (with_reducible refine G.seq ?_)
  | (with_reducible refine G.nx ?_)
  | (with_reducible refine G.rt ?_)
  | (with_reducible refine G.next ?_)
  | (with_reducible refine G.asg ?_)
  | (with_reducible refine G.asgG ?_)
  | ((with_reducible refine' G.gtup ?h ?l ?q); (case h => walk_at "hp"); (case l => rfl))
  | (with_reducible refine G.gcons ?_)
  | (with_reducible refine G.gnil ?_)
  | (with_reducible refine G.gname ?_)
  | (with_reducible refine G.inst ?_)
  | (with_reducible refine G.refV ?_)
  | (with_reducible refine G.xf ?_)
  | ((with_reducible refine' G.xfV ?h ?l ?q); (case h => walk_at "hp"); (case l => walk_at "xk"))
  | (with_reducible refine G.ret ?_)
  | (with_reducible refine G.ifS ?_)
  | (with_reducible refine G.drop ?_)
  | ((with_reducible refine' G.var ?h ?q); (case h => rfl))
  | (with_reducible refine G.cst ?_)
  | (with_reducible refine G.op ?_)
  | (with_reducible refine G.un ?_)
  | (with_reducible refine G.I0 ?_)
  | (with_reducible refine G.U1 ?_)
  | ((with_reducible refine G.fdiv ?_ ?_ ?_); (· omega); (· omega))
  | ((with_reducible refine G.md ?_ ?_); (· omega))
  | ((with_reducible refine G.mulL ?_ ?_ ?_); (· omega); (· omega))
  | ((with_reducible refine G.mulR ?_ ?_ ?_); (· omega); (· omega))
  | ((with_reducible refine G.mulW ?_ ?_ ?_ ?_ ?_); (· omega); (· omega); (· omega); (· omega))
  | (with_reducible refine G.pow18 ?_)
  | (with_reducible refine G.pow6 ?_)
  | (with_reducible refine G.pow30 ?_)
  | (with_reducible refine G.pow29 ?_)
  | (with_reducible refine G.pow3 ?_)
  | (with_reducible refine G.eqI ?_)
  | (with_reducible refine G.neI ?_)
  | ((with_reducible refine G.eq ?_ ?_); (· rfl))
  | ((with_reducible refine G.ne ?_ ?_); (· rfl))
  | (with_reducible refine G.isN ?_)
  | (with_reducible refine G.notN ?_)
  | (with_reducible refine G.test ?_)
  | (with_reducible refine G.tBv ?_)
  | (with_reducible refine G.bl ?_)
  | (with_reducible refine G.and ?_)
  | (with_reducible refine G.or ?_)
  | (with_reducible refine G.not ?_)
  | (with_reducible refine G.andV ?_)
  | (with_reducible refine G.orV ?_)
  | (with_reducible refine G.notV ?_)
  | (with_reducible refine G.ifE ?_)
  | (with_reducible refine G.nil ?_)
  | (with_reducible refine G.cons ?_)
  | (with_reducible refine G.tup ?_)
  | (with_reducible refine G.lst ?_)
  | (with_reducible refine G.fld ?_)
  | (with_reducible refine G.call ?_)
  | (with_reducible refine G.cb ?_)
  | (with_reducible refine G.make ?_)
  | (with_reducible refine G.dget ?_)
  | (with_reducible refine G.dput ?_)
  | (with_reducible refine G.fldS ?_)
  | (with_reducible refine G.abs ?_)
  | (with_reducible refine G.max2 ?_)
  | (with_reducible refine G.min2 ?_)
  | (with_reducible refine G.int1 ?_)
  | (with_reducible refine G.own ?_)
  | (with_reducible refine G.ownR ?_)
  | (with_reducible refine G.meth ?_)
  | (with_reducible refine G.par ?_)
  | (with_reducible refine G.par3 ?_)
  | (with_reducible refine G.parV ?_)
  | (with_reducible refine G.parV3 ?_)
  | (with_reducible refine G.forR ?_)
  | (with_reducible refine G.forZ ?_)
  | (with_reducible refine G.forT ?_)
  | (with_reducible refine G.forL ?_)
  | (with_reducible refine G.methU ?_)
  | (with_reducible refine G.sl ?_)
  | (with_reducible refine G.noPart ?_)
  | (with_reducible refine G.part ?_)
  | (with_reducible refine G.partV ?_)
  | (with_reducible refine G.raiseE ?_)
  | (with_reducible refine G.iteT' ?_)
  | (with_reducible refine G.iteNT ?_)
  | (with_reducible refine G.iteNF ?_)
  | (with_reducible refine G.iteF' ?_)
  | ((with_reducible refine' G.dgetS ?h ?l ?q); (case h => walk_at "hp"); (case l => walk_at "dk"))
  | ((with_reducible refine' G.lenL ?h ?q); (case h => walk_at "hp"))
  | ((with_reducible refine' G.lenT ?h ?q); (case h => walk_at "hp"))
  | ((with_reducible refine' G.fldV ?h ?c ?n ?l ?q); (case h => walk_at "hp"); (case c => walk_at "cls"); (case n => walk_at "na"); (case l => walk_at "lk"))
  | ((with_reducible refine' G.fldSV ?h ?c ?n ?l ?q); (case h => walk_at "hp"); (case c => walk_at "cls"); (case n => walk_at "na"); (case l => walk_at "ln")))
local macro_rules | `(tactic| walk_at "g") => `(tactic| repeat (walk_at "s"))
namespace Lw
open PySem L2
local macro_rules | `(tactic| walk_at "cls") => `(tactic| first | exact Lw.Txt.cl_Straight (by assumption) | exact Lw.Txt.cl_AtLeast (by assumption) | exact Lw.Txt.cl_Rest (by assumption))
local macro_rules | `(tactic| walk_at "na") => `(tactic| first | exact Lw.Txt.na_Straight_i (by assumption) | exact Lw.Txt.na_Straight_n (by assumption) | exact Lw.Txt.na_Straight_one (by assumption) | exact Lw.Txt.na_AtLeast_straight (by assumption) | exact Lw.Txt.na_Rest_straight (by assumption) | exact Lw.Txt.na_Rest_modulus (by assumption) | exact Lw.Txt.na_Rest_rest (by assumption))
local macro_rules | `(tactic| walk_at "lk") => `(tactic| first | exact Lw.fStraight_i _ _ _ | exact Lw.fStraight_n _ _ _ | exact Lw.fStraight_one _ _ _ | exact Lw.fAtLeast_straight _ | exact Lw.fRest_straight _ _ _ | exact Lw.fRest_modulus _ _ _ | exact Lw.fRest_rest _ _ _)
local macro_rules | `(tactic| walk_at "ln") => `(tactic| first | (show 0 < 1000; decide) | (show 1 < 1000; decide) | (show 2 < 1000; decide) | (show 3 < 1000; decide) | (show 4 < 1000; decide))
theorem shaped5 (x y z u v : Int) : SeqAt.shaped (.tuple [.int x, .int y, .int z, .int u, .int v]) = true := by rfl
theorem eqv5 (x y z u v : Int) : PyData.eqv (.tuple [.int x, .int y, .int z, .int u, .int v]) (.tuple [.int x, .int y, .int z, .int u, .int v]) = true := by
  simp [PyData.eqv, PyData.eqvAll]
theorem dp5 {K : PySem.W.Frag} {H : Hp} {p : Addr} {x y z u v : Int} (h : H p = some (.tup [.int x, .int y, .int z, .int u, .int v])) : Dp K H (.ref p) (.tuple [.int x, .int y, .int z, .int u, .int v]) := G.dpT h (G.dpInts [x, y, z, u, v])
/-- the condition as the law tells it and as it is made -/
def GC (a : Ad) (H : Hp) (g md : Addr) (A B C m : Int) : Prop := (GL H g A B C ∧ IsA a H md (aI A B) (aN A B) (aO A B C)) ∨ ∃ r, 0 ≤ r ∧ r < m ∧ GR H g A B C m r ∧ IsR a H md (A % m) (B % m) m ((r - C) % m)
theorem GL.kp {H H' : Hp} {g : Addr} {A B C : Int} (h : GL H g A B C) (k : G.Kp H H') : GL H' g A B C := by
  obtain ⟨t, h1, h2⟩ := h
  exact ⟨t, k _ _ h1 (by intro _ h; cases h), k _ _ h2 (by intro _ h; cases h)⟩
theorem GR.kp {H H' : Hp} {g : Addr} {A B C m r : Int} (h : GR H g A B C m r) (k : G.Kp H H') : GR H' g A B C m r := by
  obtain ⟨t, h1, h2⟩ := h
  exact ⟨t, k _ _ h1 (by intro _ h; cases h), k _ _ h2 (by intro _ h; cases h)⟩
theorem IsA.kp {a : Ad} {H H' : Hp} {g : Addr} {A B C : Int} (h : IsA a H g A B C) (k : G.Kp H H') : IsA a H' g A B C := by
  obtain ⟨dx, t, dy, h1, h2⟩ := h
  exact ⟨dx, t, dy, k _ _ h1 (by intro _ h; cases h), k _ _ h2 (by intro _ h; cases h)⟩
theorem IsR.kp {a : Ad} {H H' : Hp} {g : Addr} {A B m r : Int} (h : IsR a H g A B m r) (k : G.Kp H H') : IsR a H' g A B m r := by
  obtain ⟨dx, t, dy, h1, h2⟩ := h
  exact ⟨dx, t, dy, k _ _ h1 (by intro _ h; cases h), k _ _ h2 (by intro _ h; cases h)⟩
theorem GC.kp {a : Ad} {H H' : Hp} {g md : Addr} {A B C m : Int} (h : GC a H g md A B C m) (k : G.Kp H H') : GC a H' g md A B C m := by
  rcases h with ⟨h1, h2⟩ | ⟨r, h1, h2, h3, h4⟩
  · exact .inl ⟨h1.kp k, h2.kp k⟩
  · exact .inr ⟨r, h1, h2, h3.kp k, h4.kp k⟩
/-- and moved -/
def GM (a : Ad) (H : Hp) (g md mv : Addr) (A B C m f s : Int) : Prop :=
  (GL H g A B C ∧ IsA a H md (aI A B) (aN A B) (aO A B C) ∧ IsA a H mv (aI (aI A B * f) (aN A B)) (aN (aI A B * f) (aN A B)) (aO (aI A B * f) (aN A B) (aO A B C + aI A B * s))) ∨
  ∃ r, 0 ≤ r ∧ r < m ∧ GR H g A B C m r ∧ IsR a H md (A % m) (B % m) m ((r - C) % m) ∧ IsR a H mv (A % m * f % m) (B % m % m) m (((r - C) % m - (0 + A % m * s)) % m)
theorem GM.kp {a : Ad} {H H' : Hp} {g md mv : Addr} {A B C m f s : Int} (h : GM a H g md mv A B C m f s) (k : G.Kp H H') : GM a H' g md mv A B C m f s := by
  rcases h with ⟨h1, h2, h3⟩ | ⟨r, h1, h2, h3, h4, h5⟩
  · exact .inl ⟨h1.kp k, h2.kp k, h3.kp k⟩
  · exact .inr ⟨r, h1, h2, h3.kp k, h4.kp k, h5.kp k⟩
theorem blE {p q : Prop} [Decidable p] [Decidable q] (h : p ↔ q) : V.bl (decide p) = V.bl (decide q) := by
  congr 1
  rw [Bool.eq_iff_iff, decide_eq_true_iff, decide_eq_true_iff]
  exact h
theorem sl5 (u v x y z : V) : ¬ (HT.sIx [u, v, x, y, z].length 0 (some 2) = 0 ∧ HT.sIx [u, v, x, y, z].length [u, v, x, y, z].length none = [u, v, x, y, z].length) := by
  show ¬ (HT.sIx 5 0 (some 2) = 0 ∧ HT.sIx 5 5 none = 5)
  decide
theorem cut_two (m r : Int) : cutV [.int (0 % m), .int (0 % m), .int 0, .int m, .int r] (some 2) none = [.int 0, .int m, .int r] := by rfl
section
variable {P : Program} {w : World} {K : PySem.W.Frag} {mg : Str → Option Value} {base : Heap} {a : Ad}
theorem ok_guard_right (T : Txt P K mg a) : FnOk P w K mg base CX0 7 a.a_guard_right a.d_guard_right ["_law_pen_here"] spRight := by
  refine T.F_guard_right.ok sc_guard_right (fun vs H Q E h => ?_) (fun cdv A outer s H vs Q E hr h => ?_)
  · obtain ⟨p, m, rfl, _⟩ := h
    rfl
  · obtain ⟨p, m, rfl, pe, hm, k⟩ := h
    refine ⟨_, (pss_cons (ps_par (i := 1) (j := 2) (by rfl) sc_guard_right.nd rfl rfl (by decide) rfl rfl (pa_cons (pe_callS (ok_far T) (hr.mono (by decide)) rfl T.g_far T.F_far.kp T.b_far pass0S (pa_cons (pv 0) pa_nil)) (pa_cons (pe_callS (ok_far T) (hr.mono (by decide)) rfl T.g_far T.F_far.kp T.b_far pass0S (pa_cons (pv 0) pa_nil)) pa_nil)) (by rfl))
      (pss_cons (ps_par (i := 3) (j := 4) (by rfl) sc_guard_right.nd rfl rfl (by decide) rfl rfl (pa_cons (pe_op op_sub (pe_callS (ok_draw T) (hr.mono (by decide)) rfl T.g_draw T.F_draw.kp T.b_draw pass0S (pa_cons (pv 0) (pa_cons pe_int pa_nil))) pe_int) (pa_cons (pe_op op_sub (pe_callS (ok_draw T) (hr.mono (by decide)) rfl T.g_draw T.F_draw.kp T.b_draw pass0S (pa_cons (pv 0) (pa_cons pe_int pa_nil))) pe_int) pa_nil)) (by rfl))
      (Evl.pss_cut (ps_set (i := 5) sc_guard_right.nd rfl (Or.inl rfl) (pe_op op_sub (pe_op op_sub (pe_callS (ok_draw T) (hr.mono (by decide)) rfl T.g_draw T.F_draw.kp T.b_draw pass0S (pa_cons (pv 0) (pa_cons pe_int pa_nil))) pe_int) (pe_ifExp (pt_cmpR op_gt (pe_callS (ok_draw T) (hr.mono (by decide)) rfl T.g_draw T.F_draw.kp T.b_draw pass0S (pa_cons (pv 0) (pa_cons pe_int pa_nil))) pe_int (nomark _)) (pe_op op_add (pe_op op_mul (pv 3) (pv 1)) (pe_op op_mul (pv 4) (pv 2))) pe_int)))
      (pss_cons (ps_par (i := 6) (j := 7) (by rfl) sc_guard_right.nd rfl rfl (by decide) rfl rfl (pa_cons (pe_makeS T.mk_Straight (ok_Straight_init T) (hr.mono (by decide)) rfl T.g_Straight T.b_Straight_init pass0S (pa_cons (pv 3) (pa_cons (pv 4) (pa_cons (pv 5) pa_nil)))) (pa_cons (pe_op op_add pe_int (pe_callS (ok_draw T) (hr.mono (by decide)) rfl T.g_draw T.F_draw.kp T.b_draw pass0S (pa_cons (pv 0) (pa_cons pe_int pa_nil)))) pa_nil)) (by rfl))
      (pss_cons (ps_par (i := 8) (j := 9) (by rfl) sc_guard_right.nd rfl rfl (by decide) rfl rfl (pa_cons (pe_tup (pa_cons pe_str (pa_cons (pe_tup (pa_cons (pv 3) (pa_cons (pv 4) (pa_cons (pv 5) pa_nil)))) pa_nil))) (pa_cons (pe_makeS T.mk_AtLeast (ok_AtLeast_init T) (hr.mono (by decide)) rfl T.g_AtLeast T.b_AtLeast_init pass0S (pa_cons (pv 6) pa_nil)) pa_nil)) (by rfl))
      (pss_cons (ps_set (i := 10) sc_guard_right.nd rfl (Or.inl rfl) (pe_tup (pa_cons (pe_fld (pe_fld (pv 9) rfl) rfl) (pa_cons (pe_fld (pe_fld (pv 9) rfl) rfl) (pa_cons (pe_fld (pe_fld (pv 9) rfl) rfl) pa_nil)))))
      (Evl.pss_cut (ps_if (pt_cmpR op_eq (pe_callS (ok_draw T) (hr.mono (by decide)) rfl T.g_draw T.F_draw.kp T.b_draw pass0S (pa_cons (pv 0) (pa_cons pe_int pa_nil))) pe_int (nomark _)) (pss_cons (ps_set (i := 8) sc_guard_right.nd rfl (Or.inl rfl) (pe_tup (pa_cons pe_str (pa_cons (pe_tup (pa_cons (pv 3) (pa_cons (pv 4) (pa_cons (pv 5) pa_nil)))) (pa_cons (pv 7) (pa_cons (pe_callS (ok_draw T) (hr.mono (by decide)) rfl T.g_draw T.F_draw.kp T.b_draw pass0S (pa_cons (pv 0) (pa_cons (pv 7) pa_nil))) pa_nil))))))
      (pss_cons (ps_set (i := 9) sc_guard_right.nd rfl (Or.inl rfl) (pe_makeS T.mk_Rest (ok_Rest_init T) (hr.mono (by decide)) rfl T.g_Rest T.b_Rest_init passLS (pa_cons (pv 6) (pa_cons (pv 7) (pa_cons (pe_ix ix_tup (pv 8) pe_int (fun _ _ => rfl)) pa_nil)))))
      (pss_one (ps_set (i := 10) sc_guard_right.nd rfl (Or.inl rfl) (pe_tup (pa_cons (pe_fld (pe_fld (pv 9) rfl) rfl) (pa_cons (pe_fld (pe_fld (pv 9) rfl) rfl) (pa_cons (pe_fld (pe_fld (pv 9) rfl) rfl) (pa_cons (pe_fld (pv 9) rfl) (pa_cons (pe_fld (pv 9) rfl) pa_nil)))))))))) pss_nil)
      (Evl.pss_cut (ps_if (pt_cmpR (op_neD hr.units) (pv 10) (pe_callS (ok_guard_due T) (hr.mono (by decide)) rfl T.g_guard_due T.F_guard_due.kp T.b_guard_due pass0S (pa_cons (pv 8) pa_nil)) (nomark _)) (pss_one (ps_ret pe_bl)) pss_nil)
      (pss_cons (ps_par (i := 11) (j := 12) (by rfl) sc_guard_right.nd rfl rfl (by decide) rfl rfl (pa_cons (pe_callS (ok_between T) (hr.mono (by decide)) rfl T.g_between T.F_between.kp T.b_between pass0S (pa_cons (pv 0) (pa_cons (pe_un un_neg pe_int) (pa_cons pe_int pa_nil)))) (pa_cons (pe_callS (ok_draw T) (hr.mono (by decide)) rfl T.g_draw T.F_draw.kp T.b_draw pass0S (pa_cons (pv 0) (pa_cons (pv 7) pa_nil))) pa_nil)) (by rfl))
      (pss_cons (ps_par (i := 13) (j := 14) (by rfl) sc_guard_right.nd rfl rfl (by decide) rfl rfl (pa_cons (pe_makeS T.mk_AtLeast (ok_AtLeast_init T) (hr.mono (by decide)) rfl T.g_AtLeast T.b_AtLeast_init pass0S (pa_cons (pv 11) pa_nil)) (pa_cons (pe_makeS T.mk_Rest (ok_Rest_init T) (hr.mono (by decide)) rfl T.g_Rest T.b_Rest_init passLS (pa_cons (pv 11) (pa_cons (pv 7) (pa_cons (pv 12) pa_nil)))) pa_nil)) (by rfl))
      (pss_cons (ps_if (pt_cmpR (op_neD hr.units) (pe_tup (pa_cons (pe_fld (pe_fld (pv 13) rfl) rfl) (pa_cons (pe_fld (pe_fld (pv 13) rfl) rfl) (pa_cons (pe_fld (pe_fld (pv 13) rfl) rfl) pa_nil)))) (pe_callS (ok_guard_due T) (hr.mono (by decide)) rfl T.g_guard_due T.F_guard_due.kp T.b_guard_due pass0S (pa_cons (pe_tup (pa_cons pe_str (pa_cons (pe_tup (pa_cons pe_int (pa_cons pe_int (pa_cons (pv 11) pa_nil)))) pa_nil))) pa_nil)) (nomark _)) (pss_one (ps_ret pe_bl)) pss_nil)
      (pss_cons (ps_if (pt_cmpR (op_neD hr.units) (pe_tup (pa_cons (pe_fld (pe_fld (pv 14) rfl) rfl) (pa_cons (pe_fld (pv 14) rfl) (pa_cons (pe_fld (pv 14) rfl) pa_nil)))) (pe_slice sl_tup (pe_callS (ok_guard_due T) (hr.mono (by decide)) rfl T.g_guard_due T.F_guard_due.kp T.b_guard_due pass0S (pa_cons (pe_tup (pa_cons pe_str (pa_cons (pe_tup (pa_cons pe_int (pa_cons pe_int (pa_cons (pv 11) pa_nil)))) (pa_cons (pv 7) (pa_cons (pv 12) pa_nil))))) pa_nil)) (po_some pe_int) po_none) (nomark _)) (pss_one (ps_ret pe_bl)) pss_nil)
      (pss_cons (ps_if (PW.pt (pw_or (pt_cmpR op_ne (pe_methZ (pv 13) T.cl_AtLeast T.m_AtLeast_holds (ok_AtLeast_holds T) (hr.mono (by decide)) T.b_AtLeast_holds pass0S (pa_cons (pv 1) (pa_cons (pv 2) pa_nil))) (pe_cmpR op_ge (pv 11) pe_int (nomark _)) (nomark _)) (pw_or1 (pt_cmpR op_ne (pe_methZ (pv 14) T.cl_Rest T.m_Rest_holds (ok_Rest_holds T) (hr.mono (by decide)) T.b_Rest_holds pass0S (pa_cons (pv 1) (pa_cons (pv 2) pa_nil))) (pe_cmpR op_eq (pe_op op_mod (pe_callTy G.cInt1 (by rfl) T.n_int (by decide +kernel) (pa_cons (pv 11) pa_nil)) (pv 7)) (pv 12) (nomark _)) (nomark _))))) (pss_one (ps_ret pe_bl)) pss_nil)
      (pss_cons (ps_par (i := 15) (j := 16) (by rfl) sc_guard_right.nd rfl rfl (by decide) rfl rfl (pa_cons (pe_op op_sub (pe_callS (ok_draw T) (hr.mono (by decide)) rfl T.g_draw T.F_draw.kp T.b_draw pass0S (pa_cons (pv 0) (pa_cons pe_int pa_nil))) pe_int) (pa_cons (pe_op op_sub (pe_callS (ok_draw T) (hr.mono (by decide)) rfl T.g_draw T.F_draw.kp T.b_draw pass0S (pa_cons (pv 0) (pa_cons pe_int pa_nil))) pe_int) pa_nil)) (by rfl))
      (Evl.pss_cut (ps_set (i := 17) sc_guard_right.nd rfl (Or.inl rfl) (pe_methU (pv 9) T.cl_AtLeast T.m_AtLeast_replaced (ok_AtLeast_replaced T) (hr.mono (by decide)) T.b_AtLeast_replaced pass0S T.cl_Rest T.m_Rest_replaced (ok_Rest_replaced T) (hr.mono (by decide)) T.b_Rest_replaced pass0S (pa_cons (pv 15) (pa_cons (pv 16) pa_nil))))
      (pss_cons (ps_for PassesOwn.never rfl (pi_tup (pe_tup (pa_cons (pe_tup (pa_cons (pv 1) (pa_cons (pv 2) pa_nil))) (pa_cons (pe_tup (pa_cons (pe_op op_add (pv 1) pe_int) (pa_cons (pv 2) pa_nil))) (pa_cons (pe_tup (pa_cons (pv 1) (pa_cons (pe_op op_add (pv 2) pe_int) pa_nil))) (pa_cons (pe_tup (pa_cons (pe_op op_add (pv 1) pe_int) (pa_cons (pe_op op_add (pv 2) pe_int) pa_nil))) pa_nil)))))) (pg_name (i := 18) sc_guard_right.nd rfl (Or.inl rfl))
      (pss_cons (ps_par (i := 19) (j := 20) (by rfl) sc_guard_right.nd rfl rfl (by decide) rfl rfl (pa_cons (pe_methU (pv 9) T.cl_AtLeast T.m_AtLeast_holds (ok_AtLeast_holds T) (hr.mono (by decide)) T.b_AtLeast_holds pass0S T.cl_Rest T.m_Rest_holds (ok_Rest_holds T) (hr.mono (by decide)) T.b_Rest_holds pass0S (pa_cons (pe_ix ix_tup (pv 18) pe_int (fun _ _ => rfl)) (pa_cons (pe_ix ix_tup (pv 18) pe_int (fun _ _ => rfl)) pa_nil))) (pa_cons (pe_methU (pv 17) T.cl_AtLeast T.m_AtLeast_holds (ok_AtLeast_holds T) (hr.mono (by decide)) T.b_AtLeast_holds pass0S T.cl_Rest T.m_Rest_holds (ok_Rest_holds T) (hr.mono (by decide)) T.b_Rest_holds pass0S (pa_cons (pe_ix ix_tup (pv 18) pe_int (fun _ _ => rfl)) (pa_cons (pe_ix ix_tup (pv 18) pe_int (fun _ _ => rfl)) pa_nil))) pa_nil)) (by rfl))
      (pss_cons (ps_if (PW.pt (pw_or (pt_not (pt_val (pe_callB call_isi (by rfl) T.n_isinstance (by decide +kernel) (pa_cons (pv 19) (pa_cons (pe_bltn (v := .ty "bool") (by rfl) T.n_bool (by decide +kernel) rfl) pa_nil))))) (pw_or1 (pt_cmpR op_ne (pv 19) (pe_callS (ok_guard_holds T) (hr.mono (by decide)) rfl T.g_guard_holds T.F_guard_holds.kp T.b_guard_holds pass0S (pa_cons (pv 8) (pa_cons (pe_ix ix_tup (pv 18) pe_int (fun _ _ => rfl)) (pa_cons (pe_ix ix_tup (pv 18) pe_int (fun _ _ => rfl)) pa_nil)))) (nomark _))))) (pss_one (ps_ret pe_bl)) pss_nil)
      (pss_one (ps_if (PW.pt (pw_or (pt_not (pt_val (pe_callB call_isi (by rfl) T.n_isinstance (by decide +kernel) (pa_cons (pv 20) (pa_cons (pe_bltn (v := .ty "bool") (by rfl) T.n_bool (by decide +kernel) rfl) pa_nil))))) (pw_or1 (pt_cmpR op_ne (pv 20) (pe_callS (ok_guard_holds T) (hr.mono (by decide)) rfl T.g_guard_holds T.F_guard_holds.kp T.b_guard_holds pass0S (pa_cons (pv 8) (pa_cons (pe_op op_add (pe_op op_mul (pv 15) (pe_ix ix_tup (pv 18) pe_int (fun _ _ => rfl))) (pv 16)) (pa_cons (pe_ix ix_tup (pv 18) pe_int (fun _ _ => rfl)) pa_nil)))) (nomark _))))) (pss_one (ps_ret pe_bl)) pss_nil)))))
      (pss_one (ps_ret (pe_cmpR (op_eqD hr.units) (pe_tup (pa_cons (pe_fld (pv 6) rfl) (pa_cons (pe_fld (pv 6) rfl) (pa_cons (pe_fld (pv 6) rfl) pa_nil)))) (pe_tup (pa_cons (pv 3) (pa_cons (pv 4) (pa_cons (pv 5) pa_nil)))) (nomark _)))))))))))))))))))), ?_⟩
    walk_at "g"
    refine ⟨p, m, rfl, pe, by omega, fun ci H1 k1 pe1 i1 i2 => ?_⟩
    walk_at "g"
    refine ⟨p, m + 2000, rfl, pe1.mono (by omega), by omega, fun cn H2 k2 pe2 n1 n2 => ?_⟩
    walk_at "g"
    refine ⟨p, 13, m + 4000, rfl, pe2.mono (by omega), by omega, by omega, by omega, fun ra H3 k3 pe3 a1 a2 => ?_⟩
    walk_at "g"
    refine ⟨p, 13, m + 4001, rfl, pe3.mono (by omega), by omega, by omega, by omega, fun rb H4 k4 pe4 b1 b2 => ?_⟩
    have K4 := (((k1.trans k2).trans k3).trans k4)
    obtain ⟨A, rfl⟩ : ∃ A, ra = A + 6 := ⟨ra - 6, by omega⟩
    obtain ⟨B, rfl⟩ : ∃ B, rb = B + 6 := ⟨rb - 6, by omega⟩
    have eA : A + 6 - 6 = A := by omega
    have eB : B + 6 - 6 = B := by omega
    have hA : -6 ≤ A ∧ A ≤ 6 := by omega
    have hB : -6 ≤ B ∧ B ≤ 6 := by omega
    clear pe pe1 pe2 pe3 k1 k2 k3 k4 a1 a2 b1 b2
    walk_at "g"
    rw [eA, eB]
    refine G.cut (fun σ' H' => ∃ C : Int, σ' = [some (.ref p), some (.int ci), some (.int cn), some (.int A), some (.int B), some (.int C), none, none, none, none, none, none, none, none, none, none, none, none, none, none, none] ∧ G.Kp H H' ∧ Pen H' p (m + 4004)) ?_ ?_
    · walk_at "g"
      refine ⟨p, 7, m + 4002, rfl, pe4.mono (by omega), by omega, by omega, by omega, fun r1 H5 k5 pe5 c1 c2 => ?_⟩
      walk_at "g"
      refine ⟨p, 3, m + 4003, rfl, pe5.mono (by omega), by omega, by omega, by omega, fun r2 H6 k6 pe6 c3 c4 => ?_⟩
      walk_at "g"
      refine G.ite (fun _ => ?_) (fun _ => ?_)
      · walk_at "g"
        exact ⟨_, rfl, (K4.trans k5).trans k6, pe6.mono (by omega)⟩
      · walk_at "g"
        exact ⟨_, rfl, (K4.trans k5).trans k6, pe6.mono (by omega)⟩
    clear pe4 K4 eA eB
    rintro σ' H5 ⟨C, rfl, K5, pe5⟩
    walk_at "g"
    refine mkS fun wh dw H6 _ s6 hwh => ?_
    walk_at "g"
    refine ⟨p, 3, m + 4004, rfl, pe5.same s6, by omega, by omega, by omega, fun r3 H7 k7 pe7 c1 c2 => ?_⟩
    obtain ⟨M, rfl⟩ : ∃ M, r3 = M - 2 := ⟨r3 + 2, by omega⟩
    have eM : 2 + (M - 2) = M := by omega
    have hM : 2 ≤ M ∧ M ≤ 4 := by omega
    walk_at "g"
    rw [eM]
    walk_at "g"
    refine G.newT (by simp) fun t1 H8 _ s8 ht1 => ?_
    walk_at "g"
    refine G.newT (by simp) fun g1 H9 _ s9 hg1 => ?_
    walk_at "g"
    have hwh9 : H9 wh = some (.ins a.C_Straight dw (fStraight (.int A) (.int B) (.int C))) := by walk_at "hp"
    refine mkA (.inl ⟨wh, rfl, dw, hwh9⟩) ⟨by omega, by omega⟩ ⟨by omega, by omega⟩ fun md dm st ds H10 s10 hmd hst => ?_
    walk_at "g"
    refine G.newT (by simp) fun rw1 H11 _ s11 hrw => ?_
    have hwh11 : H11 wh = some (.ins a.C_Straight dw (fStraight (.int A) (.int B) (.int C))) := by walk_at "hp"
    have hgc : GL H11 g1 A B C := ⟨t1, by walk_at "hp", by walk_at "hp"⟩
    have hia : IsA a H11 md (aI A B) (aN A B) (aO A B C) := ⟨dm, st, ds, by walk_at "hp", by walk_at "hp"⟩
    have pe11 := (((pe7.same s8).same s9).same s10).same s11
    have K11 := (((((K5.then s6).trans k7).then s8).then s9).then s10).then s11
    clear pe5 pe7 s6 k7 s8 s9 s10 s11 hwh hwh9 ht1 hg1 hmd hst K5 eM
    walk_at "g"
    refine G.cut (fun σ' H' => ∃ g md rw', σ' = [some (.ref p), some (.int ci), some (.int cn), some (.int A), some (.int B), some (.int C), some (.ref wh), some (.int M), some (.ref g), some (.ref md), some (.ref rw'), none, none, none, none, none, none, none, none, none, none] ∧ G.Kp H11 H' ∧ Pen H' p (m + 4007) ∧
      ((GL H' g A B C ∧ IsA a H' md (aI A B) (aN A B) (aO A B C) ∧ H' rw' = some (.tup [.int (aI A B), .int (aN A B), .int (aO A B C)])) ∨ ∃ r, 0 ≤ r ∧ r < M ∧ GR H' g A B C M r ∧ IsR a H' md (A % M) (B % M) M ((r - C) % M) ∧ H' rw' = some (.tup [.int (A % M), .int (B % M), .int 0, .int M, .int ((r - C) % M)]))) ?_ ?_
    · walk_at "g"
      refine ⟨p, 2, m + 4005, rfl, pe11.mono (by omega), by omega, by omega, by omega, fun r4 H12 k12 pe12 c3 c4 => ?_⟩
      walk_at "g"
      refine G.ite (fun _ => ?_) (fun _ => ?_)
      · walk_at "g"
        refine G.newT (by simp) fun t2 H13 _ s13 ht2 => ?_
        walk_at "g"
        refine ⟨p, M, m + 4006, rfl, (pe12.same s13).mono (by omega), by omega, by omega, by omega, fun r5 H14 k14 pe14 c5 c6 => ?_⟩
        walk_at "g"
        refine G.newT (by simp) fun g2 H15 _ s15 hg2 => ?_
        walk_at "g"
        have hwh15 : H15 wh = some (.ins a.C_Straight dw (fStraight (.int A) (.int B) (.int C))) := by walk_at "hp"
        refine G.ixT hg2 (rfl : atI _ 3 = some (.int r5)) ?_
        walk_at "g"
        refine mkR (.inl ⟨wh, rfl, dw, hwh15⟩) (fun h => by omega) (fun h => by omega) fun _ md2 dm2 st2 ds2 H16 s16 hmd2 hst2 => ?_
        walk_at "g"
        refine G.newT (by simp) fun rw2 H17 _ s17 hrw2 => ?_
        walk_at "g"
        refine ⟨g2, md2, rw2, rfl, ?_, (((pe14.same s15).same s16).same s17).mono (by omega), .inr ⟨r5, c5, c6, ⟨t2, by walk_at "hp", by walk_at "hp"⟩, ⟨dm2, st2, ds2, by walk_at "hp", by walk_at "hp"⟩, hrw2⟩⟩
        exact ((((k12.then s13).trans k14).then s15).then s16).then s17
      · walk_at "g"
        exact ⟨g1, md, rw1, rfl, k12, pe12.mono (by omega), .inl ⟨hgc.kp k12, hia.kp k12, by walk_at "hp"⟩⟩
    rintro σ' H12 ⟨g, md', rw', rfl, k12, pe12, hc⟩
    have hwh12 : H12 wh = some (.ins a.C_Straight dw (fStraight (.int A) (.int B) (.int C))) := k12 _ _ hwh11 (by intro _ h; cases h)
    have K12 := K11.trans k12
    clear hwh11 hgc hia pe11 K11 k12 hrw
    refine G.cut (fun σ' H' => σ' = [some (.ref p), some (.int ci), some (.int cn), some (.int A), some (.int B), some (.int C), some (.ref wh), some (.int M), some (.ref g), some (.ref md'), some (.ref rw'), none, none, none, none, none, none, none, none, none, none] ∧ Same H12 H' ∧ GC a H' g md' A B C M) ?_ ?_
    · walk_at "g"
      rcases hc with ⟨hg, hmd, hrw⟩ | ⟨r, r1, r2, hg, hmd, hrw⟩
      · refine ⟨g, rfl, .inl ⟨A, B, C, hg, ⟨by omega, by omega⟩, ⟨by omega, by omega⟩, fun q H13 s13 hq => ?_⟩⟩
        walk_at "g"
        refine G.neD (k := true) (dp3 (by walk_at "hp")) (dp3 hq) (shaped3 ..) (shaped3 ..) (by rw [eqv3]; simp) ?_
        walk_at "g"
        exact ⟨rfl, s13, .inl ⟨hg.kp (G.Kp.of s13), hmd.kp (G.Kp.of s13)⟩⟩
      · refine ⟨g, rfl, .inr ⟨A, B, C, M, r, hg, hM.1, hM.2, fun q H13 s13 hq => ?_⟩⟩
        walk_at "g"
        refine G.neD (k := true) (dp5 (by walk_at "hp")) (dp5 hq) (shaped5 ..) (shaped5 ..) (eqv5 ..) ?_
        walk_at "g"
        exact ⟨rfl, s13, .inr ⟨r, r1, r2, hg.kp (G.Kp.of s13), hmd.kp (G.Kp.of s13)⟩⟩
    clear hc
    rintro σ' H13 ⟨rfl, s13, hc⟩
    have hwh13 := s13 _ _ hwh12
    have pe13 := pe12.same s13
    have K13 := K12.then s13
    clear hwh12 pe12 K12 s13
    walk_at "g"
    refine ⟨p, -99, 99, m + 4007, rfl, pe13, by omega, by omega, by omega, fun ck H14 k14 pe14 k1 k2 => ?_⟩
    walk_at "g"
    refine ⟨p, M, m + 4009, rfl, pe14.mono (by omega), by omega, by omega, by omega, fun r H15 k15 pe15 r1 r2 => ?_⟩
    walk_at "g"
    refine mkA (.inr ⟨rfl, rfl, rfl⟩) ⟨by omega, by omega⟩ ⟨by omega, by omega⟩ fun al dal sal dsal H16 s16 hal hsal => ?_
    walk_at "g"
    refine mkR (.inr ⟨rfl, rfl, rfl⟩) (fun h => by omega) (fun h => by omega) fun _ lf dlf slf dslf H17 s17 hlf hslf => ?_
    walk_at "g"
    refine G.newT (by simp) fun w1 H18 _ s18 hw1 => ?_
    walk_at "g"
    refine G.newT (by simp) fun w2 H19 _ s19 hw2 => ?_
    walk_at "g"
    refine G.newT (by simp) fun w3 H20 _ s20 hw3 => ?_
    walk_at "g"
    refine ⟨w3, rfl, .inl ⟨0, 0, ck, ⟨w2, hw3, by walk_at "hp"⟩, ⟨by omega, by omega⟩, ⟨by omega, by omega⟩, fun q H21 s21 hq => ?_⟩⟩
    walk_at "g"
    refine G.neD (k := true) (dp3 (by walk_at "hp")) (dp3 hq) (shaped3 ..) (shaped3 ..) (by rw [eqv3]; simp) ?_
    walk_at "g"
    refine G.newT (by simp) fun w4 H22 _ s22 hw4 => ?_
    walk_at "g"
    refine G.newT (by simp) fun w5 H23 _ s23 hw5 => ?_
    walk_at "g"
    refine G.newT (by simp) fun w6 H24 _ s24 hw6 => ?_
    walk_at "g"
    refine ⟨w6, rfl, .inr ⟨0, 0, ck, M, r, ⟨w5, hw6, by walk_at "hp"⟩, hM.1, hM.2, fun q2 H25 s25 hq2 => ?_⟩⟩
    walk_at "g"
    refine G.slT hq2 (sl5 _ _ _ _ _) fun w7 H26 _ s26 hw7 => ?_
    rw [cut_two] at hw7
    refine G.neD (k := true) (dp3 (by walk_at "hp")) (dp3 hw7) (shaped3 ..) (shaped3 ..) (by rw [eqv3]; simp) ?_
    have hal26 : IsA a H26 al (aI 0 0) (aN 0 0) (aO 0 0 ck) := ⟨dal, sal, dsal, by walk_at "hp", by walk_at "hp"⟩
    have hlf26 : IsR a H26 lf (0 % M) (0 % M) M ((r - ck) % M) := ⟨dlf, slf, dslf, by walk_at "hp", by walk_at "hp"⟩
    have S26 : Same H15 H26 := (((((((((s16.trans s17).trans s18).trans s19).trans s20).trans s21).trans s22).trans s23).trans s24).trans s25).trans s26
    have K26 : G.Kp H13 H26 := (k14.trans k15).then S26
    have pe26 := pe15.same S26
    have hwh26 : H26 wh = some (.ins a.C_Straight dw (fStraight (.int A) (.int B) (.int C))) := K26 _ _ hwh13 (by intro _ h; cases h)
    have hc26 := hc.kp K26
    have K26' := K13.trans K26
    clear s16 s17 s18 s19 s20 s21 s22 s23 s24 s25 s26 S26 K26 k14 k15 pe13 pe14 pe15 hwh13 hc K13 hw1 hw2 hw3 hw4 hw5 hw6 hw7 hq hq2 hal hsal hlf hslf
    walk_at "g"
    obtain ⟨dal', sal', dsal', hal1, hal2⟩ := hal26
    refine ⟨al, dal', _, rfl, hal1, fAtLeast_no_holds .., ?_⟩
    walk_at "g"
    refine ⟨al, _, _, _, ci, cn, rfl, ⟨dal', sal', dsal', hal1, hal2⟩, ⟨by decide, by decide⟩, ⟨by decide, by decide⟩, ⟨by omega, by omega⟩, ⟨by omega, by omega⟩, ?_⟩
    walk_at "g"
    refine G.iteNY (blE alone_holds) ?_
    walk_at "g"
    obtain ⟨dlf', slf', dslf', hlf1, hlf2⟩ := hlf26
    refine ⟨lf, dlf', _, rfl, hlf1, fRest_no_holds .., ?_⟩
    walk_at "g"
    refine ⟨lf, _, _, _, _, ci, cn, rfl, ⟨dlf', slf', dslf', hlf1, hlf2⟩, ⟨by rw [Int.zero_emod]; decide, by rw [Int.zero_emod]; decide⟩, ⟨by rw [Int.zero_emod]; decide, by rw [Int.zero_emod]; decide⟩, ⟨by omega, by omega⟩, ⟨by omega, by omega⟩, hM.1, hM.2, ?_⟩
    walk_at "g"
    refine G.iteNY (blE (left_holds r1 r2)) ?_
    walk_at "g"
    refine ⟨p, 5, m + 4010, rfl, pe26.mono (by omega), by omega, by omega, by omega, fun rf H27 k27 pe27 f1 f2 => ?_⟩
    walk_at "g"
    refine ⟨p, 19, m + 4011, rfl, pe27.mono (by omega), by omega, by omega, by omega, fun rs H28 k28 pe28 s1 s2 => ?_⟩
    obtain ⟨f, rfl⟩ : ∃ f, rf = f + 1 := ⟨rf - 1, by omega⟩
    obtain ⟨sh, rfl⟩ : ∃ sh, rs = sh + 9 := ⟨rs - 9, by omega⟩
    have eF : f + 1 - 1 = f := by omega
    have eS : sh + 9 - 9 = sh := by omega
    have K28 := (K26'.trans k27).trans k28
    have hc28 := (hc26.kp k27).kp k28
    have hwh28 : H28 wh = some (.ins a.C_Straight dw (fStraight (.int A) (.int B) (.int C))) := k28 _ _ (k27 _ _ hwh26 (by intro _ h; cases h)) (by intro _ h; cases h)
    clear hal1 hal2 hlf1 hlf2 pe26 pe27 k27 k28 hwh26 hc26 K26'
    have bI := aI_abs (i := A) (n := B) (B := 6) hA (by omega)
    have bN := aN_abs (i := A) (n := B) (B := 6) hB (by omega)
    have bF : -18 ≤ aI A B * f ∧ aI A B * f ≤ 18 := by
      have hf : f = -1 ∨ f = 0 ∨ f = 1 ∨ f = 2 ∨ f = 3 := by omega
      rcases hf with rfl | rfl | rfl | rfl | rfl <;> constructor <;> omega
    walk_at "g"
    rw [eF, eS]
    refine G.cut (fun σ' H' => ∃ mv, σ' = [some (.ref p), some (.int ci), some (.int cn), some (.int A), some (.int B), some (.int C), some (.ref wh), some (.int M), some (.ref g), some (.ref md'), some (.ref rw'), some (.int ck), some (.int r), some (.ref al), some (.ref lf), some (.int f), some (.int sh), some (.ref mv), none, none, none] ∧ Same H28 H' ∧ GM a H' g md' mv A B C M f sh) ?_ ?_
    · walk_at "g"
      rcases hc28 with ⟨hg, hmd⟩ | ⟨r', q1, q2, hg, hmd⟩
      · have hmd' := hmd
        obtain ⟨dm, st, ds, hm1, hm2⟩ := hmd
        refine ⟨md', dm, _, rfl, fAtLeast_no_replaced .., .inl ⟨hm1, ?_⟩⟩
        walk_at "g"
        refine ⟨md', _, _, _, f, sh, rfl, ⟨dm, st, ds, hm1, hm2⟩, ⟨by omega, by omega⟩, ⟨by omega, by omega⟩, ⟨by omega, by omega⟩, ⟨by omega, by omega⟩, fun mv H29 s29 hmv => ?_⟩
        walk_at "g"
        exact ⟨mv, rfl, s29, .inl ⟨hg.kp (G.Kp.of s29), hmd'.kp (G.Kp.of s29), hmv⟩⟩
      · have hmd' := hmd
        obtain ⟨dm, st, ds, hm1, hm2⟩ := hmd
        refine ⟨md', dm, _, rfl, fRest_no_replaced .., .inr ⟨hm1, ?_⟩⟩
        walk_at "g"
        refine ⟨md', _, _, _, _, f, sh, rfl, ⟨dm, st, ds, hm1, hm2⟩, ⟨by omega, by omega⟩, ⟨by omega, by omega⟩, hM.1, hM.2, Int.emod_nonneg _ (by omega), Int.emod_lt_of_pos _ (by omega), fun mv H29 s29 hmv => ?_⟩
        walk_at "g"
        exact ⟨mv, rfl, s29, .inr ⟨r', q1, q2, hg.kp (G.Kp.of s29), hmd'.kp (G.Kp.of s29), hmv⟩⟩
    clear hc28
    rintro σ' H29 ⟨mv, rfl, s29, hgm⟩
    have hwh29 := s29 _ _ hwh28
    have pe29 := pe28.same s29
    have K29 := K28.then s29
    clear hwh28 pe28 K28 s29
    walk_at "g"
    refine G.newT (by simp) fun t1 J1 _ u1 y1 => ?_
    walk_at "g"
    refine G.newT (by simp) fun t2 J2 _ u2 y2 => ?_
    walk_at "g"
    refine G.newT (by simp) fun t3 J3 _ u3 y3 => ?_
    walk_at "g"
    refine G.newT (by simp) fun t4 J4 _ u4 y4 => ?_
    walk_at "g"
    refine G.newT (by simp) fun t5 J5 _ u5 y5 => ?_
    have Y1 : J5 t1 = some (.tup [.int ci, .int cn]) := by walk_at "hp"
    have Y2 : J5 t2 = some (.tup [.int (ci + 1), .int cn]) := by walk_at "hp"
    have Y3 : J5 t3 = some (.tup [.int ci, .int (cn + 1)]) := by walk_at "hp"
    have Y4 : J5 t4 = some (.tup [.int (ci + 2), .int (cn + 2)]) := by walk_at "hp"
    have key : ∀ (j : Nat) (x : V), [V.ref t1, .ref t2, .ref t3, .ref t4][j]? = some x → ∃ (t : Addr) (x1 y1 : Int), x = .ref t ∧ J5 t = some (.tup [.int x1, .int y1]) ∧ (0 ≤ x1 ∧ x1 ≤ 1000000000000000000000000000002) ∧ (0 ≤ y1 ∧ y1 ≤ 1000000000000000000000000000002) := by
      intro j x hx
      match j with
      | 0 => cases hx; exact ⟨_, _, _, rfl, Y1, ⟨by omega, by omega⟩, ⟨by omega, by omega⟩⟩
      | 1 => cases hx; exact ⟨_, _, _, rfl, Y2, ⟨by omega, by omega⟩, ⟨by omega, by omega⟩⟩
      | 2 => cases hx; exact ⟨_, _, _, rfl, Y3, ⟨by omega, by omega⟩, ⟨by omega, by omega⟩⟩
      | 3 => cases hx; exact ⟨_, _, _, rfl, Y4, ⟨by omega, by omega⟩, ⟨by omega, by omega⟩⟩
      | j + 4 => cases hx
    have S5 : Same H29 J5 := (((u1.trans u2).trans u3).trans u4).trans u5
    have hwh5 := S5 _ _ hwh29
    have pe5 := pe29.same S5
    have K5 := K29.then S5
    have hgm5 := hgm.kp (G.Kp.of S5)
    clear hwh29 pe29 K29 S5 hgm u1 u2 u3 u4 u5 y1 y2 y3 y4 Y1 Y2 Y3 Y4
    walk_at "g"
    have bF2 := aI_abs (i := aI A B * f) (n := aN A B) (B := 18) bF (by omega)
    have bN2 := aN_abs (i := aI A B * f) (n := aN A B) (B := 6) bN (by omega)
    refine G.forT1 (fun j σ' H' => ∃ u v w : Option V, σ' = [some (.ref p), some (.int ci), some (.int cn), some (.int A), some (.int B), some (.int C), some (.ref wh), some (.int M), some (.ref g), some (.ref md'), some (.ref rw'), some (.int ck), some (.int r), some (.ref al), some (.ref lf), some (.int f), some (.int sh), some (.ref mv), u, v, w] ∧ H' = J5) y5 ⟨none, none, none, rfl, rfl⟩ (fun j σ' H' ⟨u, v, w, _, e⟩ => e ▸ y5) ?_ ?_
    · rintro j x σ' H' gx ⟨u, v, w, rfl, rfl⟩
      obtain ⟨t, x1, y1, rfl, ht, hx1, hy1⟩ := key j x gx
      have bx : -3000000000000000000000000000015 ≤ f * x1 + sh ∧ f * x1 + sh ≤ 3000000000000000000000000000015 := by
        have hf : f = -1 ∨ f = 0 ∨ f = 1 ∨ f = 2 ∨ f = 3 := by omega
        rcases hf with rfl | rfl | rfl | rfl | rfl <;> constructor <;> omega
      walk_at "g"
      rcases hgm5 with ⟨hg, ⟨dm, st, ds, hm1, hm2⟩, ⟨dv, sv, dsv, hv1, hv2⟩⟩ | ⟨r', q1, q2, hg, ⟨dm, st, ds, hm1, hm2⟩, ⟨dv, sv, dsv, hv1, hv2⟩⟩
      · refine ⟨md', dm, _, rfl, fAtLeast_no_holds .., .inl ⟨hm1, ?_⟩⟩
        walk_at "g"
        refine G.ixT ht (rfl : atI _ 0 = some (.int x1)) ?_
        walk_at "g"
        refine G.ixT ht (rfl : atI _ 1 = some (.int y1)) ?_
        walk_at "g"
        refine ⟨md', _, _, _, x1, y1, rfl, ⟨dm, st, ds, hm1, hm2⟩, ⟨by omega, by omega⟩, ⟨by omega, by omega⟩, ⟨by omega, by omega⟩, ⟨by omega, by omega⟩, ?_⟩
        walk_at "g"
        refine ⟨mv, dv, _, rfl, fAtLeast_no_holds .., .inl ⟨hv1, ?_⟩⟩
        walk_at "g"
        refine G.ixT ht (rfl : atI _ 0 = some (.int x1)) ?_
        walk_at "g"
        refine G.ixT ht (rfl : atI _ 1 = some (.int y1)) ?_
        walk_at "g"
        refine ⟨mv, _, _, _, x1, y1, rfl, ⟨dv, sv, dsv, hv1, hv2⟩, ⟨by omega, by omega⟩, ⟨by omega, by omega⟩, ⟨by omega, by omega⟩, ⟨by omega, by omega⟩, ?_⟩
        walk_at "g"
        refine ⟨_, _, _, _, true, rfl, .ty _, .base (.bl _), kit_ty (by decide +kernel), ?_⟩
        walk_at "g"
        refine G.ixT ht (rfl : atI _ 0 = some (.int x1)) ?_
        walk_at "g"
        refine G.ixT ht (rfl : atI _ 1 = some (.int y1)) ?_
        walk_at "g"
        refine ⟨g, x1, y1, rfl, ⟨by omega, by omega⟩, ⟨by omega, by omega⟩, .inl ⟨A, B, C, hg, ⟨by omega, by omega⟩, ⟨by omega, by omega⟩, ?_⟩⟩
        walk_at "g"
        refine G.iteNY (blE least_pos) ?_
        walk_at "g"
        refine ⟨_, _, _, _, true, rfl, .ty _, .base (.bl _), kit_ty (by decide +kernel), ?_⟩
        walk_at "g"
        refine G.ixT ht (rfl : atI _ 0 = some (.int x1)) ?_
        walk_at "g"
        refine G.ixT ht (rfl : atI _ 1 = some (.int y1)) ?_
        walk_at "g"
        refine ⟨g, f * x1 + sh, y1, rfl, ⟨by omega, by omega⟩, ⟨by omega, by omega⟩, .inl ⟨A, B, C, hg, ⟨by omega, by omega⟩, ⟨by omega, by omega⟩, ?_⟩⟩
        walk_at "g"
        refine G.iteNY ?_ ?_
        · refine blE ?_
          rw [least_pos, ← least_pos (i := A) (n := B)]
          have e : aI A B * f * x1 + aN A B * y1 + (aO A B C + aI A B * sh) = aI A B * (f * x1 + sh) + aN A B * y1 + aO A B C := by
            rw [Int.mul_add, Int.mul_assoc]; omega
          rw [e]
        walk_at "g"
        exact ⟨_, _, _, rfl, rfl⟩
      · have bA : 0 ≤ A % M ∧ A % M < M := ⟨Int.emod_nonneg _ (by omega), Int.emod_lt_of_pos _ (by omega)⟩
        have bB : 0 ≤ B % M ∧ B % M < M := ⟨Int.emod_nonneg _ (by omega), Int.emod_lt_of_pos _ (by omega)⟩
        have bA2 : 0 ≤ A % M * f % M ∧ A % M * f % M < M := ⟨Int.emod_nonneg _ (by omega), Int.emod_lt_of_pos _ (by omega)⟩
        have bB2 : 0 ≤ B % M % M ∧ B % M % M < M := ⟨Int.emod_nonneg _ (by omega), Int.emod_lt_of_pos _ (by omega)⟩
        refine ⟨md', dm, _, rfl, fRest_no_holds .., .inr ⟨hm1, ?_⟩⟩
        walk_at "g"
        refine G.ixT ht (rfl : atI _ 0 = some (.int x1)) ?_
        walk_at "g"
        refine G.ixT ht (rfl : atI _ 1 = some (.int y1)) ?_
        walk_at "g"
        refine ⟨md', _, _, _, _, x1, y1, rfl, ⟨dm, st, ds, hm1, hm2⟩, ⟨by omega, by omega⟩, ⟨by omega, by omega⟩, ⟨by omega, by omega⟩, ⟨by omega, by omega⟩, hM.1, hM.2, ?_⟩
        walk_at "g"
        refine ⟨mv, dv, _, rfl, fRest_no_holds .., .inr ⟨hv1, ?_⟩⟩
        walk_at "g"
        refine G.ixT ht (rfl : atI _ 0 = some (.int x1)) ?_
        walk_at "g"
        refine G.ixT ht (rfl : atI _ 1 = some (.int y1)) ?_
        walk_at "g"
        refine ⟨mv, _, _, _, _, x1, y1, rfl, ⟨dv, sv, dsv, hv1, hv2⟩, ⟨by omega, by omega⟩, ⟨by omega, by omega⟩, ⟨by omega, by omega⟩, ⟨by omega, by omega⟩, hM.1, hM.2, ?_⟩
        walk_at "g"
        refine ⟨_, _, _, _, true, rfl, .ty _, .base (.bl _), kit_ty (by decide +kernel), ?_⟩
        walk_at "g"
        refine G.ixT ht (rfl : atI _ 0 = some (.int x1)) ?_
        walk_at "g"
        refine G.ixT ht (rfl : atI _ 1 = some (.int y1)) ?_
        walk_at "g"
        refine ⟨g, x1, y1, rfl, ⟨by omega, by omega⟩, ⟨by omega, by omega⟩, .inr ⟨A, B, C, M, r', hg, ⟨by omega, by omega⟩, ⟨by omega, by omega⟩, hM.1, hM.2, ?_⟩⟩
        walk_at "g"
        refine G.iteNY (blE (rest_holds q1 q2)) ?_
        walk_at "g"
        refine ⟨_, _, _, _, true, rfl, .ty _, .base (.bl _), kit_ty (by decide +kernel), ?_⟩
        walk_at "g"
        refine G.ixT ht (rfl : atI _ 0 = some (.int x1)) ?_
        walk_at "g"
        refine G.ixT ht (rfl : atI _ 1 = some (.int y1)) ?_
        walk_at "g"
        refine ⟨g, f * x1 + sh, y1, rfl, ⟨by omega, by omega⟩, ⟨by omega, by omega⟩, .inr ⟨A, B, C, M, r', hg, ⟨by omega, by omega⟩, ⟨by omega, by omega⟩, hM.1, hM.2, ?_⟩⟩
        walk_at "g"
        refine G.iteNY (blE (rest_moved q1 q2)) ?_
        walk_at "g"
        exact ⟨_, _, _, rfl, rfl⟩
    rintro σ' H' ⟨u, v, w, rfl, rfl⟩
    walk_at "g"
    refine G.newT (by simp) fun w5 H15 _ s15 hw5 => ?_
    walk_at "g"
    refine G.newT (by simp) fun w6 H16 _ s16 hw6 => ?_
    refine G.eqD (k := true) (dp3 (by walk_at "hp")) (dp3 hw6) (shaped3 ..) (shaped3 ..) (by rw [eqv3]; simp) ?_
    walk_at "g"
    exact k H16 ((K5.then s15).then s16) (((pe5.mono (by omega)).same s15).same s16)
end
end Lw
local macro_rules | `(tactic| walk_at "hp") => `(tactic| first
  | assumption
  | exact L2.upd_same
  | (refine G.sget (by assumption) ?_; walk_at "hp")
  | (refine G.kget (by assumption) ?_ ?_; (· walk_at "hp"); (· intro _ h; cases h)))
local macro_rules | `(tactic| walk_at "s") => `(tactic| first
  | (with_reducible refine G.seq ?_)
  | (with_reducible refine G.nx ?_)
  | (with_reducible refine G.rt ?_)
  | (with_reducible refine G.next ?_)
  | (with_reducible refine G.asg ?_)
  | (with_reducible refine G.asgG ?_)
  | ((with_reducible refine' G.gtup ?h ?l ?q); (case h => walk_at "hp"); (case l => rfl))
  | (with_reducible refine G.gcons ?_)
  | (with_reducible refine G.gnil ?_)
  | (with_reducible refine G.gname ?_)
  | (with_reducible refine G.inst ?_)
  | (with_reducible refine G.refV ?_)
  | (with_reducible refine G.xf ?_)
  | ((with_reducible refine' G.xfV ?h ?l ?q); (case h => walk_at "hp"); (case l => walk_at "xk"))
  | (with_reducible refine G.ret ?_)
  | (with_reducible refine G.ifS ?_)
  | (with_reducible refine G.drop ?_)
  | ((with_reducible refine' G.var ?h ?q); (case h => rfl))
  | (with_reducible refine G.cst ?_)
  | (with_reducible refine G.op ?_)
  | (with_reducible refine G.un ?_)
  | (with_reducible refine G.I0 ?_)
  | (with_reducible refine G.U1 ?_)
  | ((with_reducible refine G.fdiv ?_ ?_ ?_); (· omega); (· omega))
  | ((with_reducible refine G.md ?_ ?_); (· omega))
  | ((with_reducible refine G.mulL ?_ ?_ ?_); (· omega); (· omega))
  | ((with_reducible refine G.mulR ?_ ?_ ?_); (· omega); (· omega))
  | ((with_reducible refine G.mulW ?_ ?_ ?_ ?_ ?_); (· omega); (· omega); (· omega); (· omega))
  | (with_reducible refine G.pow18 ?_)
  | (with_reducible refine G.pow6 ?_)
  | (with_reducible refine G.pow30 ?_)
  | (with_reducible refine G.pow29 ?_)
  | (with_reducible refine G.pow3 ?_)
  | (with_reducible refine G.eqI ?_)
  | (with_reducible refine G.neI ?_)
  | ((with_reducible refine G.eq ?_ ?_); (· rfl))
  | ((with_reducible refine G.ne ?_ ?_); (· rfl))
  | (with_reducible refine G.isN ?_)
  | (with_reducible refine G.notN ?_)
  | (with_reducible refine G.test ?_)
  | (with_reducible refine G.tBv ?_)
  | (with_reducible refine G.bl ?_)
  | (with_reducible refine G.and ?_)
  | (with_reducible refine G.or ?_)
  | (with_reducible refine G.not ?_)
  | (with_reducible refine G.andV ?_)
  | (with_reducible refine G.orV ?_)
  | (with_reducible refine G.notV ?_)
  | (with_reducible refine G.ifE ?_)
  | (with_reducible refine G.nil ?_)
  | (with_reducible refine G.cons ?_)
  | (with_reducible refine G.tup ?_)
  | (with_reducible refine G.lst ?_)
  | (with_reducible refine G.fld ?_)
  | (with_reducible refine G.call ?_)
  | (with_reducible refine G.cb ?_)
  | (with_reducible refine G.make ?_)
  | (with_reducible refine G.dget ?_)
  | (with_reducible refine G.dput ?_)
  | (with_reducible refine G.fldS ?_)
  | (with_reducible refine G.abs ?_)
  | (with_reducible refine G.max2 ?_)
  | (with_reducible refine G.min2 ?_)
  | (with_reducible refine G.int1 ?_)
  | (with_reducible refine G.own ?_)
  | (with_reducible refine G.ownR ?_)
  | (with_reducible refine G.meth ?_)
  | (with_reducible refine G.par ?_)
  | (with_reducible refine G.par3 ?_)
  | (with_reducible refine G.parV ?_)
  | (with_reducible refine G.parV3 ?_)
  | (with_reducible refine G.forR ?_)
  | (with_reducible refine G.forZ ?_)
  | (with_reducible refine G.forT ?_)
  | (with_reducible refine G.forL ?_)
  | (with_reducible refine G.methU ?_)
  | (with_reducible refine G.sl ?_)
  | (with_reducible refine G.noPart ?_)
  | (with_reducible refine G.part ?_)
  | (with_reducible refine G.partV ?_)
  | (with_reducible refine G.raiseE ?_)
  | (with_reducible refine G.iteT' ?_)
  | (with_reducible refine G.iteNT ?_)
  | (with_reducible refine G.iteNF ?_)
  | (with_reducible refine G.iteF' ?_)
  | ((with_reducible refine' G.dgetS ?h ?l ?q); (case h => walk_at "hp"); (case l => walk_at "dk"))
  | ((with_reducible refine' G.lenL ?h ?q); (case h => walk_at "hp"))
  | ((with_reducible refine' G.lenT ?h ?q); (case h => walk_at "hp"))
  | ((with_reducible refine' G.fldV ?h ?c ?n ?l ?q); (case h => walk_at "hp"); (case c => walk_at "cls"); (case n => walk_at "na"); (case l => walk_at "lk"))
  | ((with_reducible refine' G.fldSV ?h ?c ?n ?l ?q); (case h => walk_at "hp"); (case c => walk_at "cls"); (case n => walk_at "na"); (case l => walk_at "ln")))
local macro_rules | `(tactic| walk_at "g") => `(tactic| repeat (walk_at "s"))
namespace Lw
open PySem L2
local macro_rules | `(tactic| walk_at "cls") => `(tactic| first | exact Lw.Txt.cl_Straight (by assumption) | exact Lw.Txt.cl_AtLeast (by assumption) | exact Lw.Txt.cl_Rest (by assumption))
local macro_rules | `(tactic| walk_at "na") => `(tactic| first | exact Lw.Txt.na_Straight_i (by assumption) | exact Lw.Txt.na_Straight_n (by assumption) | exact Lw.Txt.na_Straight_one (by assumption) | exact Lw.Txt.na_AtLeast_straight (by assumption) | exact Lw.Txt.na_Rest_straight (by assumption) | exact Lw.Txt.na_Rest_modulus (by assumption) | exact Lw.Txt.na_Rest_rest (by assumption))
local macro_rules | `(tactic| walk_at "lk") => `(tactic| first | exact Lw.fStraight_i _ _ _ | exact Lw.fStraight_n _ _ _ | exact Lw.fStraight_one _ _ _ | exact Lw.fAtLeast_straight _ | exact Lw.fRest_straight _ _ _ | exact Lw.fRest_modulus _ _ _ | exact Lw.fRest_rest _ _ _)
local macro_rules | `(tactic| walk_at "ln") => `(tactic| first | (show 0 < 1000; decide) | (show 1 < 1000; decide) | (show 2 < 1000; decide) | (show 3 < 1000; decide) | (show 4 < 1000; decide))
section
variable {P : Program} {w : World} {K : PySem.W.Frag} {mg : Str → Option Value} {base : Heap} {a : Ad}
def spLaw (K : PySem.W.Frag) : Sp := fun vs H Q _ => ∃ (s : Addr) (ns : List Int), vs = [.ref s] ∧ SqL K H s (ns.map V.int) ∧ ∀ H', Q (.bl true) H'
theorem shapedM (y : Int) : SeqAt.shaped (.tuple [.str "modulus", .int y]) = true := by kernel_rfl
theorem shapedR (y : Int) : SeqAt.shaped (.tuple [.str "rest", .int y]) = true := by kernel_rfl
theorem dpS {K : PySem.W.Frag} {H : Hp} {p : Addr} {x : Str} {y : Int} (h : H p = some (.tup [.str x, .int y])) : Dp K H (.ref p) (.tuple [.str x, .int y]) := G.dpT h (.cons (.str _) (.cons (.int _) .nil))
theorem bads {j : Int} (h0 : 0 ≤ j) (h1 : j < 5) : ∃ b, atI [V.int 1, .int 0, .int 5, .int (-2), .int 12] j = some (.int b) ∧ (b < 2 ∨ 4 < b) := by
  have h : j = 0 ∨ j = 1 ∨ j = 2 ∨ j = 3 ∨ j = 4 := by omega
  rcases h with rfl | rfl | rfl | rfl | rfl
  · exact ⟨1, rfl, by omega⟩
  · exact ⟨0, rfl, by omega⟩
  · exact ⟨5, rfl, by omega⟩
  · exact ⟨-2, rfl, by omega⟩
  · exact ⟨12, rfl, by omega⟩
theorem rests {j m : Int} (hm : 2 ≤ m ∧ m ≤ 4) (h0 : 0 ≤ j) (h1 : j < 4) : ∃ b, atI [V.int (-1), .int m, .int (m + 7), .int (-m)] j = some (.int b) ∧ (b < 0 ∨ m ≤ b) := by
  have h : j = 0 ∨ j = 1 ∨ j = 2 ∨ j = 3 := by omega
  rcases h with rfl | rfl | rfl | rfl
  · exact ⟨-1, rfl, by omega⟩
  · exact ⟨m, rfl, by omega⟩
  · exact ⟨m + 7, rfl, by omega⟩
  · exact ⟨-m, rfl, by omega⟩
theorem ok_law (T : Txt P K mg a) : FnOk P w K mg base CX0 8 a.a_law a.d_law ["_law_script"] (spLaw K) := by
  refine T.F_law.ok sc_law (fun vs H Q E h => ?_) (fun cdv A outer s H vs Q E hr h => ?_)
  · obtain ⟨s, ns, rfl, _⟩ := h
    rfl
  · obtain ⟨sc, ns, rfl, hs, k⟩ := h
    refine ⟨_, (pss_cons (ps_set (i := 1) sc_law.nd rfl (Or.inl rfl) (pe_callS (ok_pen T) (hr.mono (by decide)) rfl T.g_pen T.F_pen.kp T.b_pen pass0S (pa_cons (pv 0) pa_nil)))
      (pss_cons (ps_for PassesOwn.never rfl (pi_range1 (by rfl) T.n_range (pa_cons (pe_op op_add pe_int (pe_callS (ok_draw T) (hr.mono (by decide)) rfl T.g_draw T.F_draw.kp T.b_draw pass0S (pa_cons (pv 1) (pa_cons pe_int pa_nil)))) pa_nil)) (pg_name (i := 2) sc_law.nd rfl (Or.inl rfl))
      (pss_one (ps_if (PW.pt (pw_or (pt_not (pt_val (pe_callS (ok_pair_right T) (hr.mono (by decide)) rfl T.g_pair_right T.F_pair_right.kp T.b_pair_right pass0S (pa_cons (pv 1) pa_nil)))) (pw_or1 (pt_not (pt_val (pe_callS (ok_guard_right T) (hr.mono (by decide)) rfl T.g_guard_right T.F_guard_right.kp T.b_guard_right pass0S (pa_cons (pv 1) pa_nil))))))) (pss_one (ps_ret pe_bl)) pss_nil)))
      (pss_cons (ps_par (i := 3) (j := 4) (by rfl) sc_law.nd rfl rfl (by decide) rfl rfl (pa_cons (pe_op op_add pe_int (pe_callS (ok_draw T) (hr.mono (by decide)) rfl T.g_draw T.F_draw.kp T.b_draw pass0S (pa_cons (pv 1) (pa_cons pe_int pa_nil)))) (pa_cons (pe_ix ix_list (pe_lst (pa_cons pe_int (pa_cons pe_int (pa_cons pe_int (pa_cons (pe_un un_neg pe_int) (pa_cons pe_int pa_nil)))))) (pe_callS (ok_draw T) (hr.mono (by decide)) rfl T.g_draw T.F_draw.kp T.b_draw pass0S (pa_cons (pv 1) (pa_cons pe_int pa_nil))) (fun _ _ => rfl)) pa_nil)) (by rfl))
      (pss_cons (ps_set (i := 5) sc_law.nd rfl (Or.inl rfl) (pe_ix ix_list (pe_lst (pa_cons (pe_un un_neg pe_int) (pa_cons (pv 3) (pa_cons (pe_op op_add (pv 3) pe_int) (pa_cons (pe_un un_neg (pv 3)) pa_nil))))) (pe_callS (ok_draw T) (hr.mono (by decide)) rfl T.g_draw T.F_draw.kp T.b_draw pass0S (pa_cons (pv 1) (pa_cons pe_int pa_nil))) (fun _ _ => rfl)))
      (pss_cons (ps_if (PW.pt (pw_or (pt_cmpR (op_neD hr.units) (pe_callS (ok_refused_rest T) (hr.mono (by decide)) rfl T.g_refused_rest T.F_refused_rest.kp T.b_refused_rest pass0S (pa_cons (pv 4) (pa_cons (pv 5) pa_nil))) (pe_tup (pa_cons pe_str (pa_cons (pv 4) pa_nil))) (nomark _)) (pw_or1 (pt_cmpR (op_neD hr.units) (pe_callS (ok_refused_rest T) (hr.mono (by decide)) rfl T.g_refused_rest T.F_refused_rest.kp T.b_refused_rest pass0S (pa_cons (pv 4) (pa_cons pe_int pa_nil))) (pe_tup (pa_cons pe_str (pa_cons (pv 4) pa_nil))) (nomark _))))) (pss_one (ps_ret pe_bl)) pss_nil)
      (pss_one (ps_ret (pe_and (pe_cmpR (op_eqD hr.units) (pe_callS (ok_refused_rest T) (hr.mono (by decide)) rfl T.g_refused_rest T.F_refused_rest.kp T.b_refused_rest pass0S (pa_cons (pv 3) (pa_cons (pv 5) pa_nil))) (pe_tup (pa_cons pe_str (pa_cons (pv 5) pa_nil))) (nomark _)) (pe_one (pe_cmpR G.oIsN (pe_callS (ok_refused_rest T) (hr.mono (by decide)) rfl T.g_refused_rest T.F_refused_rest.kp T.b_refused_rest pass0S (pa_cons (pv 3) (pa_cons (pe_op op_sub (pv 3) pe_int) pa_nil))) pe_non (nomark _))))))))))), ?_⟩
    walk_at "g"
    refine ⟨sc, ns, rfl, hs, fun p H1 s1 pe1 => ?_⟩
    walk_at "g"
    refine ⟨p, 3, 0, rfl, pe1, by omega, by omega, by omega, fun r H2 k2 pe2 r0 r1 => ?_⟩
    walk_at "g"
    refine G.forR1 (fun i σ H' => ∃ v : Option V, σ = [some (.ref sc), some (.ref p), v, none, none, none] ∧ Pen H' p (1 + 40000 * i)) (by omega) ⟨none, rfl, pe2.mono (by omega)⟩ ?_ ?_
    · rintro i σ H' hi ⟨v, rfl, pe3⟩
      walk_at "g"
      refine ⟨p, _, rfl, pe3, by omega, fun H4 k4 pe4 => ?_⟩
      walk_at "g"
      refine ⟨p, _, rfl, pe4, by omega, fun H5 k5 pe5 => ?_⟩
      walk_at "g"
      exact ⟨_, rfl, pe5.mono (by omega)⟩
    · rintro σ H' ⟨v, rfl, pe3⟩
      walk_at "g"
      refine ⟨p, 3, _, rfl, pe3, by omega, by omega, by omega, fun b H4 k4 pe4 b0 b1 => ?_⟩
      walk_at "g"
      refine G.newL (by simp) fun l1 H5 _ s5 hl1 => ?_
      walk_at "g"
      refine ⟨p, 5, _, rfl, pe4.same s5, by omega, by omega, by omega, fun j H6 k6 pe6 j0 j1 => ?_⟩
      walk_at "g"
      obtain ⟨bad, hbad, hb1⟩ := bads j0 j1
      refine G.ixL (by walk_at "hp") hbad ?_
      walk_at "g"
      refine G.newL (by simp) fun l2 H7 _ s7 hl2 => ?_
      walk_at "g"
      refine ⟨p, 4, _, rfl, pe6.same s7, by omega, by omega, by omega, fun j2 H8 k8 pe8 j3 j4 => ?_⟩
      walk_at "g"
      obtain ⟨rr, hrr, hr1⟩ := rests (m := 2 + b) ⟨by omega, by omega⟩ j3 j4
      refine G.ixL (by walk_at "hp") hrr ?_
      walk_at "g"
      refine ⟨bad, rr, rfl, fun _ q H9 s9 hq => ?_, fun h => by omega, fun h => by omega⟩
      walk_at "g"
      refine G.newT (by simp) fun w1 H10 _ s10 hw1 => ?_
      refine G.neD (k := true) (dpS (by walk_at "hp")) (dpS hw1) (shapedM ..) (shapedM ..) (by simp [PyData.eqv, PyData.eqvAll]) ?_
      walk_at "g"
      refine ⟨bad, 0, rfl, fun _ q H9 s9 hq => ?_, fun h => by omega, fun h => by omega⟩
      walk_at "g"
      refine G.newT (by simp) fun w2 H10 _ s10 hw2 => ?_
      refine G.neD (k := true) (dpS (by walk_at "hp")) (dpS hw2) (shapedM ..) (shapedM ..) (by simp [PyData.eqv, PyData.eqvAll]) ?_
      walk_at "g"
      refine ⟨2 + b, rr, rfl, fun h => by omega, fun _ q H9 s9 hq => ?_, fun h => by omega⟩
      walk_at "g"
      refine G.newT (by simp) fun w3 H10 _ s10 hw3 => ?_
      refine G.eqD (k := true) (dpS (by walk_at "hp")) (dpS hw3) (shapedR ..) (shapedR ..) (by simp [PyData.eqv, PyData.eqvAll]) ?_
      walk_at "g"
      refine ⟨2 + b, 2 + b - 1, rfl, fun h => by omega, fun h => by omega, fun _ H11 s11 => ?_⟩
      walk_at "g"
      exact k _
end
end Lw
namespace Lw
open PySem L2
theorem sup_BadNumber : PySem.ErrX.SupBody ["what", "number"] (defBody s_BadNumber_init) := ⟨_, _, _, _, _, _, _, _, _, rfl, (.cons (.cons .nil)), fun _ => _, fun env => rfl⟩
theorem all_mk {w : World} {K : PySem.W.Frag} {h : Heap} {mg : Str → Option Value} {fa a_common_divisor a_Straight_init a_Straight_call a_Straight_eq a_Straight_neg a_Straight_add a_Straight_radd a_Straight_sub a_Straight_rsub a_Straight_mul a_Straight_rmul a_Straight_replaced a_straight_of a_AtLeast_init a_AtLeast_holds a_AtLeast_replaced a_Rest_init a_Rest_holds a_Rest_replaced a_pen a_draw a_big a_between a_far a_divisor a_guard_due a_value a_guard_holds a_three a_is_sum a_pair_right a_guard_right a_refused_rest a_law C_LoopError C_BadNumber a_BadNumber_init C_Straight C_AtLeast C_Rest : Addr} (X : K.In h) (G : h.Ns mainGlobals mg) (hfa : mg "law" = some (.ref fa))
    {od_common_divisor an_common_divisor : Option Addr} {sl_common_divisor : Array (Option Value)} {oc_common_divisor kV_common_divisor dc_common_divisor pm_common_divisor cd_common_divisor ct_common_divisor : Value}
    {od_Straight_init an_Straight_init : Option Addr} {sl_Straight_init : Array (Option Value)} {oc_Straight_init kV_Straight_init dc_Straight_init pm_Straight_init cd_Straight_init ct_Straight_init : Value}
    {od_Straight_call an_Straight_call : Option Addr} {sl_Straight_call : Array (Option Value)} {oc_Straight_call kV_Straight_call dc_Straight_call pm_Straight_call cd_Straight_call ct_Straight_call : Value}
    {od_Straight_eq an_Straight_eq : Option Addr} {sl_Straight_eq : Array (Option Value)} {oc_Straight_eq kV_Straight_eq dc_Straight_eq pm_Straight_eq cd_Straight_eq ct_Straight_eq : Value}
    {od_Straight_neg an_Straight_neg : Option Addr} {sl_Straight_neg : Array (Option Value)} {oc_Straight_neg kV_Straight_neg dc_Straight_neg pm_Straight_neg cd_Straight_neg ct_Straight_neg : Value}
    {od_Straight_add an_Straight_add : Option Addr} {sl_Straight_add : Array (Option Value)} {oc_Straight_add kV_Straight_add dc_Straight_add pm_Straight_add cd_Straight_add ct_Straight_add : Value}
    {od_Straight_radd an_Straight_radd : Option Addr} {sl_Straight_radd : Array (Option Value)} {oc_Straight_radd kV_Straight_radd dc_Straight_radd pm_Straight_radd cd_Straight_radd ct_Straight_radd : Value}
    {od_Straight_sub an_Straight_sub : Option Addr} {sl_Straight_sub : Array (Option Value)} {oc_Straight_sub kV_Straight_sub dc_Straight_sub pm_Straight_sub cd_Straight_sub ct_Straight_sub : Value}
    {od_Straight_rsub an_Straight_rsub : Option Addr} {sl_Straight_rsub : Array (Option Value)} {oc_Straight_rsub kV_Straight_rsub dc_Straight_rsub pm_Straight_rsub cd_Straight_rsub ct_Straight_rsub : Value}
    {od_Straight_mul an_Straight_mul : Option Addr} {sl_Straight_mul : Array (Option Value)} {oc_Straight_mul kV_Straight_mul dc_Straight_mul pm_Straight_mul cd_Straight_mul ct_Straight_mul : Value}
    {od_Straight_rmul an_Straight_rmul : Option Addr} {sl_Straight_rmul : Array (Option Value)} {oc_Straight_rmul kV_Straight_rmul dc_Straight_rmul pm_Straight_rmul cd_Straight_rmul ct_Straight_rmul : Value}
    {od_Straight_replaced an_Straight_replaced : Option Addr} {sl_Straight_replaced : Array (Option Value)} {oc_Straight_replaced kV_Straight_replaced dc_Straight_replaced pm_Straight_replaced cd_Straight_replaced ct_Straight_replaced : Value}
    {od_straight_of an_straight_of : Option Addr} {sl_straight_of : Array (Option Value)} {oc_straight_of kV_straight_of dc_straight_of pm_straight_of cd_straight_of ct_straight_of : Value}
    {od_AtLeast_init an_AtLeast_init : Option Addr} {sl_AtLeast_init : Array (Option Value)} {oc_AtLeast_init kV_AtLeast_init dc_AtLeast_init pm_AtLeast_init cd_AtLeast_init ct_AtLeast_init : Value}
    {od_AtLeast_holds an_AtLeast_holds : Option Addr} {sl_AtLeast_holds : Array (Option Value)} {oc_AtLeast_holds kV_AtLeast_holds dc_AtLeast_holds pm_AtLeast_holds cd_AtLeast_holds ct_AtLeast_holds : Value}
    {od_AtLeast_replaced an_AtLeast_replaced : Option Addr} {sl_AtLeast_replaced : Array (Option Value)} {oc_AtLeast_replaced kV_AtLeast_replaced dc_AtLeast_replaced pm_AtLeast_replaced cd_AtLeast_replaced ct_AtLeast_replaced : Value}
    {od_Rest_init an_Rest_init : Option Addr} {sl_Rest_init : Array (Option Value)} {oc_Rest_init kV_Rest_init dc_Rest_init pm_Rest_init cd_Rest_init ct_Rest_init : Value}
    {od_Rest_holds an_Rest_holds : Option Addr} {sl_Rest_holds : Array (Option Value)} {oc_Rest_holds kV_Rest_holds dc_Rest_holds pm_Rest_holds cd_Rest_holds ct_Rest_holds : Value}
    {od_Rest_replaced an_Rest_replaced : Option Addr} {sl_Rest_replaced : Array (Option Value)} {oc_Rest_replaced kV_Rest_replaced dc_Rest_replaced pm_Rest_replaced cd_Rest_replaced ct_Rest_replaced : Value}
    {od_pen an_pen : Option Addr} {sl_pen : Array (Option Value)} {oc_pen kV_pen dc_pen pm_pen cd_pen ct_pen : Value}
    {od_draw an_draw : Option Addr} {sl_draw : Array (Option Value)} {oc_draw kV_draw dc_draw pm_draw cd_draw ct_draw : Value}
    {od_big an_big : Option Addr} {sl_big : Array (Option Value)} {oc_big kV_big dc_big pm_big cd_big ct_big : Value}
    {od_between an_between : Option Addr} {sl_between : Array (Option Value)} {oc_between kV_between dc_between pm_between cd_between ct_between : Value}
    {od_far an_far : Option Addr} {sl_far : Array (Option Value)} {oc_far kV_far dc_far pm_far cd_far ct_far : Value}
    {od_divisor an_divisor : Option Addr} {sl_divisor : Array (Option Value)} {oc_divisor kV_divisor dc_divisor pm_divisor cd_divisor ct_divisor : Value}
    {od_guard_due an_guard_due : Option Addr} {sl_guard_due : Array (Option Value)} {oc_guard_due kV_guard_due dc_guard_due pm_guard_due cd_guard_due ct_guard_due : Value}
    {od_value an_value : Option Addr} {sl_value : Array (Option Value)} {oc_value kV_value dc_value pm_value cd_value ct_value : Value}
    {od_guard_holds an_guard_holds : Option Addr} {sl_guard_holds : Array (Option Value)} {oc_guard_holds kV_guard_holds dc_guard_holds pm_guard_holds cd_guard_holds ct_guard_holds : Value}
    {od_three an_three : Option Addr} {sl_three : Array (Option Value)} {oc_three kV_three dc_three pm_three cd_three ct_three : Value}
    {od_is_sum an_is_sum : Option Addr} {sl_is_sum : Array (Option Value)} {oc_is_sum kV_is_sum dc_is_sum pm_is_sum cd_is_sum ct_is_sum : Value}
    {od_pair_right an_pair_right : Option Addr} {sl_pair_right : Array (Option Value)} {oc_pair_right kV_pair_right dc_pair_right pm_pair_right cd_pair_right ct_pair_right : Value}
    {od_guard_right an_guard_right : Option Addr} {sl_guard_right : Array (Option Value)} {oc_guard_right kV_guard_right dc_guard_right pm_guard_right cd_guard_right ct_guard_right : Value}
    {od_refused_rest an_refused_rest : Option Addr} {sl_refused_rest : Array (Option Value)} {oc_refused_rest kV_refused_rest dc_refused_rest pm_refused_rest cd_refused_rest ct_refused_rest : Value}
    {od_law an_law : Option Addr} {sl_law : Array (Option Value)} {oc_law kV_law dc_law pm_law cd_law ct_law : Value}
    {nm_BadNumber q_BadNumber : Str} {N_BadNumber : Addr} {bs_BadNumber bm_BadNumber : List Value} {sn_BadNumber : List Str} {sub_BadNumber : List Value} {ab_BadNumber : Bool} {col_BadNumber : Option Bool} {dd_BadNumber : Option Addr} {k0_BadNumber k1_BadNumber k2_BadNumber k3_BadNumber k5_BadNumber : Option Value}
    {oc_BadNumber kV_BadNumber dc_BadNumber pm_BadNumber ct_BadNumber : Value} {od_BadNumber an_BadNumber : Option Addr} {sl_BadNumber : Array (Option Value)} {cc_BadNumber cda_BadNumber : Addr} {ccl_BadNumber cl_BadNumber : Value} {cdd_BadNumber cld_BadNumber : Option Addr} {ccs_BadNumber csl_BadNumber : Array (Option Value)} {vs_BadNumber : Array Value} {fl_BadNumber : Str} {tok_BadNumber : Tok}
    {rc_Straight_add fo_Straight_add ro_Straight_add : Option Value}
    {rc_Straight_sub fo_Straight_sub ro_Straight_sub : Option Value}
    {rc_Straight_mul fo_Straight_mul ro_Straight_mul : Option Value}
    (n_LoopError : PySem.W.nsIn K mainGlobals "LoopError" = some (some (.ref C_LoopError)))
    (n_BadNumber : PySem.W.nsIn K mainGlobals "BadNumber" = some (some (.ref C_BadNumber)))
    (n_Straight : PySem.W.nsIn K mainGlobals "Straight" = some (some (.ref C_Straight)))
    (n_AtLeast : PySem.W.nsIn K mainGlobals "AtLeast" = some (some (.ref C_AtLeast)))
    (n_Rest : PySem.W.nsIn K mainGlobals "Rest" = some (some (.ref C_Rest)))
    (n_common_divisor : PySem.W.nsIn K mainGlobals "common_divisor" = some (some (.ref a_common_divisor)))
    (l_common_divisor : K.lookup a_common_divisor = some ⟨oc_common_divisor, od_common_divisor, .func (PySem.W.fnOf "common_divisor" "common_divisor" (defArgs s_common_divisor) (defBody s_common_divisor) (defScope s_common_divisor) .none kV_common_divisor dc_common_divisor pm_common_divisor an_common_divisor cd_common_divisor ct_common_divisor), sl_common_divisor⟩)
    (c_common_divisor : PySem.W.codeIn K cd_common_divisor "common_divisor" = true)
    (k_common_divisor : PySem.W.keepIn K (.ref a_common_divisor) = true)
    (n_Straight_init : PySem.W.findIn K (.ref C_Straight) "__init__" = some (some (.ref a_Straight_init)))
    (i_Straight_init : PySem.W.isFn K (.ref a_Straight_init) = true)
    (l_Straight_init : K.lookup a_Straight_init = some ⟨oc_Straight_init, od_Straight_init, .func (PySem.W.fnOf "__init__" "Straight.__init__" (defArgs s_Straight_init) (defBody s_Straight_init) (defScope s_Straight_init) .none kV_Straight_init dc_Straight_init pm_Straight_init an_Straight_init cd_Straight_init ct_Straight_init), sl_Straight_init⟩)
    (c_Straight_init : PySem.W.codeIn K cd_Straight_init "Straight.__init__" = true)
    (k_Straight_init : PySem.W.keepIn K (.ref a_Straight_init) = true)
    (n_Straight_call : PySem.W.findIn K (.ref C_Straight) "__call__" = some (some (.ref a_Straight_call)))
    (i_Straight_call : PySem.W.isFn K (.ref a_Straight_call) = true)
    (fi_Straight_call : PySem.W.fnIn K a_Straight_call = true)
    (l_Straight_call : K.lookup a_Straight_call = some ⟨oc_Straight_call, od_Straight_call, .func (PySem.W.fnOf "__call__" "Straight.__call__" (defArgs s_Straight_call) (defBody s_Straight_call) (defScope s_Straight_call) .none kV_Straight_call dc_Straight_call pm_Straight_call an_Straight_call cd_Straight_call ct_Straight_call), sl_Straight_call⟩)
    (c_Straight_call : PySem.W.codeIn K cd_Straight_call "Straight.__call__" = true)
    (k_Straight_call : PySem.W.keepIn K (.ref a_Straight_call) = true)
    (n_Straight_eq : PySem.W.findIn K (.ref C_Straight) "__eq__" = some (some (.ref a_Straight_eq)))
    (i_Straight_eq : PySem.W.isFn K (.ref a_Straight_eq) = true)
    (l_Straight_eq : K.lookup a_Straight_eq = some ⟨oc_Straight_eq, od_Straight_eq, .func (PySem.W.fnOf "__eq__" "Straight.__eq__" (defArgs s_Straight_eq) (defBody s_Straight_eq) (defScope s_Straight_eq) .none kV_Straight_eq dc_Straight_eq pm_Straight_eq an_Straight_eq cd_Straight_eq ct_Straight_eq), sl_Straight_eq⟩)
    (c_Straight_eq : PySem.W.codeIn K cd_Straight_eq "Straight.__eq__" = true)
    (k_Straight_eq : PySem.W.keepIn K (.ref a_Straight_eq) = true)
    (n_Straight_neg : PySem.W.findIn K (.ref C_Straight) "__neg__" = some (some (.ref a_Straight_neg)))
    (i_Straight_neg : PySem.W.isFn K (.ref a_Straight_neg) = true)
    (l_Straight_neg : K.lookup a_Straight_neg = some ⟨oc_Straight_neg, od_Straight_neg, .func (PySem.W.fnOf "__neg__" "Straight.__neg__" (defArgs s_Straight_neg) (defBody s_Straight_neg) (defScope s_Straight_neg) .none kV_Straight_neg dc_Straight_neg pm_Straight_neg an_Straight_neg cd_Straight_neg ct_Straight_neg), sl_Straight_neg⟩)
    (c_Straight_neg : PySem.W.codeIn K cd_Straight_neg "Straight.__neg__" = true)
    (k_Straight_neg : PySem.W.keepIn K (.ref a_Straight_neg) = true)
    (n_Straight_add : PySem.W.findIn K (.ref C_Straight) "__add__" = some (some (.ref a_Straight_add)))
    (i_Straight_add : PySem.W.isFn K (.ref a_Straight_add) = true)
    (l_Straight_add : K.lookup a_Straight_add = some ⟨oc_Straight_add, od_Straight_add, .func (PySem.W.fnOf "__add__" "Straight.__add__" (defArgs s_Straight_add) (defBody s_Straight_add) (defScope s_Straight_add) .none kV_Straight_add dc_Straight_add pm_Straight_add an_Straight_add cd_Straight_add ct_Straight_add), sl_Straight_add⟩)
    (c_Straight_add : PySem.W.codeIn K cd_Straight_add "Straight.__add__" = true)
    (k_Straight_add : PySem.W.keepIn K (.ref a_Straight_add) = true)
    (n_Straight_radd : PySem.W.findIn K (.ref C_Straight) "__radd__" = some (some (.ref a_Straight_radd)))
    (i_Straight_radd : PySem.W.isFn K (.ref a_Straight_radd) = true)
    (l_Straight_radd : K.lookup a_Straight_radd = some ⟨oc_Straight_radd, od_Straight_radd, .func (PySem.W.fnOf "__radd__" "Straight.__radd__" (defArgs s_Straight_radd) (defBody s_Straight_radd) (defScope s_Straight_radd) .none kV_Straight_radd dc_Straight_radd pm_Straight_radd an_Straight_radd cd_Straight_radd ct_Straight_radd), sl_Straight_radd⟩)
    (c_Straight_radd : PySem.W.codeIn K cd_Straight_radd "Straight.__radd__" = true)
    (k_Straight_radd : PySem.W.keepIn K (.ref a_Straight_radd) = true)
    (n_Straight_sub : PySem.W.findIn K (.ref C_Straight) "__sub__" = some (some (.ref a_Straight_sub)))
    (i_Straight_sub : PySem.W.isFn K (.ref a_Straight_sub) = true)
    (l_Straight_sub : K.lookup a_Straight_sub = some ⟨oc_Straight_sub, od_Straight_sub, .func (PySem.W.fnOf "__sub__" "Straight.__sub__" (defArgs s_Straight_sub) (defBody s_Straight_sub) (defScope s_Straight_sub) .none kV_Straight_sub dc_Straight_sub pm_Straight_sub an_Straight_sub cd_Straight_sub ct_Straight_sub), sl_Straight_sub⟩)
    (c_Straight_sub : PySem.W.codeIn K cd_Straight_sub "Straight.__sub__" = true)
    (k_Straight_sub : PySem.W.keepIn K (.ref a_Straight_sub) = true)
    (n_Straight_rsub : PySem.W.findIn K (.ref C_Straight) "__rsub__" = some (some (.ref a_Straight_rsub)))
    (i_Straight_rsub : PySem.W.isFn K (.ref a_Straight_rsub) = true)
    (l_Straight_rsub : K.lookup a_Straight_rsub = some ⟨oc_Straight_rsub, od_Straight_rsub, .func (PySem.W.fnOf "__rsub__" "Straight.__rsub__" (defArgs s_Straight_rsub) (defBody s_Straight_rsub) (defScope s_Straight_rsub) .none kV_Straight_rsub dc_Straight_rsub pm_Straight_rsub an_Straight_rsub cd_Straight_rsub ct_Straight_rsub), sl_Straight_rsub⟩)
    (c_Straight_rsub : PySem.W.codeIn K cd_Straight_rsub "Straight.__rsub__" = true)
    (k_Straight_rsub : PySem.W.keepIn K (.ref a_Straight_rsub) = true)
    (n_Straight_mul : PySem.W.findIn K (.ref C_Straight) "__mul__" = some (some (.ref a_Straight_mul)))
    (i_Straight_mul : PySem.W.isFn K (.ref a_Straight_mul) = true)
    (l_Straight_mul : K.lookup a_Straight_mul = some ⟨oc_Straight_mul, od_Straight_mul, .func (PySem.W.fnOf "__mul__" "Straight.__mul__" (defArgs s_Straight_mul) (defBody s_Straight_mul) (defScope s_Straight_mul) .none kV_Straight_mul dc_Straight_mul pm_Straight_mul an_Straight_mul cd_Straight_mul ct_Straight_mul), sl_Straight_mul⟩)
    (c_Straight_mul : PySem.W.codeIn K cd_Straight_mul "Straight.__mul__" = true)
    (k_Straight_mul : PySem.W.keepIn K (.ref a_Straight_mul) = true)
    (n_Straight_rmul : PySem.W.findIn K (.ref C_Straight) "__rmul__" = some (some (.ref a_Straight_rmul)))
    (i_Straight_rmul : PySem.W.isFn K (.ref a_Straight_rmul) = true)
    (l_Straight_rmul : K.lookup a_Straight_rmul = some ⟨oc_Straight_rmul, od_Straight_rmul, .func (PySem.W.fnOf "__rmul__" "Straight.__rmul__" (defArgs s_Straight_rmul) (defBody s_Straight_rmul) (defScope s_Straight_rmul) .none kV_Straight_rmul dc_Straight_rmul pm_Straight_rmul an_Straight_rmul cd_Straight_rmul ct_Straight_rmul), sl_Straight_rmul⟩)
    (c_Straight_rmul : PySem.W.codeIn K cd_Straight_rmul "Straight.__rmul__" = true)
    (k_Straight_rmul : PySem.W.keepIn K (.ref a_Straight_rmul) = true)
    (n_Straight_replaced : PySem.W.findIn K (.ref C_Straight) "replaced" = some (some (.ref a_Straight_replaced)))
    (i_Straight_replaced : PySem.W.isFn K (.ref a_Straight_replaced) = true)
    (l_Straight_replaced : K.lookup a_Straight_replaced = some ⟨oc_Straight_replaced, od_Straight_replaced, .func (PySem.W.fnOf "replaced" "Straight.replaced" (defArgs s_Straight_replaced) (defBody s_Straight_replaced) (defScope s_Straight_replaced) .none kV_Straight_replaced dc_Straight_replaced pm_Straight_replaced an_Straight_replaced cd_Straight_replaced ct_Straight_replaced), sl_Straight_replaced⟩)
    (c_Straight_replaced : PySem.W.codeIn K cd_Straight_replaced "Straight.replaced" = true)
    (k_Straight_replaced : PySem.W.keepIn K (.ref a_Straight_replaced) = true)
    (n_straight_of : PySem.W.nsIn K mainGlobals "straight_of" = some (some (.ref a_straight_of)))
    (l_straight_of : K.lookup a_straight_of = some ⟨oc_straight_of, od_straight_of, .func (PySem.W.fnOf "straight_of" "straight_of" (defArgs s_straight_of) (defBody s_straight_of) (defScope s_straight_of) .none kV_straight_of dc_straight_of pm_straight_of an_straight_of cd_straight_of ct_straight_of), sl_straight_of⟩)
    (c_straight_of : PySem.W.codeIn K cd_straight_of "straight_of" = true)
    (k_straight_of : PySem.W.keepIn K (.ref a_straight_of) = true)
    (n_AtLeast_init : PySem.W.findIn K (.ref C_AtLeast) "__init__" = some (some (.ref a_AtLeast_init)))
    (i_AtLeast_init : PySem.W.isFn K (.ref a_AtLeast_init) = true)
    (l_AtLeast_init : K.lookup a_AtLeast_init = some ⟨oc_AtLeast_init, od_AtLeast_init, .func (PySem.W.fnOf "__init__" "AtLeast.__init__" (defArgs s_AtLeast_init) (defBody s_AtLeast_init) (defScope s_AtLeast_init) .none kV_AtLeast_init dc_AtLeast_init pm_AtLeast_init an_AtLeast_init cd_AtLeast_init ct_AtLeast_init), sl_AtLeast_init⟩)
    (c_AtLeast_init : PySem.W.codeIn K cd_AtLeast_init "AtLeast.__init__" = true)
    (k_AtLeast_init : PySem.W.keepIn K (.ref a_AtLeast_init) = true)
    (n_AtLeast_holds : PySem.W.findIn K (.ref C_AtLeast) "holds" = some (some (.ref a_AtLeast_holds)))
    (i_AtLeast_holds : PySem.W.isFn K (.ref a_AtLeast_holds) = true)
    (l_AtLeast_holds : K.lookup a_AtLeast_holds = some ⟨oc_AtLeast_holds, od_AtLeast_holds, .func (PySem.W.fnOf "holds" "AtLeast.holds" (defArgs s_AtLeast_holds) (defBody s_AtLeast_holds) (defScope s_AtLeast_holds) .none kV_AtLeast_holds dc_AtLeast_holds pm_AtLeast_holds an_AtLeast_holds cd_AtLeast_holds ct_AtLeast_holds), sl_AtLeast_holds⟩)
    (c_AtLeast_holds : PySem.W.codeIn K cd_AtLeast_holds "AtLeast.holds" = true)
    (k_AtLeast_holds : PySem.W.keepIn K (.ref a_AtLeast_holds) = true)
    (n_AtLeast_replaced : PySem.W.findIn K (.ref C_AtLeast) "replaced" = some (some (.ref a_AtLeast_replaced)))
    (i_AtLeast_replaced : PySem.W.isFn K (.ref a_AtLeast_replaced) = true)
    (l_AtLeast_replaced : K.lookup a_AtLeast_replaced = some ⟨oc_AtLeast_replaced, od_AtLeast_replaced, .func (PySem.W.fnOf "replaced" "AtLeast.replaced" (defArgs s_AtLeast_replaced) (defBody s_AtLeast_replaced) (defScope s_AtLeast_replaced) .none kV_AtLeast_replaced dc_AtLeast_replaced pm_AtLeast_replaced an_AtLeast_replaced cd_AtLeast_replaced ct_AtLeast_replaced), sl_AtLeast_replaced⟩)
    (c_AtLeast_replaced : PySem.W.codeIn K cd_AtLeast_replaced "AtLeast.replaced" = true)
    (k_AtLeast_replaced : PySem.W.keepIn K (.ref a_AtLeast_replaced) = true)
    (n_Rest_init : PySem.W.findIn K (.ref C_Rest) "__init__" = some (some (.ref a_Rest_init)))
    (i_Rest_init : PySem.W.isFn K (.ref a_Rest_init) = true)
    (l_Rest_init : K.lookup a_Rest_init = some ⟨oc_Rest_init, od_Rest_init, .func (PySem.W.fnOf "__init__" "Rest.__init__" (defArgs s_Rest_init) (defBody s_Rest_init) (defScope s_Rest_init) .none kV_Rest_init dc_Rest_init pm_Rest_init an_Rest_init cd_Rest_init ct_Rest_init), sl_Rest_init⟩)
    (c_Rest_init : PySem.W.codeIn K cd_Rest_init "Rest.__init__" = true)
    (k_Rest_init : PySem.W.keepIn K (.ref a_Rest_init) = true)
    (n_Rest_holds : PySem.W.findIn K (.ref C_Rest) "holds" = some (some (.ref a_Rest_holds)))
    (i_Rest_holds : PySem.W.isFn K (.ref a_Rest_holds) = true)
    (l_Rest_holds : K.lookup a_Rest_holds = some ⟨oc_Rest_holds, od_Rest_holds, .func (PySem.W.fnOf "holds" "Rest.holds" (defArgs s_Rest_holds) (defBody s_Rest_holds) (defScope s_Rest_holds) .none kV_Rest_holds dc_Rest_holds pm_Rest_holds an_Rest_holds cd_Rest_holds ct_Rest_holds), sl_Rest_holds⟩)
    (c_Rest_holds : PySem.W.codeIn K cd_Rest_holds "Rest.holds" = true)
    (k_Rest_holds : PySem.W.keepIn K (.ref a_Rest_holds) = true)
    (n_Rest_replaced : PySem.W.findIn K (.ref C_Rest) "replaced" = some (some (.ref a_Rest_replaced)))
    (i_Rest_replaced : PySem.W.isFn K (.ref a_Rest_replaced) = true)
    (l_Rest_replaced : K.lookup a_Rest_replaced = some ⟨oc_Rest_replaced, od_Rest_replaced, .func (PySem.W.fnOf "replaced" "Rest.replaced" (defArgs s_Rest_replaced) (defBody s_Rest_replaced) (defScope s_Rest_replaced) .none kV_Rest_replaced dc_Rest_replaced pm_Rest_replaced an_Rest_replaced cd_Rest_replaced ct_Rest_replaced), sl_Rest_replaced⟩)
    (c_Rest_replaced : PySem.W.codeIn K cd_Rest_replaced "Rest.replaced" = true)
    (k_Rest_replaced : PySem.W.keepIn K (.ref a_Rest_replaced) = true)
    (n_pen : PySem.W.nsIn K mainGlobals "_law_pen" = some (some (.ref a_pen)))
    (l_pen : K.lookup a_pen = some ⟨oc_pen, od_pen, .func (PySem.W.fnOf "_law_pen" "_law_pen" (defArgs s_pen) (defBody s_pen) (defScope s_pen) .none kV_pen dc_pen pm_pen an_pen cd_pen ct_pen), sl_pen⟩)
    (c_pen : PySem.W.codeIn K cd_pen "_law_pen" = true)
    (k_pen : PySem.W.keepIn K (.ref a_pen) = true)
    (n_draw : PySem.W.nsIn K mainGlobals "_law_draw" = some (some (.ref a_draw)))
    (l_draw : K.lookup a_draw = some ⟨oc_draw, od_draw, .func (PySem.W.fnOf "_law_draw" "_law_draw" (defArgs s_draw) (defBody s_draw) (defScope s_draw) .none kV_draw dc_draw pm_draw an_draw cd_draw ct_draw), sl_draw⟩)
    (c_draw : PySem.W.codeIn K cd_draw "_law_draw" = true)
    (k_draw : PySem.W.keepIn K (.ref a_draw) = true)
    (n_big : PySem.W.nsIn K mainGlobals "_law_big" = some (some (.ref a_big)))
    (l_big : K.lookup a_big = some ⟨oc_big, od_big, .func (PySem.W.fnOf "_law_big" "_law_big" (defArgs s_big) (defBody s_big) (defScope s_big) .none kV_big dc_big pm_big an_big cd_big ct_big), sl_big⟩)
    (c_big : PySem.W.codeIn K cd_big "_law_big" = true)
    (k_big : PySem.W.keepIn K (.ref a_big) = true)
    (n_between : PySem.W.nsIn K mainGlobals "_law_between" = some (some (.ref a_between)))
    (l_between : K.lookup a_between = some ⟨oc_between, od_between, .func (PySem.W.fnOf "_law_between" "_law_between" (defArgs s_between) (defBody s_between) (defScope s_between) .none kV_between dc_between pm_between an_between cd_between ct_between), sl_between⟩)
    (c_between : PySem.W.codeIn K cd_between "_law_between" = true)
    (k_between : PySem.W.keepIn K (.ref a_between) = true)
    (n_far : PySem.W.nsIn K mainGlobals "_law_far" = some (some (.ref a_far)))
    (l_far : K.lookup a_far = some ⟨oc_far, od_far, .func (PySem.W.fnOf "_law_far" "_law_far" (defArgs s_far) (defBody s_far) (defScope s_far) .none kV_far dc_far pm_far an_far cd_far ct_far), sl_far⟩)
    (c_far : PySem.W.codeIn K cd_far "_law_far" = true)
    (k_far : PySem.W.keepIn K (.ref a_far) = true)
    (n_divisor : PySem.W.nsIn K mainGlobals "_law_divisor" = some (some (.ref a_divisor)))
    (l_divisor : K.lookup a_divisor = some ⟨oc_divisor, od_divisor, .func (PySem.W.fnOf "_law_divisor" "_law_divisor" (defArgs s_divisor) (defBody s_divisor) (defScope s_divisor) .none kV_divisor dc_divisor pm_divisor an_divisor cd_divisor ct_divisor), sl_divisor⟩)
    (c_divisor : PySem.W.codeIn K cd_divisor "_law_divisor" = true)
    (k_divisor : PySem.W.keepIn K (.ref a_divisor) = true)
    (n_guard_due : PySem.W.nsIn K mainGlobals "_law_guard_due" = some (some (.ref a_guard_due)))
    (l_guard_due : K.lookup a_guard_due = some ⟨oc_guard_due, od_guard_due, .func (PySem.W.fnOf "_law_guard_due" "_law_guard_due" (defArgs s_guard_due) (defBody s_guard_due) (defScope s_guard_due) .none kV_guard_due dc_guard_due pm_guard_due an_guard_due cd_guard_due ct_guard_due), sl_guard_due⟩)
    (c_guard_due : PySem.W.codeIn K cd_guard_due "_law_guard_due" = true)
    (k_guard_due : PySem.W.keepIn K (.ref a_guard_due) = true)
    (n_value : PySem.W.nsIn K mainGlobals "_law_value" = some (some (.ref a_value)))
    (l_value : K.lookup a_value = some ⟨oc_value, od_value, .func (PySem.W.fnOf "_law_value" "_law_value" (defArgs s_value) (defBody s_value) (defScope s_value) .none kV_value dc_value pm_value an_value cd_value ct_value), sl_value⟩)
    (c_value : PySem.W.codeIn K cd_value "_law_value" = true)
    (k_value : PySem.W.keepIn K (.ref a_value) = true)
    (n_guard_holds : PySem.W.nsIn K mainGlobals "_law_guard_holds" = some (some (.ref a_guard_holds)))
    (l_guard_holds : K.lookup a_guard_holds = some ⟨oc_guard_holds, od_guard_holds, .func (PySem.W.fnOf "_law_guard_holds" "_law_guard_holds" (defArgs s_guard_holds) (defBody s_guard_holds) (defScope s_guard_holds) .none kV_guard_holds dc_guard_holds pm_guard_holds an_guard_holds cd_guard_holds ct_guard_holds), sl_guard_holds⟩)
    (c_guard_holds : PySem.W.codeIn K cd_guard_holds "_law_guard_holds" = true)
    (k_guard_holds : PySem.W.keepIn K (.ref a_guard_holds) = true)
    (n_three : PySem.W.nsIn K mainGlobals "_law_three" = some (some (.ref a_three)))
    (l_three : K.lookup a_three = some ⟨oc_three, od_three, .func (PySem.W.fnOf "_law_three" "_law_three" (defArgs s_three) (defBody s_three) (defScope s_three) .none kV_three dc_three pm_three an_three cd_three ct_three), sl_three⟩)
    (c_three : PySem.W.codeIn K cd_three "_law_three" = true)
    (k_three : PySem.W.keepIn K (.ref a_three) = true)
    (n_is_sum : PySem.W.nsIn K mainGlobals "_law_is_sum" = some (some (.ref a_is_sum)))
    (l_is_sum : K.lookup a_is_sum = some ⟨oc_is_sum, od_is_sum, .func (PySem.W.fnOf "_law_is_sum" "_law_is_sum" (defArgs s_is_sum) (defBody s_is_sum) (defScope s_is_sum) .none kV_is_sum dc_is_sum pm_is_sum an_is_sum cd_is_sum ct_is_sum), sl_is_sum⟩)
    (c_is_sum : PySem.W.codeIn K cd_is_sum "_law_is_sum" = true)
    (k_is_sum : PySem.W.keepIn K (.ref a_is_sum) = true)
    (n_pair_right : PySem.W.nsIn K mainGlobals "_law_pair_right" = some (some (.ref a_pair_right)))
    (l_pair_right : K.lookup a_pair_right = some ⟨oc_pair_right, od_pair_right, .func (PySem.W.fnOf "_law_pair_right" "_law_pair_right" (defArgs s_pair_right) (defBody s_pair_right) (defScope s_pair_right) .none kV_pair_right dc_pair_right pm_pair_right an_pair_right cd_pair_right ct_pair_right), sl_pair_right⟩)
    (c_pair_right : PySem.W.codeIn K cd_pair_right "_law_pair_right" = true)
    (k_pair_right : PySem.W.keepIn K (.ref a_pair_right) = true)
    (n_guard_right : PySem.W.nsIn K mainGlobals "_law_guard_right" = some (some (.ref a_guard_right)))
    (l_guard_right : K.lookup a_guard_right = some ⟨oc_guard_right, od_guard_right, .func (PySem.W.fnOf "_law_guard_right" "_law_guard_right" (defArgs s_guard_right) (defBody s_guard_right) (defScope s_guard_right) .none kV_guard_right dc_guard_right pm_guard_right an_guard_right cd_guard_right ct_guard_right), sl_guard_right⟩)
    (c_guard_right : PySem.W.codeIn K cd_guard_right "_law_guard_right" = true)
    (k_guard_right : PySem.W.keepIn K (.ref a_guard_right) = true)
    (n_refused_rest : PySem.W.nsIn K mainGlobals "_law_refused_rest" = some (some (.ref a_refused_rest)))
    (l_refused_rest : K.lookup a_refused_rest = some ⟨oc_refused_rest, od_refused_rest, .func (PySem.W.fnOf "_law_refused_rest" "_law_refused_rest" (defArgs s_refused_rest) (defBody s_refused_rest) (defScope s_refused_rest) .none kV_refused_rest dc_refused_rest pm_refused_rest an_refused_rest cd_refused_rest ct_refused_rest), sl_refused_rest⟩)
    (c_refused_rest : PySem.W.codeIn K cd_refused_rest "_law_refused_rest" = true)
    (k_refused_rest : PySem.W.keepIn K (.ref a_refused_rest) = true)
    (n_law : PySem.W.nsIn K mainGlobals "law" = some (some (.ref a_law)))
    (l_law : K.lookup a_law = some ⟨oc_law, od_law, .func (PySem.W.fnOf "law" "law" (defArgs s_law) (defBody s_law) (defScope s_law) .none kV_law dc_law pm_law an_law cd_law ct_law), sl_law⟩)
    (c_law : PySem.W.codeIn K cd_law "law" = true)
    (k_law : PySem.W.keepIn K (.ref a_law) = true)
    (xl_BadNumber : K.lookup C_BadNumber = some (excClassObj nm_BadNumber q_BadNumber C_BadNumber N_BadNumber bs_BadNumber bm_BadNumber true sn_BadNumber sub_BadNumber ab_BadNumber col_BadNumber dd_BadNumber k0_BadNumber k1_BadNumber k2_BadNumber k3_BadNumber k5_BadNumber "ValueError.__new__"))
    (rb_BadNumber : PySem.HandSPX.refsVE bm_BadNumber = true)
    (sa_BadNumber : PySem.W.findIn K (.ref C_BadNumber) "__setattr__" = some (some (.builtin "object.__setattr__")))
    (nf_BadNumber_what : PySem.W.findIn K (.ref C_BadNumber) "what" = some none)
    (nf_BadNumber_number : PySem.W.findIn K (.ref C_BadNumber) "number" = some none)
    (n_BadNumber_init : PySem.W.findIn K (.ref C_BadNumber) "__init__" = some (some (.ref a_BadNumber_init)))
    (tf_BadNumber : PySem.W.typeIn K (.ref a_BadNumber_init) = some (.type "function"))
    (kc_BadNumber : PySem.W.keepIn K (.ref C_BadNumber) = true)
    (ex_BadNumber : PySem.W.subIn K (.ref C_BadNumber) (.type "BaseException") = some true)
    (ve_BadNumber : PySem.W.subIn K (.ref C_BadNumber) (.type "ValueError") = some true)
    (ty_BadNumber : PySem.W.typeIn K (.ref C_BadNumber) = some (.type "type"))
    (sp_BadNumber : PySem.W.ks_superIn K C_BadNumber C_BadNumber "__init__" = some (some (.builtin "ValueError.__init__")))
    (mr_BadNumber : PySem.W.mroIn K C_BadNumber (.ref C_BadNumber) = some true)
    (l_BadNumber : K.lookup a_BadNumber_init = some ⟨oc_BadNumber, od_BadNumber, .func (PySem.W.ksFn "__init__" "BadNumber.__init__" (defArgs s_BadNumber_init) (defBody s_BadNumber_init) (defScope s_BadNumber_init) .none kV_BadNumber dc_BadNumber pm_BadNumber an_BadNumber (.ref cda_BadNumber) ct_BadNumber cc_BadNumber), sl_BadNumber⟩)
    (c_BadNumber : PySem.W.codeIn K (.ref cda_BadNumber) "BadNumber.__init__" = true)
    (hc_BadNumber : K.lookup cda_BadNumber = some ⟨ccl_BadNumber, cdd_BadNumber, .fields vs_BadNumber, ccs_BadNumber⟩)
    (hv_BadNumber : vs_BadNumber[2]? = some (.str fl_BadNumber tok_BadNumber))
    (hf_BadNumber : ((PySem.Challenge.pw_loopsize_k21_sums_and_conditions.main.file : Str) == fl_BadNumber) = true)
    (hl_BadNumber : K.lookup cc_BadNumber = some ⟨cl_BadNumber, cld_BadNumber, .cell (some (.ref C_BadNumber)), csl_BadNumber⟩)
    (ga_BadNumber : PySem.W.findIn K (.ref C_BadNumber) "__getattribute__" = some (some (.builtin "BaseException.__getattribute__")))
    (gg_BadNumber : PySem.W.findIn K (.ref C_BadNumber) "__getattr__" = some none)
    (hd_BadNumber : PySem.W.hasDictIn K C_BadNumber = true)
    (te_BadNumber : PySem.W.exmOne K (.ref C_BadNumber) (.ref C_BadNumber) = some true)
    (pg_Straight : PySem.W.plainGet K C_Straight Str.empty = true)
    (hd_Straight : PySem.W.hasDictIn K C_Straight = true)
    (po_Straight : PySem.W.plainOver K C_Straight = true)
    (sa_Straight : PySem.W.findIn K (.ref C_Straight) "__setattr__" = some (some (.builtin "object.__setattr__")))
    (mk_Straight : PySem.W.makesIn K C_Straight = true)
    (kc_Straight : PySem.W.keepIn K (.ref C_Straight) = true)
    (na_Straight_i : PySem.W.findIn K (.ref C_Straight) "i" = some none)
    (na_Straight_n : PySem.W.findIn K (.ref C_Straight) "n" = some none)
    (na_Straight_one : PySem.W.findIn K (.ref C_Straight) "one" = some none)
    (ca_Straight : PySem.W.findIn K (.ref C_Straight) "__class__" = some (some (.builtin "object.__class__")))
    (mo_Straight : PySem.W.mroIn K C_Straight (.type "object") = some true)
    (ne_Straight : PySem.W.findIn K (.ref C_Straight) "__ne__" = some (some (.builtin "object.__ne__")))
    (pg_AtLeast : PySem.W.plainGet K C_AtLeast Str.empty = true)
    (hd_AtLeast : PySem.W.hasDictIn K C_AtLeast = true)
    (po_AtLeast : PySem.W.plainOver K C_AtLeast = true)
    (sa_AtLeast : PySem.W.findIn K (.ref C_AtLeast) "__setattr__" = some (some (.builtin "object.__setattr__")))
    (mk_AtLeast : PySem.W.makesIn K C_AtLeast = true)
    (kc_AtLeast : PySem.W.keepIn K (.ref C_AtLeast) = true)
    (na_AtLeast_straight : PySem.W.findIn K (.ref C_AtLeast) "straight" = some none)
    (ca_AtLeast : PySem.W.findIn K (.ref C_AtLeast) "__class__" = some (some (.builtin "object.__class__")))
    (mo_AtLeast : PySem.W.mroIn K C_AtLeast (.type "object") = some true)
    (pg_Rest : PySem.W.plainGet K C_Rest Str.empty = true)
    (hd_Rest : PySem.W.hasDictIn K C_Rest = true)
    (po_Rest : PySem.W.plainOver K C_Rest = true)
    (sa_Rest : PySem.W.findIn K (.ref C_Rest) "__setattr__" = some (some (.builtin "object.__setattr__")))
    (mk_Rest : PySem.W.makesIn K C_Rest = true)
    (kc_Rest : PySem.W.keepIn K (.ref C_Rest) = true)
    (na_Rest_straight : PySem.W.findIn K (.ref C_Rest) "straight" = some none)
    (na_Rest_modulus : PySem.W.findIn K (.ref C_Rest) "modulus" = some none)
    (na_Rest_rest : PySem.W.findIn K (.ref C_Rest) "rest" = some none)
    (ca_Rest : PySem.W.findIn K (.ref C_Rest) "__class__" = some (some (.builtin "object.__class__")))
    (mo_Rest : PySem.W.mroIn K C_Rest (.type "object") = some true)
    (cg : PySem.W.specialIn K (.builtin "object.__class__") "__get__" = some (some (.builtin "getset_descriptor.__get__")))
    (ct : PySem.W.takesIn K (.builtin "object.__class__") = some true)
    (sup_ : PySem.W.nsIn K mainGlobals "super" = some none)
    (opq_ : PySem.W.nsIn K cStatics "thirdparty.any" = some none)
    (sf_Straight : PySem.W.selfFirst K C_Straight = true)
    (os_Straight : PySem.W.subIn K (.type "int") (.ref C_Straight) = some false)
    (ob_Straight : PySem.W.subIn K (.ref C_Straight) (.type "int") = some false)
    (or_Straight_add : PySem.W.findIn K (.ref C_Straight) (dunderR (Operator.Add).info.2) = some rc_Straight_add)
    (og_Straight_add : (rc_Straight_add = none ∨ ∃ g : Addr, rc_Straight_add = some (.ref g)))
    (of_Straight_add : PySem.W.findIn K (.type "int") (PySem.dunder (Operator.Add).info.2) = some fo_Straight_add)
    (oi_Straight_add : PySem.W.findIn K (.type "int") (dunderR (Operator.Add).info.2) = some ro_Straight_add)
    (or_Straight_sub : PySem.W.findIn K (.ref C_Straight) (dunderR (Operator.Sub).info.2) = some rc_Straight_sub)
    (og_Straight_sub : (rc_Straight_sub = none ∨ ∃ g : Addr, rc_Straight_sub = some (.ref g)))
    (of_Straight_sub : PySem.W.findIn K (.type "int") (PySem.dunder (Operator.Sub).info.2) = some fo_Straight_sub)
    (oi_Straight_sub : PySem.W.findIn K (.type "int") (dunderR (Operator.Sub).info.2) = some ro_Straight_sub)
    (or_Straight_mul : PySem.W.findIn K (.ref C_Straight) (dunderR (Operator.Mult).info.2) = some rc_Straight_mul)
    (og_Straight_mul : (rc_Straight_mul = none ∨ ∃ g : Addr, rc_Straight_mul = some (.ref g)))
    (of_Straight_mul : PySem.W.findIn K (.type "int") (PySem.dunder (Operator.Mult).info.2) = some fo_Straight_mul)
    (oi_Straight_mul : PySem.W.findIn K (.type "int") (dunderR (Operator.Mult).info.2) = some ro_Straight_mul)
    (ki_S_S : PySem.W.kitOne K (.ref C_Straight) (.ref C_Straight) = some true)
    (ki_int_S : PySem.W.kitOne K (.type "int") (.ref C_Straight) = some false)
    (ki_str_S : PySem.W.kitOne K (.type "str") (.ref C_Straight) = some false)
    (ki_tup_S : PySem.W.kitOne K (.type "tuple") (.ref C_Straight) = some false)
    (nf_S_int : PySem.W.notFirst K C_Straight (.type "int") = true)
    (nf_S_str : PySem.W.notFirst K C_Straight (.type "str") = true)
    (nf_S_tup : PySem.W.notFirst K C_Straight (.type "tuple") = true)
    (n_abs : PySem.W.nsIn K mainGlobals "abs" = some none)
    (n_bool : PySem.W.nsIn K mainGlobals "bool" = some none)
    (n_int : PySem.W.nsIn K mainGlobals "int" = some none)
    (n_isinstance : PySem.W.nsIn K mainGlobals "isinstance" = some none)
    (n_len : PySem.W.nsIn K mainGlobals "len" = some none)
    (n_list : PySem.W.nsIn K mainGlobals "list" = some none)
    (n_max : PySem.W.nsIn K mainGlobals "max" = some none)
    (n_min : PySem.W.nsIn K mainGlobals "min" = some none)
    (n_range : PySem.W.nsIn K mainGlobals "range" = some none)
    (n_str : PySem.W.nsIn K mainGlobals "str" = some none)
    (n_zip : PySem.W.nsIn K mainGlobals "zip" = some none)
    : ∃ fd : FuncData, (∀ (s : Shared) (v : Value), BindsTo s fd ⟨[v], []⟩ [("_law_script", v)]) ∧ ∀ base : Heap, K.In base → base.Ns mainGlobals mg → FnOk PySem.Challenge.pw_loopsize_k21_sums_and_conditions w K mg base CX0 8 fa fd ["_law_script"] (spLaw K) := by
  have e : fa = a_law := by
    have e := hfa.symm.trans (PySem.W.mg_of X G n_law)
    cases e
    rfl
  rw [e]
  have T : Txt PySem.Challenge.pw_loopsize_k21_sums_and_conditions K mg { a_common_divisor := a_common_divisor, d_common_divisor := PySem.W.fnOf "common_divisor" "common_divisor" (defArgs s_common_divisor) (defBody s_common_divisor) (defScope s_common_divisor) .none kV_common_divisor dc_common_divisor pm_common_divisor an_common_divisor cd_common_divisor ct_common_divisor, a_Straight_init := a_Straight_init, d_Straight_init := PySem.W.fnOf "__init__" "Straight.__init__" (defArgs s_Straight_init) (defBody s_Straight_init) (defScope s_Straight_init) .none kV_Straight_init dc_Straight_init pm_Straight_init an_Straight_init cd_Straight_init ct_Straight_init, a_Straight_call := a_Straight_call, d_Straight_call := PySem.W.fnOf "__call__" "Straight.__call__" (defArgs s_Straight_call) (defBody s_Straight_call) (defScope s_Straight_call) .none kV_Straight_call dc_Straight_call pm_Straight_call an_Straight_call cd_Straight_call ct_Straight_call, a_Straight_eq := a_Straight_eq, d_Straight_eq := PySem.W.fnOf "__eq__" "Straight.__eq__" (defArgs s_Straight_eq) (defBody s_Straight_eq) (defScope s_Straight_eq) .none kV_Straight_eq dc_Straight_eq pm_Straight_eq an_Straight_eq cd_Straight_eq ct_Straight_eq, a_Straight_neg := a_Straight_neg, d_Straight_neg := PySem.W.fnOf "__neg__" "Straight.__neg__" (defArgs s_Straight_neg) (defBody s_Straight_neg) (defScope s_Straight_neg) .none kV_Straight_neg dc_Straight_neg pm_Straight_neg an_Straight_neg cd_Straight_neg ct_Straight_neg, a_Straight_add := a_Straight_add, d_Straight_add := PySem.W.fnOf "__add__" "Straight.__add__" (defArgs s_Straight_add) (defBody s_Straight_add) (defScope s_Straight_add) .none kV_Straight_add dc_Straight_add pm_Straight_add an_Straight_add cd_Straight_add ct_Straight_add, a_Straight_radd := a_Straight_radd, d_Straight_radd := PySem.W.fnOf "__radd__" "Straight.__radd__" (defArgs s_Straight_radd) (defBody s_Straight_radd) (defScope s_Straight_radd) .none kV_Straight_radd dc_Straight_radd pm_Straight_radd an_Straight_radd cd_Straight_radd ct_Straight_radd, a_Straight_sub := a_Straight_sub, d_Straight_sub := PySem.W.fnOf "__sub__" "Straight.__sub__" (defArgs s_Straight_sub) (defBody s_Straight_sub) (defScope s_Straight_sub) .none kV_Straight_sub dc_Straight_sub pm_Straight_sub an_Straight_sub cd_Straight_sub ct_Straight_sub, a_Straight_rsub := a_Straight_rsub, d_Straight_rsub := PySem.W.fnOf "__rsub__" "Straight.__rsub__" (defArgs s_Straight_rsub) (defBody s_Straight_rsub) (defScope s_Straight_rsub) .none kV_Straight_rsub dc_Straight_rsub pm_Straight_rsub an_Straight_rsub cd_Straight_rsub ct_Straight_rsub, a_Straight_mul := a_Straight_mul, d_Straight_mul := PySem.W.fnOf "__mul__" "Straight.__mul__" (defArgs s_Straight_mul) (defBody s_Straight_mul) (defScope s_Straight_mul) .none kV_Straight_mul dc_Straight_mul pm_Straight_mul an_Straight_mul cd_Straight_mul ct_Straight_mul, a_Straight_rmul := a_Straight_rmul, d_Straight_rmul := PySem.W.fnOf "__rmul__" "Straight.__rmul__" (defArgs s_Straight_rmul) (defBody s_Straight_rmul) (defScope s_Straight_rmul) .none kV_Straight_rmul dc_Straight_rmul pm_Straight_rmul an_Straight_rmul cd_Straight_rmul ct_Straight_rmul, a_Straight_replaced := a_Straight_replaced, d_Straight_replaced := PySem.W.fnOf "replaced" "Straight.replaced" (defArgs s_Straight_replaced) (defBody s_Straight_replaced) (defScope s_Straight_replaced) .none kV_Straight_replaced dc_Straight_replaced pm_Straight_replaced an_Straight_replaced cd_Straight_replaced ct_Straight_replaced, a_straight_of := a_straight_of, d_straight_of := PySem.W.fnOf "straight_of" "straight_of" (defArgs s_straight_of) (defBody s_straight_of) (defScope s_straight_of) .none kV_straight_of dc_straight_of pm_straight_of an_straight_of cd_straight_of ct_straight_of, a_AtLeast_init := a_AtLeast_init, d_AtLeast_init := PySem.W.fnOf "__init__" "AtLeast.__init__" (defArgs s_AtLeast_init) (defBody s_AtLeast_init) (defScope s_AtLeast_init) .none kV_AtLeast_init dc_AtLeast_init pm_AtLeast_init an_AtLeast_init cd_AtLeast_init ct_AtLeast_init, a_AtLeast_holds := a_AtLeast_holds, d_AtLeast_holds := PySem.W.fnOf "holds" "AtLeast.holds" (defArgs s_AtLeast_holds) (defBody s_AtLeast_holds) (defScope s_AtLeast_holds) .none kV_AtLeast_holds dc_AtLeast_holds pm_AtLeast_holds an_AtLeast_holds cd_AtLeast_holds ct_AtLeast_holds, a_AtLeast_replaced := a_AtLeast_replaced, d_AtLeast_replaced := PySem.W.fnOf "replaced" "AtLeast.replaced" (defArgs s_AtLeast_replaced) (defBody s_AtLeast_replaced) (defScope s_AtLeast_replaced) .none kV_AtLeast_replaced dc_AtLeast_replaced pm_AtLeast_replaced an_AtLeast_replaced cd_AtLeast_replaced ct_AtLeast_replaced, a_Rest_init := a_Rest_init, d_Rest_init := PySem.W.fnOf "__init__" "Rest.__init__" (defArgs s_Rest_init) (defBody s_Rest_init) (defScope s_Rest_init) .none kV_Rest_init dc_Rest_init pm_Rest_init an_Rest_init cd_Rest_init ct_Rest_init, a_Rest_holds := a_Rest_holds, d_Rest_holds := PySem.W.fnOf "holds" "Rest.holds" (defArgs s_Rest_holds) (defBody s_Rest_holds) (defScope s_Rest_holds) .none kV_Rest_holds dc_Rest_holds pm_Rest_holds an_Rest_holds cd_Rest_holds ct_Rest_holds, a_Rest_replaced := a_Rest_replaced, d_Rest_replaced := PySem.W.fnOf "replaced" "Rest.replaced" (defArgs s_Rest_replaced) (defBody s_Rest_replaced) (defScope s_Rest_replaced) .none kV_Rest_replaced dc_Rest_replaced pm_Rest_replaced an_Rest_replaced cd_Rest_replaced ct_Rest_replaced, a_pen := a_pen, d_pen := PySem.W.fnOf "_law_pen" "_law_pen" (defArgs s_pen) (defBody s_pen) (defScope s_pen) .none kV_pen dc_pen pm_pen an_pen cd_pen ct_pen, a_draw := a_draw, d_draw := PySem.W.fnOf "_law_draw" "_law_draw" (defArgs s_draw) (defBody s_draw) (defScope s_draw) .none kV_draw dc_draw pm_draw an_draw cd_draw ct_draw, a_big := a_big, d_big := PySem.W.fnOf "_law_big" "_law_big" (defArgs s_big) (defBody s_big) (defScope s_big) .none kV_big dc_big pm_big an_big cd_big ct_big, a_between := a_between, d_between := PySem.W.fnOf "_law_between" "_law_between" (defArgs s_between) (defBody s_between) (defScope s_between) .none kV_between dc_between pm_between an_between cd_between ct_between, a_far := a_far, d_far := PySem.W.fnOf "_law_far" "_law_far" (defArgs s_far) (defBody s_far) (defScope s_far) .none kV_far dc_far pm_far an_far cd_far ct_far, a_divisor := a_divisor, d_divisor := PySem.W.fnOf "_law_divisor" "_law_divisor" (defArgs s_divisor) (defBody s_divisor) (defScope s_divisor) .none kV_divisor dc_divisor pm_divisor an_divisor cd_divisor ct_divisor, a_guard_due := a_guard_due, d_guard_due := PySem.W.fnOf "_law_guard_due" "_law_guard_due" (defArgs s_guard_due) (defBody s_guard_due) (defScope s_guard_due) .none kV_guard_due dc_guard_due pm_guard_due an_guard_due cd_guard_due ct_guard_due, a_value := a_value, d_value := PySem.W.fnOf "_law_value" "_law_value" (defArgs s_value) (defBody s_value) (defScope s_value) .none kV_value dc_value pm_value an_value cd_value ct_value, a_guard_holds := a_guard_holds, d_guard_holds := PySem.W.fnOf "_law_guard_holds" "_law_guard_holds" (defArgs s_guard_holds) (defBody s_guard_holds) (defScope s_guard_holds) .none kV_guard_holds dc_guard_holds pm_guard_holds an_guard_holds cd_guard_holds ct_guard_holds, a_three := a_three, d_three := PySem.W.fnOf "_law_three" "_law_three" (defArgs s_three) (defBody s_three) (defScope s_three) .none kV_three dc_three pm_three an_three cd_three ct_three, a_is_sum := a_is_sum, d_is_sum := PySem.W.fnOf "_law_is_sum" "_law_is_sum" (defArgs s_is_sum) (defBody s_is_sum) (defScope s_is_sum) .none kV_is_sum dc_is_sum pm_is_sum an_is_sum cd_is_sum ct_is_sum, a_pair_right := a_pair_right, d_pair_right := PySem.W.fnOf "_law_pair_right" "_law_pair_right" (defArgs s_pair_right) (defBody s_pair_right) (defScope s_pair_right) .none kV_pair_right dc_pair_right pm_pair_right an_pair_right cd_pair_right ct_pair_right, a_guard_right := a_guard_right, d_guard_right := PySem.W.fnOf "_law_guard_right" "_law_guard_right" (defArgs s_guard_right) (defBody s_guard_right) (defScope s_guard_right) .none kV_guard_right dc_guard_right pm_guard_right an_guard_right cd_guard_right ct_guard_right, a_refused_rest := a_refused_rest, d_refused_rest := PySem.W.fnOf "_law_refused_rest" "_law_refused_rest" (defArgs s_refused_rest) (defBody s_refused_rest) (defScope s_refused_rest) .none kV_refused_rest dc_refused_rest pm_refused_rest an_refused_rest cd_refused_rest ct_refused_rest, a_law := a_law, d_law := PySem.W.fnOf "law" "law" (defArgs s_law) (defBody s_law) (defScope s_law) .none kV_law dc_law pm_law an_law cd_law ct_law, C_LoopError := C_LoopError, C_BadNumber := C_BadNumber, a_BadNumber_init := a_BadNumber_init, C_Straight := C_Straight, C_AtLeast := C_AtLeast, C_Rest := C_Rest } := {
    F_common_divisor := fun_mk (st := s_common_divisor) l_common_divisor c_common_divisor k_common_divisor,
    b_common_divisor := (fun_mk (st := s_common_divisor) l_common_divisor c_common_divisor k_common_divisor).binds (ps := ["a", "b"]) fun _ _ _ _ _ _ us hl => match us, hl with | [_, _], _ => rfl,
    g_common_divisor := PySem.W.mg_of X G n_common_divisor,
    F_Straight_init := fun_mk (st := s_Straight_init) l_Straight_init c_Straight_init k_Straight_init,
    b_Straight_init := (fun_mk (st := s_Straight_init) l_Straight_init c_Straight_init k_Straight_init).binds (ps := ["self", "i", "n", "one"]) fun _ _ _ _ _ _ us hl => match us, hl with | [_, _, _, _], _ => rfl,
    at_Straight_init := n_Straight_init,
    i_Straight_init := i_Straight_init,
    F_Straight_call := fun_mk (st := s_Straight_call) l_Straight_call c_Straight_call k_Straight_call,
    b_Straight_call := (fun_mk (st := s_Straight_call) l_Straight_call c_Straight_call k_Straight_call).binds (ps := ["self", "i", "n"]) fun _ _ _ _ _ _ us hl => match us, hl with | [_, _, _], _ => rfl,
    at_Straight_call := n_Straight_call,
    i_Straight_call := i_Straight_call,
    c_Straight_call := ⟨n_Straight_call, i_Straight_call, fi_Straight_call⟩,
    F_Straight_eq := fun_mk (st := s_Straight_eq) l_Straight_eq c_Straight_eq k_Straight_eq,
    b_Straight_eq := (fun_mk (st := s_Straight_eq) l_Straight_eq c_Straight_eq k_Straight_eq).binds (ps := ["self", "other"]) fun _ _ _ _ _ _ us hl => match us, hl with | [_, _], _ => rfl,
    at_Straight_eq := n_Straight_eq,
    i_Straight_eq := i_Straight_eq,
    F_Straight_neg := fun_mk (st := s_Straight_neg) l_Straight_neg c_Straight_neg k_Straight_neg,
    b_Straight_neg := (fun_mk (st := s_Straight_neg) l_Straight_neg c_Straight_neg k_Straight_neg).binds (ps := ["self"]) fun _ _ _ _ _ _ us hl => match us, hl with | [_], _ => rfl,
    at_Straight_neg := n_Straight_neg,
    i_Straight_neg := i_Straight_neg,
    F_Straight_add := fun_mk (st := s_Straight_add) l_Straight_add c_Straight_add k_Straight_add,
    b_Straight_add := (fun_mk (st := s_Straight_add) l_Straight_add c_Straight_add k_Straight_add).binds (ps := ["self", "other"]) fun _ _ _ _ _ _ us hl => match us, hl with | [_, _], _ => rfl,
    at_Straight_add := n_Straight_add,
    i_Straight_add := i_Straight_add,
    F_Straight_radd := fun_mk (st := s_Straight_radd) l_Straight_radd c_Straight_radd k_Straight_radd,
    b_Straight_radd := (fun_mk (st := s_Straight_radd) l_Straight_radd c_Straight_radd k_Straight_radd).binds (ps := ["self", "other"]) fun _ _ _ _ _ _ us hl => match us, hl with | [_, _], _ => rfl,
    at_Straight_radd := n_Straight_radd,
    i_Straight_radd := i_Straight_radd,
    F_Straight_sub := fun_mk (st := s_Straight_sub) l_Straight_sub c_Straight_sub k_Straight_sub,
    b_Straight_sub := (fun_mk (st := s_Straight_sub) l_Straight_sub c_Straight_sub k_Straight_sub).binds (ps := ["self", "other"]) fun _ _ _ _ _ _ us hl => match us, hl with | [_, _], _ => rfl,
    at_Straight_sub := n_Straight_sub,
    i_Straight_sub := i_Straight_sub,
    F_Straight_rsub := fun_mk (st := s_Straight_rsub) l_Straight_rsub c_Straight_rsub k_Straight_rsub,
    b_Straight_rsub := (fun_mk (st := s_Straight_rsub) l_Straight_rsub c_Straight_rsub k_Straight_rsub).binds (ps := ["self", "other"]) fun _ _ _ _ _ _ us hl => match us, hl with | [_, _], _ => rfl,
    at_Straight_rsub := n_Straight_rsub,
    i_Straight_rsub := i_Straight_rsub,
    F_Straight_mul := fun_mk (st := s_Straight_mul) l_Straight_mul c_Straight_mul k_Straight_mul,
    b_Straight_mul := (fun_mk (st := s_Straight_mul) l_Straight_mul c_Straight_mul k_Straight_mul).binds (ps := ["self", "factor"]) fun _ _ _ _ _ _ us hl => match us, hl with | [_, _], _ => rfl,
    at_Straight_mul := n_Straight_mul,
    i_Straight_mul := i_Straight_mul,
    F_Straight_rmul := fun_mk (st := s_Straight_rmul) l_Straight_rmul c_Straight_rmul k_Straight_rmul,
    b_Straight_rmul := (fun_mk (st := s_Straight_rmul) l_Straight_rmul c_Straight_rmul k_Straight_rmul).binds (ps := ["self", "factor"]) fun _ _ _ _ _ _ us hl => match us, hl with | [_, _], _ => rfl,
    at_Straight_rmul := n_Straight_rmul,
    i_Straight_rmul := i_Straight_rmul,
    F_Straight_replaced := fun_mk (st := s_Straight_replaced) l_Straight_replaced c_Straight_replaced k_Straight_replaced,
    b_Straight_replaced := (fun_mk (st := s_Straight_replaced) l_Straight_replaced c_Straight_replaced k_Straight_replaced).binds (ps := ["self", "factor", "shift"]) fun _ _ _ _ _ _ us hl => match us, hl with | [_, _, _], _ => rfl,
    at_Straight_replaced := n_Straight_replaced,
    i_Straight_replaced := i_Straight_replaced,
    m_Straight_replaced := ⟨n_Straight_replaced, i_Straight_replaced, k_Straight_replaced⟩,
    F_straight_of := fun_mk (st := s_straight_of) l_straight_of c_straight_of k_straight_of,
    b_straight_of := (fun_mk (st := s_straight_of) l_straight_of c_straight_of k_straight_of).binds (ps := ["value"]) fun _ _ _ _ _ _ us hl => match us, hl with | [_], _ => rfl,
    g_straight_of := PySem.W.mg_of X G n_straight_of,
    F_AtLeast_init := fun_mk (st := s_AtLeast_init) l_AtLeast_init c_AtLeast_init k_AtLeast_init,
    b_AtLeast_init := (fun_mk (st := s_AtLeast_init) l_AtLeast_init c_AtLeast_init k_AtLeast_init).binds (ps := ["self", "straight"]) fun _ _ _ _ _ _ us hl => match us, hl with | [_, _], _ => rfl,
    at_AtLeast_init := n_AtLeast_init,
    i_AtLeast_init := i_AtLeast_init,
    F_AtLeast_holds := fun_mk (st := s_AtLeast_holds) l_AtLeast_holds c_AtLeast_holds k_AtLeast_holds,
    b_AtLeast_holds := (fun_mk (st := s_AtLeast_holds) l_AtLeast_holds c_AtLeast_holds k_AtLeast_holds).binds (ps := ["self", "i", "n"]) fun _ _ _ _ _ _ us hl => match us, hl with | [_, _, _], _ => rfl,
    at_AtLeast_holds := n_AtLeast_holds,
    i_AtLeast_holds := i_AtLeast_holds,
    m_AtLeast_holds := ⟨n_AtLeast_holds, i_AtLeast_holds, k_AtLeast_holds⟩,
    F_AtLeast_replaced := fun_mk (st := s_AtLeast_replaced) l_AtLeast_replaced c_AtLeast_replaced k_AtLeast_replaced,
    b_AtLeast_replaced := (fun_mk (st := s_AtLeast_replaced) l_AtLeast_replaced c_AtLeast_replaced k_AtLeast_replaced).binds (ps := ["self", "factor", "shift"]) fun _ _ _ _ _ _ us hl => match us, hl with | [_, _, _], _ => rfl,
    at_AtLeast_replaced := n_AtLeast_replaced,
    i_AtLeast_replaced := i_AtLeast_replaced,
    m_AtLeast_replaced := ⟨n_AtLeast_replaced, i_AtLeast_replaced, k_AtLeast_replaced⟩,
    F_Rest_init := fun_mk (st := s_Rest_init) l_Rest_init c_Rest_init k_Rest_init,
    b_Rest_init := (fun_mk (st := s_Rest_init) l_Rest_init c_Rest_init k_Rest_init).binds (ps := ["self", "straight", "modulus", "rest"]) fun _ _ _ _ _ _ us hl => match us, hl with | [_, _, _, _], _ => rfl,
    at_Rest_init := n_Rest_init,
    i_Rest_init := i_Rest_init,
    F_Rest_holds := fun_mk (st := s_Rest_holds) l_Rest_holds c_Rest_holds k_Rest_holds,
    b_Rest_holds := (fun_mk (st := s_Rest_holds) l_Rest_holds c_Rest_holds k_Rest_holds).binds (ps := ["self", "i", "n"]) fun _ _ _ _ _ _ us hl => match us, hl with | [_, _, _], _ => rfl,
    at_Rest_holds := n_Rest_holds,
    i_Rest_holds := i_Rest_holds,
    m_Rest_holds := ⟨n_Rest_holds, i_Rest_holds, k_Rest_holds⟩,
    F_Rest_replaced := fun_mk (st := s_Rest_replaced) l_Rest_replaced c_Rest_replaced k_Rest_replaced,
    b_Rest_replaced := (fun_mk (st := s_Rest_replaced) l_Rest_replaced c_Rest_replaced k_Rest_replaced).binds (ps := ["self", "factor", "shift"]) fun _ _ _ _ _ _ us hl => match us, hl with | [_, _, _], _ => rfl,
    at_Rest_replaced := n_Rest_replaced,
    i_Rest_replaced := i_Rest_replaced,
    m_Rest_replaced := ⟨n_Rest_replaced, i_Rest_replaced, k_Rest_replaced⟩,
    F_pen := fun_mk (st := s_pen) l_pen c_pen k_pen,
    b_pen := (fun_mk (st := s_pen) l_pen c_pen k_pen).binds (ps := ["_law_script"]) fun _ _ _ _ _ _ us hl => match us, hl with | [_], _ => rfl,
    g_pen := PySem.W.mg_of X G n_pen,
    F_draw := fun_mk (st := s_draw) l_draw c_draw k_draw,
    b_draw := (fun_mk (st := s_draw) l_draw c_draw k_draw).binds (ps := ["_law_pen_here", "_law_many"]) fun _ _ _ _ _ _ us hl => match us, hl with | [_, _], _ => rfl,
    g_draw := PySem.W.mg_of X G n_draw,
    F_big := fun_mk (st := s_big) l_big c_big k_big,
    b_big := (fun_mk (st := s_big) l_big c_big k_big).binds (ps := ["_law_pen_here", "_law_many"]) fun _ _ _ _ _ _ us hl => match us, hl with | [_, _], _ => rfl,
    g_big := PySem.W.mg_of X G n_big,
    F_between := fun_mk (st := s_between) l_between c_between k_between,
    b_between := (fun_mk (st := s_between) l_between c_between k_between).binds (ps := ["_law_pen_here", "_law_least", "_law_most"]) fun _ _ _ _ _ _ us hl => match us, hl with | [_, _, _], _ => rfl,
    g_between := PySem.W.mg_of X G n_between,
    F_far := fun_mk (st := s_far) l_far c_far k_far,
    b_far := (fun_mk (st := s_far) l_far c_far k_far).binds (ps := ["_law_pen_here"]) fun _ _ _ _ _ _ us hl => match us, hl with | [_], _ => rfl,
    g_far := PySem.W.mg_of X G n_far,
    F_divisor := fun_mk (st := s_divisor) l_divisor c_divisor k_divisor,
    b_divisor := (fun_mk (st := s_divisor) l_divisor c_divisor k_divisor).binds (ps := ["_law_a", "_law_b"]) fun _ _ _ _ _ _ us hl => match us, hl with | [_, _], _ => rfl,
    g_divisor := PySem.W.mg_of X G n_divisor,
    F_guard_due := fun_mk (st := s_guard_due) l_guard_due c_guard_due k_guard_due,
    b_guard_due := (fun_mk (st := s_guard_due) l_guard_due c_guard_due k_guard_due).binds (ps := ["_law_guard"]) fun _ _ _ _ _ _ us hl => match us, hl with | [_], _ => rfl,
    g_guard_due := PySem.W.mg_of X G n_guard_due,
    F_value := fun_mk (st := s_value) l_value c_value k_value,
    b_value := (fun_mk (st := s_value) l_value c_value k_value).binds (ps := ["_law_row", "_law_i", "_law_n"]) fun _ _ _ _ _ _ us hl => match us, hl with | [_, _, _], _ => rfl,
    g_value := PySem.W.mg_of X G n_value,
    F_guard_holds := fun_mk (st := s_guard_holds) l_guard_holds c_guard_holds k_guard_holds,
    b_guard_holds := (fun_mk (st := s_guard_holds) l_guard_holds c_guard_holds k_guard_holds).binds (ps := ["_law_guard", "_law_i", "_law_n"]) fun _ _ _ _ _ _ us hl => match us, hl with | [_, _, _], _ => rfl,
    g_guard_holds := PySem.W.mg_of X G n_guard_holds,
    F_three := fun_mk (st := s_three) l_three c_three k_three,
    b_three := (fun_mk (st := s_three) l_three c_three k_three).binds (ps := ["_law_pen_here"]) fun _ _ _ _ _ _ us hl => match us, hl with | [_], _ => rfl,
    g_three := PySem.W.mg_of X G n_three,
    F_is_sum := fun_mk (st := s_is_sum) l_is_sum c_is_sum k_is_sum,
    b_is_sum := (fun_mk (st := s_is_sum) l_is_sum c_is_sum k_is_sum).binds (ps := ["_law_found", "_law_due", "_law_i", "_law_n"]) fun _ _ _ _ _ _ us hl => match us, hl with | [_, _, _, _], _ => rfl,
    g_is_sum := PySem.W.mg_of X G n_is_sum,
    F_pair_right := fun_mk (st := s_pair_right) l_pair_right c_pair_right k_pair_right,
    b_pair_right := (fun_mk (st := s_pair_right) l_pair_right c_pair_right k_pair_right).binds (ps := ["_law_pen_here"]) fun _ _ _ _ _ _ us hl => match us, hl with | [_], _ => rfl,
    g_pair_right := PySem.W.mg_of X G n_pair_right,
    F_guard_right := fun_mk (st := s_guard_right) l_guard_right c_guard_right k_guard_right,
    b_guard_right := (fun_mk (st := s_guard_right) l_guard_right c_guard_right k_guard_right).binds (ps := ["_law_pen_here"]) fun _ _ _ _ _ _ us hl => match us, hl with | [_], _ => rfl,
    g_guard_right := PySem.W.mg_of X G n_guard_right,
    F_refused_rest := fun_mk (st := s_refused_rest) l_refused_rest c_refused_rest k_refused_rest,
    b_refused_rest := (fun_mk (st := s_refused_rest) l_refused_rest c_refused_rest k_refused_rest).binds (ps := ["_law_modulus", "_law_rest"]) fun _ _ _ _ _ _ us hl => match us, hl with | [_, _], _ => rfl,
    g_refused_rest := PySem.W.mg_of X G n_refused_rest,
    F_law := fun_mk (st := s_law) l_law c_law k_law,
    b_law := (fun_mk (st := s_law) l_law c_law k_law).binds (ps := ["_law_script"]) fun _ _ _ _ _ _ us hl => match us, hl with | [_], _ => rfl,
    g_law := PySem.W.mg_of X G n_law,
    g_LoopError := PySem.W.mg_of X G n_LoopError,
    g_BadNumber := PySem.W.mg_of X G n_BadNumber,
    e_BadNumber := { gC := PySem.W.mg_of X G n_BadNumber, cls := ⟨_, _, _, _, _, _, _, _, _, _, _, _, _, _, _, xl_BadNumber, rb_BadNumber⟩, sa := sa_BadNumber, noF := List.forall_mem_cons.mpr ⟨nf_BadNumber_what, List.forall_mem_cons.mpr ⟨nf_BadNumber_number, List.forall_mem_nil _⟩⟩, iC := n_BadNumber_init, tC := tf_BadNumber, kC := kc_BadNumber, exC := ex_BadNumber, veC := ve_BadNumber, tyC := ty_BadNumber, sup := sup_, opq := opq_, spI := sp_BadNumber, mrC := mr_BadNumber, top := (by kernel_rfl), fn := ⟨_, _, _, _, s_BadNumber_init, _, _, _, _, _, _, _, _, _, _, _, _, _, _, _, _, _, [], l_BadNumber, c_BadNumber, hc_BadNumber, hv_BadNumber, hf_BadNumber, hl_BadNumber, sup_BadNumber, rfl, rfl, fun us hl => match us, hl with | [_, _, _], _ => rfl, by decide +kernel, by decide +kernel, by decide +kernel, rfl, by decide +kernel, rfl, rfl, by decide +kernel, by decide +kernel⟩ },
    x_BadNumber := ⟨ga_BadNumber, gg_BadNumber, ex_BadNumber, hd_BadNumber⟩,
    te_BadNumber := te_BadNumber,
    g_Straight := PySem.W.mg_of X G n_Straight,
    cl_Straight := ⟨pg_Straight, hd_Straight, po_Straight, sa_Straight⟩,
    mk_Straight := ⟨mk_Straight, n_Straight_init, i_Straight_init, kc_Straight⟩,
    na_Straight_i := na_Straight_i,
    na_Straight_n := na_Straight_n,
    na_Straight_one := na_Straight_one,
    ca_Straight := ca_Straight,
    mo_Straight := mo_Straight,
    ne_Straight := ne_Straight,
    g_AtLeast := PySem.W.mg_of X G n_AtLeast,
    cl_AtLeast := ⟨pg_AtLeast, hd_AtLeast, po_AtLeast, sa_AtLeast⟩,
    mk_AtLeast := ⟨mk_AtLeast, n_AtLeast_init, i_AtLeast_init, kc_AtLeast⟩,
    na_AtLeast_straight := na_AtLeast_straight,
    ca_AtLeast := ca_AtLeast,
    mo_AtLeast := mo_AtLeast,
    g_Rest := PySem.W.mg_of X G n_Rest,
    cl_Rest := ⟨pg_Rest, hd_Rest, po_Rest, sa_Rest⟩,
    mk_Rest := ⟨mk_Rest, n_Rest_init, i_Rest_init, kc_Rest⟩,
    na_Rest_straight := na_Rest_straight,
    na_Rest_modulus := na_Rest_modulus,
    na_Rest_rest := na_Rest_rest,
    ca_Rest := ca_Rest,
    mo_Rest := mo_Rest,
    cg := cg,
    ct := ct,
    o_Straight_add := ⟨n_Straight_add, i_Straight_add, sf_Straight, ⟨_, or_Straight_add, og_Straight_add⟩, ⟨_, of_Straight_add⟩, ⟨_, oi_Straight_add⟩, os_Straight⟩,
    o_Straight_sub := ⟨n_Straight_sub, i_Straight_sub, sf_Straight, ⟨_, or_Straight_sub, og_Straight_sub⟩, ⟨_, of_Straight_sub⟩, ⟨_, oi_Straight_sub⟩, os_Straight⟩,
    o_Straight_radd := ⟨n_Straight_add, n_Straight_radd, i_Straight_radd, sf_Straight, ob_Straight, trivial⟩,
    o_Straight_rsub := ⟨n_Straight_sub, n_Straight_rsub, i_Straight_rsub, sf_Straight, ob_Straight, trivial⟩,
    o_Straight_mul := ⟨n_Straight_mul, i_Straight_mul, sf_Straight, ⟨_, or_Straight_mul, og_Straight_mul⟩, ⟨_, of_Straight_mul⟩, ⟨_, oi_Straight_mul⟩, os_Straight⟩,
    o_Straight_rmul := ⟨n_Straight_mul, n_Straight_rmul, i_Straight_rmul, sf_Straight, ob_Straight, trivial⟩,
    ki_S_S := ki_S_S,
    ki_int_S := ki_int_S,
    ki_str_S := ki_str_S,
    ki_tup_S := ki_tup_S,
    nf_S_int := nf_S_int,
    nf_S_str := nf_S_str,
    nf_S_tup := nf_S_tup,
    n_abs := PySem.W.mg_none_of X G n_abs,
    n_bool := PySem.W.mg_none_of X G n_bool,
    n_int := PySem.W.mg_none_of X G n_int,
    n_isinstance := PySem.W.mg_none_of X G n_isinstance,
    n_len := PySem.W.mg_none_of X G n_len,
    n_list := PySem.W.mg_none_of X G n_list,
    n_max := PySem.W.mg_none_of X G n_max,
    n_min := PySem.W.mg_none_of X G n_min,
    n_range := PySem.W.mg_none_of X G n_range,
    n_str := PySem.W.mg_none_of X G n_str,
    n_zip := PySem.W.mg_none_of X G n_zip }
  exact ⟨_, fun s v => .of_eq rfl, fun base _ _ => ok_law T⟩
theorem walk {q : Program} {loose : List Str} {XP : (Str → Option Value) → Heap → Prop} {YP : World → Heap → Prop} {d : DefRec} {K : Params → PySem.W.Frag} (hdf : d.params.defaults = [])
    (hY : ∀ (w : World) (h : Heap), YP w h → (K w.params).In h)
    (F : ∀ (w : World) (mg : Str → Option Value) (fa : Addr) (h : Heap), (K w.params).In h → h.Ns mainGlobals mg → mg d.name = some (.ref fa) →
      ∃ fd : FuncData, (∀ (s : Shared) (u : Value), BindsTo s fd ⟨[u], []⟩ [("_law_script", u)]) ∧ ∀ base : Heap, (K w.params).In base → base.Ns mainGlobals mg → FnOk PySem.Challenge.rw_loopsize_k21_sums_and_conditions.prog w (K w.params) mg base CX0 8 fa fd ["_law_script"] (spLaw (K w.params))) :
    PySem.W.WalkO q loose XP YP PySem.Challenge.rw_loopsize_k21_sums_and_conditions.row.toRowW d [] (fun f vs => PySem.call f vs) :=
  L2.walk_of (l := PySem.Challenge.rw_loopsize_k21_sums_and_conditions) (n := 63) (k := 8) (x := "_law_script") (CX := fun _ => CX0) (sp := fun w => spLaw (K w.params)) rfl (by decide) hdf ⟨rfl, by decide, by decide⟩ hY F (fun _ _ a ns hl _ hS => ⟨a, ns, rfl, hS, fun _ => rfl⟩) fun _ _ _ _ _ z => z
end Lw
open PySem PySem.W PyProof.Rows in
set_option maxRecDepth 100000 in
set_option maxHeartbeats 0 in
theorem PySem.Challenge.cw_loopsize_k21_sums_and_conditions_holds : PySem.Challenge.rw_loopsize_k21_sums_and_conditions.Holds := by
  w_on; o_law; k_head; (case hw => w_witness2)
  k_fill
  refine Lw.walk rfl (fun w h Y => PySem.W.kIn_of Y) ?F
  case F =>
    intro w mg fa h KX G hmg
    refine' Lw.all_mk KX G hmg ?n_LoopError ?n_BadNumber ?n_Straight ?n_AtLeast ?n_Rest ?n_common_divisor ?l_common_divisor ?c_common_divisor ?k_common_divisor ?n_Straight_init ?i_Straight_init ?l_Straight_init ?c_Straight_init ?k_Straight_init ?n_Straight_call ?i_Straight_call ?fi_Straight_call ?l_Straight_call ?c_Straight_call ?k_Straight_call ?n_Straight_eq ?i_Straight_eq ?l_Straight_eq ?c_Straight_eq ?k_Straight_eq ?n_Straight_neg ?i_Straight_neg ?l_Straight_neg ?c_Straight_neg ?k_Straight_neg ?n_Straight_add ?i_Straight_add ?l_Straight_add ?c_Straight_add ?k_Straight_add ?n_Straight_radd ?i_Straight_radd ?l_Straight_radd ?c_Straight_radd ?k_Straight_radd ?n_Straight_sub ?i_Straight_sub ?l_Straight_sub ?c_Straight_sub ?k_Straight_sub ?n_Straight_rsub ?i_Straight_rsub ?l_Straight_rsub ?c_Straight_rsub ?k_Straight_rsub ?n_Straight_mul ?i_Straight_mul ?l_Straight_mul ?c_Straight_mul ?k_Straight_mul ?n_Straight_rmul ?i_Straight_rmul ?l_Straight_rmul ?c_Straight_rmul ?k_Straight_rmul ?n_Straight_replaced ?i_Straight_replaced ?l_Straight_replaced ?c_Straight_replaced ?k_Straight_replaced ?n_straight_of ?l_straight_of ?c_straight_of ?k_straight_of ?n_AtLeast_init ?i_AtLeast_init ?l_AtLeast_init ?c_AtLeast_init ?k_AtLeast_init ?n_AtLeast_holds ?i_AtLeast_holds ?l_AtLeast_holds ?c_AtLeast_holds ?k_AtLeast_holds ?n_AtLeast_replaced ?i_AtLeast_replaced ?l_AtLeast_replaced ?c_AtLeast_replaced ?k_AtLeast_replaced ?n_Rest_init ?i_Rest_init ?l_Rest_init ?c_Rest_init ?k_Rest_init ?n_Rest_holds ?i_Rest_holds ?l_Rest_holds ?c_Rest_holds ?k_Rest_holds ?n_Rest_replaced ?i_Rest_replaced ?l_Rest_replaced ?c_Rest_replaced ?k_Rest_replaced ?n_pen ?l_pen ?c_pen ?k_pen ?n_draw ?l_draw ?c_draw ?k_draw ?n_big ?l_big ?c_big ?k_big ?n_between ?l_between ?c_between ?k_between ?n_far ?l_far ?c_far ?k_far ?n_divisor ?l_divisor ?c_divisor ?k_divisor ?n_guard_due ?l_guard_due ?c_guard_due ?k_guard_due ?n_value ?l_value ?c_value ?k_value ?n_guard_holds ?l_guard_holds ?c_guard_holds ?k_guard_holds ?n_three ?l_three ?c_three ?k_three ?n_is_sum ?l_is_sum ?c_is_sum ?k_is_sum ?n_pair_right ?l_pair_right ?c_pair_right ?k_pair_right ?n_guard_right ?l_guard_right ?c_guard_right ?k_guard_right ?n_refused_rest ?l_refused_rest ?c_refused_rest ?k_refused_rest ?n_law ?l_law ?c_law ?k_law ?xl_BadNumber ?rb_BadNumber ?sa_BadNumber ?nf_BadNumber_what ?nf_BadNumber_number ?n_BadNumber_init ?tf_BadNumber ?kc_BadNumber ?ex_BadNumber ?ve_BadNumber ?ty_BadNumber ?sp_BadNumber ?mr_BadNumber ?l_BadNumber ?c_BadNumber ?hc_BadNumber ?hv_BadNumber ?hf_BadNumber ?hl_BadNumber ?ga_BadNumber ?gg_BadNumber ?hd_BadNumber ?te_BadNumber ?pg_Straight ?hd_Straight ?po_Straight ?sa_Straight ?mk_Straight ?kc_Straight ?na_Straight_i ?na_Straight_n ?na_Straight_one ?ca_Straight ?mo_Straight ?ne_Straight ?pg_AtLeast ?hd_AtLeast ?po_AtLeast ?sa_AtLeast ?mk_AtLeast ?kc_AtLeast ?na_AtLeast_straight ?ca_AtLeast ?mo_AtLeast ?pg_Rest ?hd_Rest ?po_Rest ?sa_Rest ?mk_Rest ?kc_Rest ?na_Rest_straight ?na_Rest_modulus ?na_Rest_rest ?ca_Rest ?mo_Rest ?cg ?ct ?sup_ ?opq_ ?sf_Straight ?os_Straight ?ob_Straight ?or_Straight_add ?og_Straight_add ?of_Straight_add ?oi_Straight_add ?or_Straight_sub ?og_Straight_sub ?of_Straight_sub ?oi_Straight_sub ?or_Straight_mul ?og_Straight_mul ?of_Straight_mul ?oi_Straight_mul ?ki_S_S ?ki_int_S ?ki_str_S ?ki_tup_S ?nf_S_int ?nf_S_str ?nf_S_tup ?n_abs ?n_bool ?n_int ?n_isinstance ?n_len ?n_list ?n_max ?n_min ?n_range ?n_str ?n_zip
    (case n_LoopError => k_is)
    (case n_BadNumber => k_is)
    (case n_Straight => k_is)
    (case n_AtLeast => k_is)
    (case n_Rest => k_is)
    (case n_common_divisor => k_is)
    (case l_common_divisor => k_is)
    (case c_common_divisor => k_is)
    (case k_common_divisor => k_is)
    (case n_Straight_init => k_is)
    (case i_Straight_init => k_is)
    (case l_Straight_init => k_is)
    (case c_Straight_init => k_is)
    (case k_Straight_init => k_is)
    (case n_Straight_call => k_is)
    (case i_Straight_call => k_is)
    (case fi_Straight_call => k_is)
    (case l_Straight_call => k_is)
    (case c_Straight_call => k_is)
    (case k_Straight_call => k_is)
    (case n_Straight_eq => k_is)
    (case i_Straight_eq => k_is)
    (case l_Straight_eq => k_is)
    (case c_Straight_eq => k_is)
    (case k_Straight_eq => k_is)
    (case n_Straight_neg => k_is)
    (case i_Straight_neg => k_is)
    (case l_Straight_neg => k_is)
    (case c_Straight_neg => k_is)
    (case k_Straight_neg => k_is)
    (case n_Straight_add => k_is)
    (case i_Straight_add => k_is)
    (case l_Straight_add => k_is)
    (case c_Straight_add => k_is)
    (case k_Straight_add => k_is)
    (case n_Straight_radd => k_is)
    (case i_Straight_radd => k_is)
    (case l_Straight_radd => k_is)
    (case c_Straight_radd => k_is)
    (case k_Straight_radd => k_is)
    (case n_Straight_sub => k_is)
    (case i_Straight_sub => k_is)
    (case l_Straight_sub => k_is)
    (case c_Straight_sub => k_is)
    (case k_Straight_sub => k_is)
    (case n_Straight_rsub => k_is)
    (case i_Straight_rsub => k_is)
    (case l_Straight_rsub => k_is)
    (case c_Straight_rsub => k_is)
    (case k_Straight_rsub => k_is)
    (case n_Straight_mul => k_is)
    (case i_Straight_mul => k_is)
    (case l_Straight_mul => k_is)
    (case c_Straight_mul => k_is)
    (case k_Straight_mul => k_is)
    (case n_Straight_rmul => k_is)
    (case i_Straight_rmul => k_is)
    (case l_Straight_rmul => k_is)
    (case c_Straight_rmul => k_is)
    (case k_Straight_rmul => k_is)
    (case n_Straight_replaced => k_is)
    (case i_Straight_replaced => k_is)
    (case l_Straight_replaced => k_is)
    (case c_Straight_replaced => k_is)
    (case k_Straight_replaced => k_is)
    (case n_straight_of => k_is)
    (case l_straight_of => k_is)
    (case c_straight_of => k_is)
    (case k_straight_of => k_is)
    (case n_AtLeast_init => k_is)
    (case i_AtLeast_init => k_is)
    (case l_AtLeast_init => k_is)
    (case c_AtLeast_init => k_is)
    (case k_AtLeast_init => k_is)
    (case n_AtLeast_holds => k_is)
    (case i_AtLeast_holds => k_is)
    (case l_AtLeast_holds => k_is)
    (case c_AtLeast_holds => k_is)
    (case k_AtLeast_holds => k_is)
    (case n_AtLeast_replaced => k_is)
    (case i_AtLeast_replaced => k_is)
    (case l_AtLeast_replaced => k_is)
    (case c_AtLeast_replaced => k_is)
    (case k_AtLeast_replaced => k_is)
    (case n_Rest_init => k_is)
    (case i_Rest_init => k_is)
    (case l_Rest_init => k_is)
    (case c_Rest_init => k_is)
    (case k_Rest_init => k_is)
    (case n_Rest_holds => k_is)
    (case i_Rest_holds => k_is)
    (case l_Rest_holds => k_is)
    (case c_Rest_holds => k_is)
    (case k_Rest_holds => k_is)
    (case n_Rest_replaced => k_is)
    (case i_Rest_replaced => k_is)
    (case l_Rest_replaced => k_is)
    (case c_Rest_replaced => k_is)
    (case k_Rest_replaced => k_is)
    (case n_pen => k_is)
    (case l_pen => k_is)
    (case c_pen => k_is)
    (case k_pen => k_is)
    (case n_draw => k_is)
    (case l_draw => k_is)
    (case c_draw => k_is)
    (case k_draw => k_is)
    (case n_big => k_is)
    (case l_big => k_is)
    (case c_big => k_is)
    (case k_big => k_is)
    (case n_between => k_is)
    (case l_between => k_is)
    (case c_between => k_is)
    (case k_between => k_is)
    (case n_far => k_is)
    (case l_far => k_is)
    (case c_far => k_is)
    (case k_far => k_is)
    (case n_divisor => k_is)
    (case l_divisor => k_is)
    (case c_divisor => k_is)
    (case k_divisor => k_is)
    (case n_guard_due => k_is)
    (case l_guard_due => k_is)
    (case c_guard_due => k_is)
    (case k_guard_due => k_is)
    (case n_value => k_is)
    (case l_value => k_is)
    (case c_value => k_is)
    (case k_value => k_is)
    (case n_guard_holds => k_is)
    (case l_guard_holds => k_is)
    (case c_guard_holds => k_is)
    (case k_guard_holds => k_is)
    (case n_three => k_is)
    (case l_three => k_is)
    (case c_three => k_is)
    (case k_three => k_is)
    (case n_is_sum => k_is)
    (case l_is_sum => k_is)
    (case c_is_sum => k_is)
    (case k_is_sum => k_is)
    (case n_pair_right => k_is)
    (case l_pair_right => k_is)
    (case c_pair_right => k_is)
    (case k_pair_right => k_is)
    (case n_guard_right => k_is)
    (case l_guard_right => k_is)
    (case c_guard_right => k_is)
    (case k_guard_right => k_is)
    (case n_refused_rest => k_is)
    (case l_refused_rest => k_is)
    (case c_refused_rest => k_is)
    (case k_refused_rest => k_is)
    (case n_law => k_is)
    (case l_law => k_is)
    (case c_law => k_is)
    (case k_law => k_is)
    (case xl_BadNumber => k_is)
    (case rb_BadNumber => decide +kernel)
    (case sa_BadNumber => k_is)
    (case nf_BadNumber_what => k_is)
    (case nf_BadNumber_number => k_is)
    (case n_BadNumber_init => k_is)
    (case tf_BadNumber => k_is)
    (case kc_BadNumber => k_is)
    (case ex_BadNumber => k_is)
    (case ve_BadNumber => k_is)
    (case ty_BadNumber => k_is)
    (case sp_BadNumber => kernel_rfl)
    (case mr_BadNumber => k_is)
    (case l_BadNumber => k_is)
    (case c_BadNumber => k_is)
    (case hc_BadNumber => k_is)
    (case hv_BadNumber => rfl)
    (case hf_BadNumber => first | rfl | decide +kernel | kernel_rfl)
    (case hl_BadNumber => k_is)
    (case ga_BadNumber => k_is)
    (case gg_BadNumber => k_is)
    (case hd_BadNumber => k_is)
    (case te_BadNumber => kernel_rfl)
    (case pg_Straight => k_is)
    (case hd_Straight => k_is)
    (case po_Straight => k_is)
    (case sa_Straight => k_is)
    (case mk_Straight => k_is)
    (case kc_Straight => k_is)
    (case na_Straight_i => k_is)
    (case na_Straight_n => k_is)
    (case na_Straight_one => k_is)
    (case ca_Straight => k_is)
    (case mo_Straight => k_is)
    (case ne_Straight => k_is)
    (case pg_AtLeast => k_is)
    (case hd_AtLeast => k_is)
    (case po_AtLeast => k_is)
    (case sa_AtLeast => k_is)
    (case mk_AtLeast => k_is)
    (case kc_AtLeast => k_is)
    (case na_AtLeast_straight => k_is)
    (case ca_AtLeast => k_is)
    (case mo_AtLeast => k_is)
    (case pg_Rest => k_is)
    (case hd_Rest => k_is)
    (case po_Rest => k_is)
    (case sa_Rest => k_is)
    (case mk_Rest => k_is)
    (case kc_Rest => k_is)
    (case na_Rest_straight => k_is)
    (case na_Rest_modulus => k_is)
    (case na_Rest_rest => k_is)
    (case ca_Rest => k_is)
    (case mo_Rest => k_is)
    (case cg => k_is)
    (case ct => k_is)
    (case sup_ => k_is)
    (case opq_ => k_is)
    (case sf_Straight => k_is)
    (case os_Straight => k_is)
    (case ob_Straight => k_is)
    (case or_Straight_add => k_is)
    (case og_Straight_add => first | exact .inl rfl | exact .inr ⟨_, rfl⟩)
    (case of_Straight_add => k_is)
    (case oi_Straight_add => k_is)
    (case or_Straight_sub => k_is)
    (case og_Straight_sub => first | exact .inl rfl | exact .inr ⟨_, rfl⟩)
    (case of_Straight_sub => k_is)
    (case oi_Straight_sub => k_is)
    (case or_Straight_mul => k_is)
    (case og_Straight_mul => first | exact .inl rfl | exact .inr ⟨_, rfl⟩)
    (case of_Straight_mul => k_is)
    (case oi_Straight_mul => k_is)
    (case ki_S_S => kernel_rfl)
    (case ki_int_S => kernel_rfl)
    (case ki_str_S => kernel_rfl)
    (case ki_tup_S => kernel_rfl)
    (case nf_S_int => k_is)
    (case nf_S_str => k_is)
    (case nf_S_tup => k_is)
    (case n_abs => k_is)
    (case n_bool => k_is)
    (case n_int => k_is)
    (case n_isinstance => k_is)
    (case n_len => k_is)
    (case n_list => k_is)
    (case n_max => k_is)
    (case n_min => k_is)
    (case n_range => k_is)
    (case n_str => k_is)
    (case n_zip => k_is)
#print axioms PySem.Challenge.cw_loopsize_k21_sums_and_conditions_holds
