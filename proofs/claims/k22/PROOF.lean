import PyProof.Rows.All
import Wide.All
import OpenK.AllK
import Wide.FinOn
import HandS.ForMost
import HandS.ForExc
import HandS.ExcInit
import HandS.ExcField
import KE.KExcSuper
import HandS.Star
import HandS.IsInst
import HandS.Style
import HandS.OwnEq
import HandS.MakeKwOnly
import KE.KOpsOwn
import PyProof.AutoFloatOps
import HandS.Evl
import HandS.Wide
import HandS.Zip
import HandS.Comp
import HandS.Walk
import HandS.Iter
import HandS.List
import KE.KxText
import PySem.Challenge.RW_loopsize_k22_turns_of_loops
set_option Elab.async false
set_option linter.all false
set_option maxRecDepth 100000
set_option maxHeartbeats 4000000
namespace PySem
namespace ErrX
open PySem.W PySem.Calls PyProof.Rows PySem.HandSPX L2

/-- self.f = f; .. -/
inductive Sets : List Str → List Stmt → Prop
  | nil : Sets [] []
  | cons {f : Str} {fs : List Str} {rest : List Stmt} {q1 q2 q3 q4 : Pos} : Sets fs rest → Sets (f :: fs) (.Assign [.Attribute (.Name "self" q1) f q2] (.Name f q3) q4 :: rest)

/-- super().__init__('..') first, then the fields -/
def SupBody (fs : List Str) (body : List Stmt) : Prop := ∃ (p0 p1 p2 p3 p4 p5 : Pos) (txt : Str) (k : Nat) (rest : List Stmt),
  body = .Expr (.Call (.Attribute (.Call (.Name "super" p0) [] [] p1) "__init__" p2) [.Constant (.str txt) k p3] [] p4) p5 :: rest ∧ Sets fs rest ∧
  ∃ pl : Env → Sem Bool, ∀ env : Env, eval (.Call (.Attribute (.Call (.Name "super" p0) [] [] p1) "__init__" p2) [.Constant (.str txt) k p3] [] p4) env = (do
      let ov ← attributeBase (.Call (.Name "super" p0) [] [] p1) "__init__" env (eval (.Call (.Name "super" p0) [] [] p1) env)
      standAt p2.atName
      let (f, first) ← holding [ov] (getMethod ov "__init__" (pl env))
      callWith p4 f first (backTo p4 (starEach [.Constant (.str txt) k p3] env)) [])

structure ErrTxt (P : Program) (K : Frag) (mg : Str → Option Value) (x : Str) (C fI : Addr) (fs : List Str) : Prop where
  gC : mg x = some (.ref C)
  cls : ∃ nm q N bs bm sn sub ab col dd k0 k1 k2 k3 k5, K.lookup C = some (excClassObj nm q C N bs bm true sn sub ab col dd k0 k1 k2 k3 k5 "ValueError.__new__") ∧ refsVE bm = true
  sa : findIn K (.ref C) "__setattr__" = some (some (.builtin "object.__setattr__"))
  noF : ∀ f ∈ fs, findIn K (.ref C) f = some none
  iC : findIn K (.ref C) "__init__" = some (some (.ref fI))
  tC : typeIn K (.ref fI) = some (.type "function")
  kC : keepIn K (.ref C) = true
  exC : subIn K (.ref C) (.type "BaseException") = some true
  veC : subIn K (.ref C) (.type "ValueError") = some true
  tyC : typeIn K (.ref C) = some (.type "type")
  sup : nsIn K mainGlobals "super" = some none
  opq : nsIn K cStatics "thirdparty.any" = some none
  spI : ks_superIn K C C "__init__" = some (some (.builtin "ValueError.__init__"))
  mrC : mroIn K C (.ref C) = some true
  top : (P.main.scope.names.lookup ("super" : Str)).isSome = false
  fn : ∃ (oc : Value) (od : Option Addr) (osl : Array (Option Value)) (qual : Str) (st : Stmt) (kV doc pm : Value) (an : Option Addr) (ct : Value) (cc cda : Addr) (ccl cl : Value) (cdd cld : Option Addr) (ccs csl : Array (Option Value)) (vs : Array Value) (file : Str) (tf : Tok) (ar : Arg) (args : List Arg),
    K.lookup fI = some ⟨oc, od, .func (ksFn "__init__" qual (defArgs st) (defBody st) (defScope st) .none kV doc pm an (.ref cda) ct cc), osl⟩ ∧ codeIn K (.ref cda) qual = true ∧
    K.lookup cda = some ⟨ccl, cdd, .fields vs, ccs⟩ ∧ vs[2]? = some (.str file tf) ∧ ((P.main.file : Str) == file) = true ∧
    K.lookup cc = some ⟨cl, cld, .cell (some (.ref C)), csl⟩ ∧
    SupBody fs (defBody st) ∧ ((defArgs st).posonlyargs ++ (defArgs st).args).head? = some ar ∧ ar.arg = "self" ∧
    (∀ us : List Value, us.length = fs.length + 1 → bindArgs (ksFn "__init__" qual (defArgs st) (defBody st) (defScope st) .none kV doc pm an (.ref cda) ct cc) ⟨us, []⟩ = pure ((("self" : Str) :: fs).zip us)) ∧
    (defScope st).names.lookup ("super" : Str) = some .globalImplicit ∧ (defScope st).names.lookup ("__class__" : Str) = some .free ∧ (∀ f ∈ ("self" : Str) :: fs, (defScope st).names.lookup f = some .local) ∧
    (defScope st).kind = .function ∧ (∀ x ∈ (defScope st).names, x.2 ≠ .cell) ∧ (defScope st).isCoroutine = false ∧ (defScope st).isGenerator = false ∧ (("self" : Str) :: fs).Nodup ∧ (∀ f ∈ ("self" : Str) :: fs, (f == ("__debug__" : Str)) = false)

/-- the fields' values, one stored behind the other -/
def setAll (m : Str → Option Value) : List Str → List Value → Str → Option Value
  | f :: fs, u :: us => setAll (fun y => if y = f then some u else m y) fs us
  | _, _ => m
def setL (acc : List (Str × V)) : List Str → List V → List (Str × V)
  | f :: fs, v :: vs => setL ((f, v) :: acc) fs vs
  | _, _ => acc
theorem setL_rel : ∀ {fs : List Str} {vs : List V} {us : List Value} {acc : List (Str × V)} {m : Str → Option Value}, Vals vs us → (∀ f, RelO (acc.lookup f) (m f)) → ∀ f, RelO ((setL acc fs vs).lookup f) (setAll m fs us f)
  | [], _, _, _, _, _, r, f => by
    unfold setL setAll
    exact r f
  | g :: fs, _, _, _, _, .nil, r, f => by
    unfold setL setAll
    exact r f
  | g :: fs, _, _, _, _, .cons rv rs, r, f => by
    unfold setL setAll
    exact setL_rel rs (fun y => relO_put rv r y) f
/-- the exception at x: no field yet | the fields m0 (names nl) in the dict at dx, that lies above z -/
def XAt (h : Heap) (x C z : Addr) (m0 : Str → Option Value) (nl : List Str) : Prop :=
  (∃ t1 : Addr, h.get? x = some { cls := .ref C, data := .fields #[.ref t1, .none, .none, .none, .bool false, .none] } ∧ (∀ y, m0 y = none) ∧ nl = []) ∨
  ∃ (t1 dx : Addr), h.get? x = some { cls := .ref C, dict := some dx, data := .fields #[.ref t1, .none, .none, .none, .bool false, .none] } ∧ z ≤ dx ∧ dx ≠ x ∧ h.Ns1 dx m0 ∧ Within m0 nl
structure InitEnd (h h' : Heap) (x C : Addr) (fs : List Str) (us : List Value) : Prop where
  keep : ∀ b o, b ≠ x → h.get? b = some o → h'.get? b = some o
  obj : ∃ nl, XAt h' x C h.objs.size (setAll (fun _ => none) fs us) nl

theorem ld {M : Model} {s : Shared} {env : Env} {m : Str → Option Value} {x : Str} {pos : Pos} {v : Value} {Q : Value → Shared → Prop} {A : Around} {E : Value → Shared → Prop} (hn : s.heap.Ns env.locals m) (hv : m x = some v) (h : Q v s)
    (hk : env.scope.kind = .function) (hl : env.kindOf x = some .local) (hd : (x == ("__debug__" : Str)) = false) :
    wpAny M A (eval (.Name x pos) env) Q E s := wpAny_Name (wpAny_loadName_local hk hl hn hv h) hd
section
variable {prog : Program} {w : World} {A : Around} {E : Value → Shared → Prop} {K : Frag} {mg : Str → Option Value} {C fI : Addr} {nm : Str} {fs0 : List Str}
theorem sets_run (T : ErrTxt prog K mg nm C fI fs0) {env : Env} {x z : Addr} {m : Str → Option Value} {Q : Flow → Shared → Prop} (hk : env.scope.kind = .function) (hself : m "self" = some (.ref x)) (hls : env.kindOf "self" = some .local) (hlz : env.locals < z) (hxL : x ≠ env.locals) (Kx : ∀ b o, K.lookup b = some o → b ≠ x ∧ b < z) :
    ∀ {fs : List Str} {rest : List Stmt} {us : List Value} {m0 : Str → Option Value} {nl : List Str} {s : Shared}, Sets fs rest → us.length = fs.length → nl.length + fs.length ≤ 900 → (∀ f ∈ fs, f ∈ fs0) → (∀ f ∈ fs, env.kindOf f = some .local ∧ (f == ("__debug__" : Str)) = false) →
      (∀ (i : Nat) (f : Str) (u : Value), fs[i]? = some f → us[i]? = some u → m f = some u) → K.In s.heap → z ≤ s.heap.objs.size → s.heap.Ns env.locals m → XAt s.heap x C z m0 nl →
      (∀ h' tk nl', (∀ b o, b ≠ x → b < z → s.heap.get? b = some o → h'.get? b = some o) → XAt h' x C z (setAll m0 fs us) nl' → Q .next { s with heap := h', toks := tk }) →
      wpAny (model prog w) A (execs rest env) Q E s
  | _, _, us, m0, nl, s, .nil, hl, hn, _, _, _, _, _, _, hx, q => by
    have e : us = [] := List.length_eq_zero_iff.mp hl
    subst e
    exact wpAny_execs_nil (q s.heap s.toks nl (fun _ _ _ _ h => h) hx)
  | _, _, [], m0, nl, s, .cons S, hl, _, _, _, _, _, _, _, _, _ => by cases hl
  | _, _, u :: us, m0, nl, s, .cons (f := f) (fs := fs) (rest := rest) S, hl, hn, hf0, hfl, hm, X, hz, N, hx, q => by
    obtain ⟨nm', q', N', bs, bm, sn, sub, ab, col, dd, k0, k1, k2, k3, k5, hC, hbm⟩ := T.cls
    have hcl : clsIn K C = some { name := nm', bases := bs, mro := .ref C :: bm, ns := N', qualname := q', hasDict := true, slotNames := sn, subclasses := sub, abstract := ab, collection := col, hasDel := false } := by unfold clsIn; rw [hC] <;> rfl
    have hnof := T.noF f (hf0 f List.mem_cons_self)
    have hlf := hfl f List.mem_cons_self
    refine wpAny_execs_cons (plainObj_wpAny_Assign_Attribute ?_)
    refine ld N (hm 0 f u rfl rfl) (ld N hself ?_ hk hls (by decide)) hk hlf.1 hlf.2
    have hm' : ∀ (i : Nat) (g : Str) (w : Value), fs[i]? = some g → us[i]? = some w → m g = some w := fun i g w h1 h2 => hm (i + 1) g w h1 h2
    have step : ∀ (h3 : Heap) (tk3 : Nat) (dx t1 : Addr), (∀ b o, b ≠ x → b ≠ dx → s.heap.get? b = some o → h3.get? b = some o) → z ≤ dx → dx ≠ x → h3.get? x = some { cls := .ref C, dict := some dx, data := .fields #[.ref t1, .none, .none, .none, .bool false, .none] } →
        h3.Ns1 dx (fun y => if y = f then some u else m0 y) → Within (fun y => if y = f then some u else m0 y) (f :: nl) → z ≤ h3.objs.size → wpAny (model prog w) A (execs rest env) Q E { s with heap := h3, toks := tk3 } := by
      intro h3 tk3 dx t1 k3 zd dne hx3 n3 w3 hz3
      have hxz : ∀ b : Addr, b < z → b ≠ dx := fun b hb e => absurd (e ▸ hb) (Nat.not_lt.mpr zd)
      obtain ⟨oL, es, ep, hL, r⟩ := N
      refine sets_run T hk hself hls hlz hxL Kx (fs := fs) (rest := rest) (us := us) (s := { s with heap := h3, toks := tk3 }) S (Nat.succ.inj hl) (nl := f :: nl) (by rw [List.length_cons] at hn ⊢; omega) (fun g hg => hf0 g (List.mem_cons_of_mem _ hg)) (fun g hg => hfl g (List.mem_cons_of_mem _ hg)) hm' (fun b o e => ?_) hz3 ⟨oL, es, ep, k3 _ _ (Ne.symm hxL) (hxz _ hlz) hL, r⟩ (.inr ⟨t1, dx, hx3, zd, dne, n3, w3⟩) fun h' tk nl' k q' => ?_
      · exact k3 b o (Kx b o e).1 (hxz b (Kx b o e).2) (X b o e)
      · exact q h' tk nl' (fun b o hb hbz e => k b o hb hbz (k3 b o hb (hxz b hbz) e)) q'
    obtain ⟨hp, g, d, tk, os⟩ := s
    rcases hx with ⟨t1, hx, hm0, hnl⟩ | ⟨t1, dx, hx, zd, dne, n0, w0⟩
    · subst hnl
      have em : (fun y => if y = f then some u else none) = (fun y => if y = f then some u else m0 y) := by
        funext y
        rw [hm0 y]
      refine set_plain X (ox := { cls := .ref C, data := .fields #[.ref t1, .none, .none, .none, .bool false, .none] }) (od := none) ⟨hx, rfl, rfl, trivial⟩ T.sa ?_
      refine exc_osa X hx hcl (show refsVE (.ref C :: bm) = true from hbm) rfl hnof (fun h' tk' dx k dn dne hx' hn' => ?_)
      rw [em] at hn'
      have hzd : z ≤ dx := Nat.le_trans hz dn
      refine step h' tk' dx t1 (fun b o hb _ e => k b o hb e) hzd dne hx' hn' (fun y hy => ?_) ?_
      · by_cases e : y = f
        · rw [e]
          exact List.mem_cons_self
        · exact absurd (by show (if y = f then some u else m0 y) = none; rw [if_neg e, hm0 y]) hy
      · obtain ⟨o, _, _, e, _⟩ := hn'
        exact Nat.le_of_lt (Nat.lt_of_le_of_lt hzd (Heap.lt_size e))
    · obtain ⟨oD, _, _, hoD, _, _⟩ := n0.count w0
      refine set_plain X (ox := { cls := .ref C, dict := some dx, data := .fields #[.ref t1, .none, .none, .none, .bool false, .none] }) (od := some oD) ⟨hx, rfl, rfl, hoD⟩ T.sa ?_
      refine PySem.OEX.osa_old X hx n0 w0 (by rw [List.length_cons] at hn; omega) hcl (show refsVE (.ref C :: bm) = true from hbm) rfl hnof (fun h' tk' k hn' => ?_)
      refine step h' tk' dx t1 (fun b o _ hb e => k b o hb e) zd dne (k x _ (Ne.symm dne) hx) hn' (Within.cons f u w0) ?_
      obtain ⟨o, _, _, e, _⟩ := hn'
      exact Nat.le_of_lt (Nat.lt_of_le_of_lt zd (Heap.lt_size e))

theorem look_rev : ∀ {ks : List Str} {vs : List Value} {i : Nat} {k : Str} {v : Value}, ks.Nodup → ks[i]? = some k → vs[i]? = some v → (ks.zip vs).reverse.lookup k = some v
  | [], _, _, _, _, _, h, _ => by simp at h
  | _ :: _, [], _, _, _, _, _, h => by simp at h
  | k0 :: ks, v0 :: vs, 0, k, v, nd, h1, h2 => by
    have e1 : k0 = k := Option.some.inj h1
    have e2 : v0 = v := Option.some.inj h2
    subst e1; subst e2
    rw [List.zip_cons_cons, List.reverse_cons, List.lookup_append]
    have hn : (ks.zip vs).reverse.lookup k0 = none := by
      rw [List.lookup_eq_none_iff]
      intro p hp
      have hm := (List.of_mem_zip (List.mem_reverse.mp hp)).1
      have hne : k0 ≠ p.1 := fun e => (List.nodup_cons.mp nd).1 (e ▸ hm)
      simpa using hne
    rw [hn]
    simp [List.lookup]
  | k0 :: ks, v0 :: vs, i + 1, k, v, nd, h1, h2 => by
    rw [List.zip_cons_cons, List.reverse_cons, List.lookup_append, look_rev (List.nodup_cons.mp nd).2 h1 h2]
    rfl
theorem err_init (T : ErrTxt prog K mg nm C fI fs0) {R : Result → Shared → Prop} {base : Heap} {s : Shared} {x t0 : Addr} {us : List Value} (M : Mod K mg base) (bk : ∀ b o, base.get? b = some o → s.heap.get? b = some o) (hx : s.heap.get? x = some (excO C t0))
    (Kx : ∀ b o, K.lookup b = some o → b ≠ x ∧ b < s.heap.objs.size) (hl : us.length = fs0.length) (hn0 : fs0.length ≤ 900) (hroom : A.depth < recursionLimit)
    (hq : ∀ h' tk, InitEnd s.heap h' x C fs0 us → R (.ok (.ret .none)) { s with heap := h', toks := tk }) :
    codeAny (model prog w) A (.call (.ref fI) ⟨.ref x :: us, []⟩) R s := by
  obtain ⟨oc, od, osl, qual, st, kV, doc, pm, an, ct, cc, cda, ccl, cl, cdd, cld, ccs, csl, vs, file, tf, ar, args, ho, hcd, hcode, hvs, hfile, hcell, ⟨p0, p1, p2, p3, p4, p5, txt, kk, rest, eb, S, pl, hev⟩, hp, har, hb, hks, hkc, hloc, hk, hnc, hco, hgen, hnd, hdbg⟩ := T.fn
  obtain ⟨nm', q', N', bs, bm, sn, sub, ab, col, dd, k0, k1, k2, k3, k5, hC, hbm⟩ := T.cls
  have hcl : clsIn K C = some { name := nm', bases := bs, mro := .ref C :: bm, ns := N', qualname := q', hasDict := true, slotNames := sn, subclasses := sub, abstract := ab, collection := col, hasDel := false } := by unfold clsIn; rw [hC] <;> rfl
  have X : K.In s.heap := M.kin.keeps bk
  have hlim : s.heap.NoLimit := M.nolimit.keeps bk
  obtain ⟨mb, hmb, hmb2⟩ := M.blt
  refine ks_codeAny_call_defAt (fd := ksFn "__init__" qual (defArgs st) (defBody st) (defScope st) .none kV doc pm an (.ref cda) ct cc) (body := defBody st) (binds := (("self" : Str) :: fs0).zip (.ref x :: us)) hroom (X _ _ ho) rfl hlim (codeRec_of X hcd) rfl (BindsTo.of_eq (hb _ (by rw [List.length_cons, hl]))) hnc
    (fun y hy => hloc y.1 (List.of_mem_zip hy).1) (fun h1 hns kp => ?_) hco hgen hk
  have X1 : K.In h1 := X.keeps kp
  have hx1 := kp _ _ hx
  rw [eb]
  refine ks_wpAt_execs_cons (ks_wpAt_Expr_any ?_ (by show ((defScope st).kind == .module && _) = false; rw [hk]; rfl) rfl)
  refine ks_wpAt_MethodCall (pl := pl _) ?_ (hev _)
  refine ks_wpAt_super_base (ar := ar) hks hkc (by decide) rfl (X1 _ _ ho) rfl hp rfl (X1 _ _ hcode) rfl hvs hfile T.top ?_
  refine ks_loadName_global hk hks (loadGlobal_builtin (M.glob.keeps fun b o e => kp b o (bk b o e)) (mg_none_of M.kin M.glob T.sup) (hmb.keeps fun b o e => kp b o (bk b o e)) ((hmb2 _ (by decide)).trans (show bootBuiltins "super" = some (.type "super") by decide +kernel)) ⟨rfl, ?_⟩)
  refine wpAny_loadName_free hk hkc rfl ⟨_, X1 _ _ hcell, rfl⟩ ?_
  rw [har]
  have hself : ((("self" : Str) :: fs0).zip (Value.ref x :: us)).reverse.lookup ("self" : Str) = some (.ref x) := look_rev hnd (i := 0) rfl rfl
  refine wpAny_loadName_local hk (hloc _ List.mem_cons_self) hns hself ?_
  have hD1 := X1 _ _ hC
  refine ks_wpAny_isType_cls hD1 rfl ⟨rfl, ?_⟩
  refine ks_wpAny_call_super hD1 rfl hx1 rfl (fun c e => by cases e) (looks_mroIn X1 T.mrC) (fun h2 hso k2 => ?_)
  have X2 : K.In h2 := X1.keeps k2
  have hx2 := k2 _ _ hx1
  have hI2 : Looks (model prog w) h2 (isInstance (.ref x) (.type "ValueError")) true := (show InstAt h2 x (excO C t0) C none from ⟨hx2, rfl, rfl, trivial⟩).type.andThen (looks_subIn X2 T.veC)
  have hm := T.spI
  unfold ks_superIn at hm
  rw [hcl] at hm
  have hxC : x ≠ C := fun e => (Kx C _ hC).1 e.symm
  refine kxs_getMethod kxs_ValueError hso (looks_opaque X2 T.opq) (l₀ := .ref C :: bm) (fun A Q E s k q => wpAny_bind ((looks_clsIn X2 hcl) A _ E s k (wpAny_pure q))) rfl X2 hm hI2 hxC (by decide) ?_
  refine kxs_callWith (i := "ValueError.__init__") (x := x) rfl (evalArgs_plain (Calls.spliced_cons (Calls.Constant_str (x := txt) (k := kk) (pos := p3) ?_)))
  refine Calls.spliced_nil ?_
  refine ⟨(Heap.get?_push_at rfl rfl : KxsAt "ValueError.__init__" h2.objs.size x (h2.push (kxs_mw "ValueError.__init__" x))), ?_⟩
  have kp3 : ∀ b o, h2.get? b = some o → (h2.push (kxs_mw "ValueError.__init__" x)).get? b = some o := fun b o e => Heap.get?_push_of_some _ e
  have hu : (h2.push (kxs_mw "ValueError.__init__" x)).get? h2.objs.size = some (kxs_mw "ValueError.__init__" x) := Heap.get?_push_at rfl rfl
  refine wpAny_call (codeAny_of_tree ?_)
  show wpAny _ (Around.in1 _) (callAny (.ref h2.objs.size) ⟨[_], []⟩) _ _ _
  simp only [callAny]
  refine wpAny_bind (wpAny_load hu ?_)
  simp only [kxs_mw, show (Value.type "method-wrapper" == Value.type "method" || Value.type "method-wrapper" == Value.type "builtin_function_or_method" || Value.type "method-wrapper" == Value.type "method-wrapper") = true by decide, if_true]
  refine KFB.if_so (by decide) ?_
  refine wpAny_bind (check_bound_init F.excBase_ValueError.toExcCallFacts (kp3 _ _ (X2 _ _ hC)) (kp3 _ _ hx2) rfl ?_)
  refine wpAny_bind (wpAny_pure (wpAny_pure ?_))
  refine ⟨plainId_quiet F.excBase_ValueError.init.plain _, codeAny_builtin F.excBase_ValueError.initEntry ?_⟩
  rw [Around.under_plainId F.excBase_ValueError.init.plain _]
  refine exc_init_tree (cls := .ref C) (t0 := t0) (dv := none) (c2 := .none) (c3 := .none) (b4 := .bool false) (kp3 _ _ hx2) (by rw [sizeLine_eq]; show 1 ≤ 16777216; decide) fun h4 k4 hx4 ht4 => ?_
  have kall : ∀ b o, b ≠ x → h1.get? b = some o → h4.get? b = some o := fun b o hb e => k4 b o hb (kp3 b o (k2 b o e))
  have hsz : s.heap.objs.size < h1.objs.size := hns.lt
  refine wpAt_of_wpAny ?_
  have hxs : x < s.heap.objs.size := Heap.lt_size hx
  obtain ⟨oL, es, ep, hL, r⟩ := hns
  have ns4 : h4.Ns s.heap.objs.size (fun y => ((("self" : Str) :: fs0).zip (Value.ref x :: us)).reverse.lookup y) := ⟨oL, es, ep, kall _ _ (Nat.ne_of_gt hxs) hL, r⟩
  have hz4 : h1.objs.size ≤ h4.objs.size := by
    have z1 := Heap.lt_size hso
    have z2 := Heap.lt_size ht4
    rw [Heap.size_push] at z2
    exact Nat.le_of_lt (Nat.lt_trans z1 (Nat.lt_trans (Nat.lt_succ_self _) z2))
  refine sets_run (env := ksEnv qual (defScope st) s.heap.objs.size fI (.ref cda) cc) (us := us) (m0 := fun _ => none) (nl := []) (z := h1.objs.size) (x := x) (m := fun y => ((("self" : Str) :: fs0).zip (Value.ref x :: us)).reverse.lookup y) T hk hself (hloc _ List.mem_cons_self) hsz (Nat.ne_of_lt hxs) (fun b o e => ⟨(Kx b o e).1, Nat.lt_trans (Kx b o e).2 hsz⟩) S hl (by simpa using hn0) (fun f hf => hf)
    (fun f hf => ⟨hloc f (List.mem_cons_of_mem _ hf), hdbg f (List.mem_cons_of_mem _ hf)⟩) (fun i f u h1 h2 => ?_) (fun b o e => kall b o (Kx b o e).1 (X1 b o e)) hz4 ns4 (.inl ⟨_, hx4, fun _ => rfl, rfl⟩) fun h' tk nl' k q => ?_
  · exact look_rev hnd (i := i + 1) h1 h2
  · refine hq h' tk ⟨fun b o hb e => k b o hb (Nat.lt_trans (Heap.lt_size e) hsz) (kall b o hb (kp b o e)), nl', ?_⟩
    rcases q with q | ⟨t1, dx, q1, q2, q3⟩
    · exact .inl q
    · exact .inr ⟨t1, dx, q1, Nat.le_trans (Nat.le_of_lt hsz) q2, q3⟩
/-- a made error -/
structure Made (h h' : Heap) (e C : Addr) (fs : List Str) (us : List Value) : Prop where
  keep : ∀ b o, h.get? b = some o → h'.get? b = some o
  new : h.objs.size ≤ e
  obj : ∃ nl, XAt h' e C h.objs.size (setAll (fun _ => none) fs us) nl
theorem err_made (T : ErrTxt prog K mg nm C fI fs0) {R : Result → Shared → Prop} {base : Heap} {s : Shared} {us : List Value} (M : Mod K mg base) (bk : ∀ b o, base.get? b = some o → s.heap.get? b = some o) (hl : us.length = fs0.length) (hn0 : fs0.length ≤ 900) (hroom : A.depth + 1 < recursionLimit)
    (hq : ∀ h' tk e, Made s.heap h' e C fs0 us → R (.ok (.ret (.ref e))) { s with heap := h', toks := tk }) :
    codeAny (model prog w) A (.call (.ref C) ⟨us, []⟩) R s := by
  obtain ⟨nm', q', N', bs, bm, sn, sub, ab, col, dd, k0, k1, k2, k3, k5, hC, hbm⟩ := T.cls
  have X : K.In s.heap := M.kin.keeps bk
  obtain ⟨hp, g, dr, tk, os⟩ := s
  have k : ∀ b o, hp.get? b = some o → ((hp.push (kdv_tup us)).push (excO C hp.objs.size)).get? b = some o := fun b o e => Heap.get?_push_of_some _ (Heap.get?_push_of_some _ e)
  have hget : ((hp.push (kdv_tup us)).push (excO C hp.objs.size)).get? (hp.objs.size + 1) = some (excO C hp.objs.size) := by heap_get
  have hus : us.length ≤ sizeLine := by rw [sizeLine_eq]; omega
  refine call_own F.excBase_ValueError (fun X => refsVE_contains X bm hbm) (X _ _ hC) (looks_findIn X T.iC) (fun self => bind_fn X self T.tC) hus ?_
  have hKx : ∀ b o, K.lookup b = some o → b ≠ hp.objs.size + 1 ∧ b < ((hp.push (kdv_tup us)).push (excO C hp.objs.size)).objs.size := fun b o e => by
    have z : b < hp.objs.size := Heap.lt_size (X b o e)
    refine ⟨Nat.ne_of_lt (Nat.lt_succ_of_lt z), ?_⟩
    rw [Heap.size_push, Heap.size_push]
    exact Nat.lt_succ_of_lt (Nat.lt_succ_of_lt z)
  refine err_init (s := ⟨(hp.push (kdv_tup us)).push (excO C hp.objs.size), g, dr, tk, os⟩) T M (fun b o e => k b o (bk b o e)) hget hKx hl hn0 ?_ fun h' tk' I => ?_
  · show A.depth + 1 < recursionLimit
    exact hroom
  · have old : ∀ b o, hp.get? b = some o → h'.get? b = some o := fun b o e => I.keep b o (Nat.ne_of_lt (Nat.lt_succ_of_lt (Heap.lt_size e))) (k b o e)
    obtain ⟨nl, ob⟩ := I.obj
    refine ⟨rfl, hq h' tk' (hp.objs.size + 1) ⟨old, Nat.le_succ _, nl, ?_⟩⟩
    rcases ob with q | ⟨t1, dx, q1, q2, q3⟩
    · exact .inl q
    · refine .inr ⟨t1, dx, q1, Nat.le_trans ?_ q2, q3⟩
      show hp.objs.size ≤ ((hp.push (kdv_tup us)).push (excO C hp.objs.size)).objs.size
      rw [Heap.size_push, Heap.size_push]
      exact Nat.le_succ_of_le (Nat.le_succ _)
end
end ErrX
end PySem

namespace L2
open PySem PySem.Spec PyProof.Rows PySem.ErrX
section
variable {X : Cx} {C fI : Addr} {x : Str} {fs : List Str}
/-- Err(e, ..): the error's class, its dict d, new -/
def tMkE (C : Addr) (fs : List Str) (ta : TA) : St → Hp → XK → Prop := fun σ H Q => ta σ H fun vs H1 => vs.length = fs.length ∧ ∀ d, H1 d = none → Q (.ref C) (some d) (upd H1 d (.xd (setL [] fs vs)))
theorem mk_err {pins : List (Addr × Obj)} {σ : St} {H1 : Hp} {Q : XK} {s1 : Shared} {k : Nat} {vs : List V} {us : List Value} (T : ErrTxt X.prog X.K X.mg x C fI fs) (hf : fs ≠ []) (hn : fs.length ≤ 900) (hr : Room k X.A) (I1 : Inv X pins σ H1 s1) (r1 : Vals vs us) (hlv : vs.length = fs.length)
    (q1 : ∀ d, H1 d = none → Q (.ref C) (some d) (upd H1 d (.xd (setL [] fs vs)))) : wpAny (model X.prog X.w) X.A (call (.ref C) us) (MkP X pins σ Q) X.xe s1 := by
  have hlu : us.length = fs.length := by rw [← Paired.length r1]; exact hlv
  obtain ⟨hp, g, dr, tk, os⟩ := s1
  refine wpAny_call (err_made T I1.mod (fun b o e => I1.bk b o e) hlu hn (by have := hr.dp; omega) fun h' tk' e M => ?_)
  show MkP X pins σ Q (.ref e) ⟨h', g, dr, tk', os⟩
  obtain ⟨nl, ob⟩ := M.obj
  have hfst : ∃ f0 fr u0 ur, fs = f0 :: fr ∧ us = u0 :: ur := by
    cases fs with
    | nil => exact absurd rfl hf
    | cons f0 fr =>
      cases us with
      | nil => cases hlu
      | cons u0 ur => exact ⟨f0, fr, u0, ur, rfl, rfl⟩
  rcases ob with ⟨t1, hoe, hnone, _⟩ | ⟨t1, d, hoe, hdz, dne, hns, _⟩
  · exfalso
    obtain ⟨f0, fr, u0, ur, rfl, rfl⟩ := hfst
    have key : ∀ (fs : List Str) (us : List Value) (m : Str → Option Value) (y : Str), (m y).isSome = true → (setAll m fs us y).isSome = true := by
      intro fs
      induction fs with
      | nil => intro us m y h; unfold setAll; exact h
      | cons f fs ih =>
        intro us m y h
        cases us with
        | nil => unfold setAll; exact h
        | cons u us =>
          unfold setAll
          refine ih us _ y ?_
          by_cases e : y = f
          · rw [if_pos e]; rfl
          · rw [if_neg e]; exact h
    have z := key fr ur (fun y => if y = f0 then some u0 else none) f0 (by rw [if_pos rfl]; rfl)
    have z2 := hnone f0
    unfold setAll at z2
    rw [z2] at z
    cases z
  · obtain ⟨G', g1, g2⟩ := restrict h' fun b => decide (b ≠ e)
    have gk : ∀ b, b ≠ e → G'.get? b = h'.get? b := fun b hb => g1 b (decide_eq_true hb)
    have ge : G'.get? e = none := g2 e (by simp)
    have old : ∀ b o, hp.get? b = some o → G'.get? b = some o := fun b o q => (gk b (Nat.ne_of_lt (Nat.lt_of_lt_of_le (Heap.lt_size q) M.new))).trans (M.keep b o q)
    have ob : ObjOk X.prog X.w (upd H1 d (.xd (setL [] fs vs))) G' d (.xd (setL [] fs vs)) :=
      ⟨_, hns.at (fun o q => (gk d dne).trans q), fun f => setL_rel (acc := []) (m := fun _ => none) r1 (fun _ => (True.intro : RelO none none)) f⟩
    have J : Inv X pins σ (upd H1 d (.xd (setL [] fs vs))) ⟨G', g, dr, tk', os⟩ := I1.laid (t' := tk') old hdz ob
    refine ⟨e, _, _, ⟨G', g, dr, tk', os⟩, _, .ref C, some d, rfl, J, fun b o q => ?_, ge, hoe, ⟨rfl, rfl⟩, rfl, rfl, ?_, rfl, I1.bare, raises_own T.exC T.tyC, q1 d (I1.hok.fresh hdz)⟩
    · by_cases hb : b = e
      · have q' : G'.get? b = some o := q
        rw [hb, ge] at q'; cases q'
      · exact (gk b hb).symm.trans q
    · rw [upd_ne (Ne.symm dne)]
      exact I1.hok.fresh M.new
theorem pmk_err {e : Expr} {es : List Expr} {ta : TA} {p pos : Pos} {k : Nat} (T : ErrTxt X.prog X.K X.mg x C fI fs) (hf : fs ≠ []) (hn : fs.length ≤ 900) (hr : Room k X.A) (ha : PA X (e :: es) ta) (hg : Gl X x := by rfl) (hdb : (x == ("__debug__" : Str)) = false := by decide)
    (he : starEach (e :: es) X.env = (false, eval e X.env) :: starEach es X.env := by rfl) (hpl : (backTo pos (starEach es X.env)).any (·.1) = false := by rfl) :
    PMk X (.Call (.Name x p) (e :: es) [] pos) (tMkE C fs ta) := by
  intro pins s σ H Q I h
  refine wpAny_Call_Name_kw (ld_glob I hg T.gC ?_ hdb)
  refine PySem.W.callWith_K (h₀ := X.base) I.ok.mod.kin T.kC (thn (ha.run pos pins s σ H _ I h) fun us s1 hh => ?_) he hpl
  obtain ⟨vs, H1, I1, r1, hlv, q1⟩ := hh
  exact ⟨I1.kIn, mk_err T hf hn hr I1 r1 hlv q1⟩
/-- raise Err(e, ..) -/
def tRaiseE (C : Addr) (fs : List Str) (W : WX) (ta : TA) : TS := fun _ σ H => tMkE C fs ta σ H fun cls d H' => W cls d σ H'
theorem ps_raiseE {e : Expr} {es : List Expr} {ta : TA} {W : WX} {p pos pos2 : Pos} {k : Nat} (hc : X.calm = true) (T : ErrTxt X.prog X.K X.mg x C fI fs) (hf : fs ≠ []) (hn : fs.length ≤ 900) (hr : Room k X.A) (tk : Takes X W) (ha : PA X (e :: es) ta) (hg : Gl X x := by rfl) (hdb : (x == ("__debug__" : Str)) = false := by decide)
    (he : starEach (e :: es) X.env = (false, eval e X.env) :: starEach es X.env := by rfl) (hpl : (backTo pos (starEach es X.env)).any (·.1) = false := by rfl) :
    PS X (.Raise (some (.Call (.Name x p) (e :: es) [] pos)) none pos2) (tRaiseE C fs W ta) := ps_raise hc tk (pmk_err T hf hn hr ha hg hdb he hpl)
end
end L2
namespace L2
open PySem PySem.Spec PyProof.Rows
/-! ### calls whose errors are wished for at the slots -/
section
variable {X : Cx} {CX : CXT} {k : Nat} {f C : Addr} {fd : FuncData} {ps : List Str} {sp : Sp} {E : St → XK} {x m : Str} {p pos apos : Pos} {e o a b : Expr} {es : List Expr} {ta tb : TE} {t : TA}
theorem pass0S (σ : St) : PassesAt CX0 X σ E0 := fun _ _ _ _ _ _ h => h.elim
theorem passLS (σ : St) : PassesAt (L2.CX X.prog X.w) X σ E0 := fun _ _ _ _ _ _ h => by
  obtain ⟨_, _, _, _, _, _, _, _, _, _, _, _, z⟩ := h
  exact z.elim
def tMakeS (C : Addr) (sp : Sp) (E : St → XK) (t : TA) : TE := fun σ H Q => t σ H fun vs H1 => ∀ x dx, H1 x = none → H1 dx = none → dx ≠ x →
  sp (.ref x :: vs) (upd (upd H1 dx (.own x)) x (.ins C dx [])) (fun v H2 => v = .non ∧ Q (.ref x) H2) (E σ)
theorem run_makeS {pins : List (Addr × Obj)} {σ : St} {H : Hp} {s : Shared} {Q : VK} {us : List Value} {vs : List V} (M : Mk X.K C f) (F : FnOk X.prog X.w X.K X.mg X.base CX k f fd ps sp) (hr : Room (k + 1) X.A) (hb : Binds X.K fd ps [])
    (hx : PassesAt CX X σ (E σ)) (I : Inv X pins σ H s) (r : Vals vs us)
    (h : ∀ x dx, H x = none → H dx = none → dx ≠ x → sp (.ref x :: vs) (upd (upd H dx (.own x)) x (.ins C dx [])) (fun v H2 => v = .non ∧ Q (.ref x) H2) (E σ)) :
    wpAny (model X.prog X.w) X.A (call (.ref C) us) (EP X pins σ Q) X.xe s := by
  have hq := h (s.heap.objs.size + 1) s.heap.objs.size (I.hok.fresh (Nat.le_succ _)) (I.hok.fresh (Nat.le_refl _)) (Nat.ne_of_lt (Nat.lt_succ_self _))
  have I2 := Inv.made (C := C) I
  have r2 : Vals (V.ref (s.heap.objs.size + 1) :: vs) (Value.ref (s.heap.objs.size + 1) :: us) := .cons rfl r
  have hl : (Value.ref (s.heap.objs.size + 1) :: us).length = ps.length := by
    have e := r2.length
    rw [F.len _ _ _ _ hq] at e
    exact e.symm
  have bb := hb { s with heap := (s.heap.push PySem.W.emptyDict).push (PySem.W.instObj C s.heap.objs.size) } (Value.ref (s.heap.objs.size + 1) :: us) I2.kIn (by rw [List.append_nil]; exact hl)
  rw [List.append_nil] at bb
  refine wpAny_call (make_map (f := f) I.kIn M.makes M.init (beq_iff_eq.mp M.fn) (codeAny_mono (F.run _ X.stack _ _ ⟨Value.ref (s.heap.objs.size + 1) :: us, []⟩ (Value.ref (s.heap.objs.size + 1) :: us) _ _ (E σ) (hr.make C us [])
    (I2.env0.make C us []) bb r2 hq) fun r s' hq' => ?_))
  cases r with
  | error e => exact hx pins _ _ e s' I2 hq'
  | ok fl =>
    cases fl with
    | ret u =>
      obtain ⟨v, H', I3, rv, ev, q3⟩ := I2.after hq'
      subst ev
      exact ⟨rv, ⟨V.ref (s.heap.objs.size + 1), H', I3, rfl, q3⟩⟩
    | next => exact False.elim hq'
    | brk => exact False.elim hq'
    | cont => exact False.elim hq'
theorem pe_makeS (M : Mk X.K C f) (F : FnOk X.prog X.w X.K X.mg X.base CX k f fd ps sp) (hr : Room (k + 1) X.A) (hg : Gl X x) (hm : X.mg x = some (.ref C)) (hb : Binds X.K fd ps []) (hx : ∀ σ, PassesAt CX X σ (E σ))
    (ha : PA X (e :: es) t) (hdb : (x == ("__debug__" : Str)) = false := by decide) (he : starEach (e :: es) X.env = (false, eval e X.env) :: starEach es X.env := by rfl) (hpl : (backTo pos (starEach es X.env)).any (·.1) = false := by rfl) :
    PE X (.Call (.Name x p) (e :: es) [] pos) (tMakeS C sp E t) := by
  refine ⟨fun pins s σ H Q I h => ?_⟩
  refine wpAny_Call_Name_kw (ld_glob I hg hm ?_ hdb)
  refine PySem.W.callWith_K (h₀ := X.base) I.ok.mod.kin M.kp (thn (ha.run pos pins s σ H _ I h) fun us s1 ⟨vs, H1, I1, r, q⟩ => ⟨I1.kIn, ?_⟩) he hpl
  exact run_makeS M F hr hb (hx σ) I1 r q
def tMethZ (C : Addr) (m : Str) (sp : Sp) (E : St → XK) (ta : TE) (t : TA) : TE := fun σ H Q => ta σ H fun x H1 => ∃ a dx fs, x = .ref a ∧ H1 a = some (.ins C dx fs) ∧ fs.lookup m = none ∧
  t σ H1 fun vs H2 => sp (x :: vs) H2 Q (E σ)
theorem pe_methZ {pl : Sem Bool} (he : PE X o ta) (c : Cls X.K C) (hm : Meth X.K C m f) (F : FnOk X.prog X.w X.K X.mg X.base CX k f fd ps sp) (hr : Room k X.A) (hb : Binds X.K fd ps []) (hx : ∀ σ, PassesAt CX X σ (E σ)) (ha : PA X (e :: es) t)
    (hst : starEach (e :: es) X.env = (false, eval e X.env) :: starEach es X.env := by rfl) (hpl : (backTo pos (starEach es X.env)).any (·.1) = false := by rfl)
    (ht : eval (.Call (.Attribute o m apos) (e :: es) [] pos) X.env = (do
      let ov ← eval o X.env
      standAt apos.atName
      let (f, first) ← holding [ov] (getMethod ov m pl)
      callWith pos f first (backTo pos (starEach (e :: es) X.env)) (backToKw pos (keywordEach [] X.env))) := by rfl) :
    PE X (.Call (.Attribute o m apos) (e :: es) [] pos) (tMethZ C m sp E ta t) := by
  refine ⟨fun pins s σ H Q I h => ?_⟩
  refine PySem.W.methodCall_KW (pl := pl) (thn (he.run pins s σ H _ I h) fun u s1 ⟨x, H1, I1, rx, a, dx, fs, ex, ea, l, q⟩ => ?_) ht
  subst ex
  obtain rfl : u = Value.ref a := rx
  refine getmeth_ok I1 ea c hm l ?_
  refine PySem.W.callWith_K (first := [.ref a]) (h₀ := X.base) I.ok.mod.kin hm.kp (thn (ha.run pos pins s1 σ H1 _ I1 q) fun us s2 ⟨vs, H2, I2, r, q2⟩ => ⟨I2.kIn, ?_⟩) hst hpl
  exact run_fnS (us := .ref a :: us) (vs := .ref a :: vs) F hr hb (hx σ) I2 (.cons rfl r) q2

/-- o.m(e, ..), o an instance of C1 or of C2 -/
def tMethU (C1 C2 : Addr) (m : Str) (sp1 sp2 : Sp) (E : St → XK) (ta : TE) (t : TA) : TE := fun σ H Q => ta σ H fun x H1 => ∃ a dx fs, x = .ref a ∧ fs.lookup m = none ∧
  ((H1 a = some (.ins C1 dx fs) ∧ t σ H1 fun vs H2 => sp1 (x :: vs) H2 Q (E σ)) ∨ (H1 a = some (.ins C2 dx fs) ∧ t σ H1 fun vs H2 => sp2 (x :: vs) H2 Q (E σ)))
theorem pe_methU {pl : Sem Bool} {CX2 : CXT} {k2 : Nat} {C2 f2 : Addr} {fd2 : FuncData} {ps2 : List Str} {sp2 : Sp} (he : PE X o ta) (c : Cls X.K C) (hm : Meth X.K C m f) (F : FnOk X.prog X.w X.K X.mg X.base CX k f fd ps sp) (hr : Room k X.A) (hb : Binds X.K fd ps []) (hx : ∀ σ, PassesAt CX X σ (E σ))
    (c2 : Cls X.K C2) (hm2 : Meth X.K C2 m f2) (F2 : FnOk X.prog X.w X.K X.mg X.base CX2 k2 f2 fd2 ps2 sp2) (hr2 : Room k2 X.A) (hb2 : Binds X.K fd2 ps2 []) (hx2 : ∀ σ, PassesAt CX2 X σ (E σ)) (ha : PA X (e :: es) t)
    (hst : starEach (e :: es) X.env = (false, eval e X.env) :: starEach es X.env := by rfl) (hpl : (backTo pos (starEach es X.env)).any (·.1) = false := by rfl)
    (ht : eval (.Call (.Attribute o m apos) (e :: es) [] pos) X.env = (do
      let ov ← eval o X.env
      standAt apos.atName
      let (f, first) ← holding [ov] (getMethod ov m pl)
      callWith pos f first (backTo pos (starEach (e :: es) X.env)) (backToKw pos (keywordEach [] X.env))) := by rfl) :
    PE X (.Call (.Attribute o m apos) (e :: es) [] pos) (tMethU C C2 m sp sp2 E ta t) := by
  refine ⟨fun pins s σ H Q I h => ?_⟩
  refine PySem.W.methodCall_KW (pl := pl) (thn (he.run pins s σ H _ I h) fun u s1 ⟨x, H1, I1, rx, a, dx, fs, ex, l, q⟩ => ?_) ht
  subst ex
  obtain rfl : u = Value.ref a := rx
  rcases q with ⟨ea, q⟩ | ⟨ea, q⟩
  · refine getmeth_ok I1 ea c hm l ?_
    refine PySem.W.callWith_K (first := [.ref a]) (h₀ := X.base) I.ok.mod.kin hm.kp (thn (ha.run pos pins s1 σ H1 _ I1 q) fun us s2 ⟨vs, H2, I2, r, q2⟩ => ⟨I2.kIn, ?_⟩) hst hpl
    exact run_fnS (us := .ref a :: us) (vs := .ref a :: vs) F hr hb (hx σ) I2 (.cons rfl r) q2
  · refine getmeth_ok I1 ea c2 hm2 l ?_
    refine PySem.W.callWith_K (first := [.ref a]) (h₀ := X.base) I.ok.mod.kin hm2.kp (thn (ha.run pos pins s1 σ H1 _ I1 q) fun us s2 ⟨vs, H2, I2, r, q2⟩ => ⟨I2.kIn, ?_⟩) hst hpl
    exact run_fnS (us := .ref a :: us) (vs := .ref a :: vs) F2 hr2 hb2 (hx2 σ) I2 (.cons rfl r) q2

/-! ### C(e, .., k = v, ..), errors wished for at the slots -/
def tMakeKS (C : Addr) (n m : Nat) (sp : Sp) (gV : List V → List V → List V) (E : St → XK) (t tk : TA) : TE := fun σ H Q => t σ H fun vs H1 => tk σ H1 fun zs H2 => vs.length = n ∧ zs.length = m ∧ ∀ x dx, H2 x = none → H2 dx = none → dx ≠ x →
  sp (gV (.ref x :: vs) zs) (upd (upd H2 dx (.own x)) x (.ins C dx [])) (fun v H3 => v = .non ∧ Q (.ref x) H3) (E σ)
theorem run_makeKS {pins : List (Addr × Obj)} {n : Nat} {ks : List Str} {g : List Value → List Value → List Value} {gV : List V → List V → List V} {σ : St} {H : Hp} {s : Shared} {Q : VK} {us ws : List Value} {vs zs : List V} (M : Mk X.K C f) (F : FnOk X.prog X.w X.K X.mg X.base CX k f fd ps sp) (hr : Room (k + 1) X.A) (hb : KBn X.K fd ps (n + 1) ks g gV) (hx : PassesAt CX X σ (E σ))
    (I : Inv X pins σ H s) (r : Vals vs us) (rz : Vals zs ws) (l1 : vs.length = n) (l2 : zs.length = ks.length)
    (h : ∀ x dx, H x = none → H dx = none → dx ≠ x → sp (gV (.ref x :: vs) zs) (upd (upd H dx (.own x)) x (.ins C dx [])) (fun v H2 => v = .non ∧ Q (.ref x) H2) (E σ)) :
    wpAny (model X.prog X.w) X.A (call (.ref C) us (ks.zip ws)) (EP X pins σ Q) X.xe s := by
  have hq := h (s.heap.objs.size + 1) s.heap.objs.size (I.hok.fresh (Nat.le_succ _)) (I.hok.fresh (Nat.le_refl _)) (Nat.ne_of_lt (Nat.lt_succ_self _))
  have I2 := Inv.made (C := C) I
  have r1 : Vals (V.ref (s.heap.objs.size + 1) :: vs) (Value.ref (s.heap.objs.size + 1) :: us) := .cons rfl r
  have r2 := hb.rel r1 rz
  have n1 : (Value.ref (s.heap.objs.size + 1) :: us).length = n + 1 := by
    rw [List.length_cons, ← r.length, l1]
  refine wpAny_call (make_map (f := f) I.kIn M.makes M.init (beq_iff_eq.mp M.fn) (codeAny_mono (F.run _ X.stack _ _ ⟨Value.ref (s.heap.objs.size + 1) :: us, ks.zip ws⟩ (g (Value.ref (s.heap.objs.size + 1) :: us) ws) _ _ (E σ) (hr.make C us (ks.zip ws))
    (I2.env0.make C us (ks.zip ws)) (hb.to _ (Value.ref (s.heap.objs.size + 1) :: us) ws I2.kIn n1 (rz.length.symm.trans l2)) r2 hq) fun r s' hq' => ?_))
  cases r with
  | error e => exact hx pins _ _ e s' I2 hq'
  | ok fl =>
    cases fl with
    | ret u =>
      obtain ⟨v, H', I3, rv, ev, q3⟩ := I2.after hq'
      subst ev
      exact ⟨rv, ⟨V.ref (s.heap.objs.size + 1), H', I3, rfl, q3⟩⟩
    | next => exact False.elim hq'
    | brk => exact False.elim hq'
    | cont => exact False.elim hq'
theorem pe_makeKS {n : Nat} {ks : List Str} {kws : List Keyword} {tk : TA} {g : List Value → List Value → List Value} {gV : List V → List V → List V} (M : Mk X.K C f) (F : FnOk X.prog X.w X.K X.mg X.base CX k f fd ps sp) (hr : Room (k + 1) X.A) (hg : Gl X x) (hm : X.mg x = some (.ref C)) (hb : KBn X.K fd ps (n + 1) ks g gV) (hx : ∀ σ, PassesAt CX X σ (E σ)) (ha : PA X (e :: es) t) (hkw : PK X kws tk)
    (hall : (backToKw pos (keywordEach kws X.env)).all (·.1.isSome) = true := by rfl) (hks : (backToKw pos (keywordEach kws X.env)).filterMap (·.1) = ks := by rfl) (hdb : (x == ("__debug__" : Str)) = false := by decide)
    (he : starEach (e :: es) X.env = (false, eval e X.env) :: starEach es X.env := by rfl) (hpl : ((backTo pos (starEach (e :: es) X.env)).any (·.1) || (backToKw pos (keywordEach kws X.env)).any (·.1.isNone)) = false := by rfl) :
    PE X (.Call (.Name x p) (e :: es) kws pos) (tMakeKS C n ks.length sp gV E t tk) := by
  refine ⟨fun pins s σ H Q I h => ?_⟩
  refine wpAny_Call_Name_kw (ld_glob I hg hm ?_ hdb)
  refine PySem.W.callWith_KW (h₀ := X.base) I.ok.mod.kin M.kp hall (thn (ha.run pos pins s σ H _ I h) fun us s1 ⟨vs, H1, I1, r, q⟩ => ?_) hpl he
  refine thn (hkw.run pos pins s1 σ H1 _ I1 q) fun ws s2 ⟨zs, H2, I2, rz, l1, l2, q2⟩ => ⟨I2.kIn, ?_⟩
  rw [hks]
  exact run_makeKS M F hr hb (hx σ) I2 r rz l1 l2 q2

/-! ### own operators -/
structure OwnBin (K : PySem.W.Frag) (C f : Addr) (op : Operator) : Prop where
  at_ : PySem.W.findIn K (.ref C) (PySem.dunder op.info.2) = some (some (.ref f))
  fn : PySem.W.isFn K (.ref f) = true
  self : PySem.W.selfFirst K C = true
  rc : ∃ rc, PySem.W.findIn K (.ref C) (dunderR op.info.2) = some rc ∧ (rc = none ∨ ∃ g : Addr, rc = some (.ref g))
  iF : ∃ fo, PySem.W.findIn K (.type "int") (PySem.dunder op.info.2) = some fo
  iR : ∃ ro, PySem.W.findIn K (.type "int") (dunderR op.info.2) = some ro
  sub : PySem.W.subIn K (.type "int") (.ref C) = some false
/-- x op y, x an instance of C; y one, too, or an int -/
def tOwn (C : Addr) (sp : Sp) (E : St → XK) (ta tb : TE) : TE := fun σ H Q => ta σ H fun x H1 => tb σ H1 fun y H2 => ∃ a dx fs, x = .ref a ∧ H2 a = some (.ins C dx fs) ∧
  ((∃ b dy gs, y = .ref b ∧ H2 b = some (.ins C dy gs)) ∨ ∃ i, y = .int i) ∧ sp [x, y] H2 Q (E σ)
theorem cmpBack_of {pins : List (Addr × Obj)} {σ : St} {Q : VK} {v : Value} {s' : Shared} (h : EP X pins σ Q v s') : PySem.W.CmpBack (EP X pins σ Q) v s' := by
  obtain ⟨x, H', I, r, q⟩ := h
  cases v <;> first | exact ⟨x, H', I, r, q⟩ | (exfalso; cases x <;> simp [RelV] at r)
theorem pe_own {op : Operator} (T : OwnBin X.K C f op) (F : FnOk X.prog X.w X.K X.mg X.base CX k f fd ps sp) (hr : Room k X.A) (hb : Binds X.K fd ps []) (hx : ∀ σ, PassesAt CX X σ (E σ)) (ha : PE X a ta) (hb' : PE X b tb) : PE X (.BinOp a op b pos) (tOwn C sp E ta tb) := by
  refine ⟨fun pins s σ H Q I h => ?_⟩
  refine wpAny_BinOp (binT ha hb' I h fun v u s2 x y H2 I2 rx ry q => ?_)
  obtain ⟨p, dx, fs, rfl, hp, hy, q⟩ := q
  obtain rfl : v = Value.ref p := rx
  obtain ⟨mA, J, _⟩ := ins_get I2.hok hp
  obtain ⟨od, J, _⟩ := J.look
  obtain ⟨m, hF⟩ := I2.fr
  have fin : wpAny (model X.prog X.w) X.A (call (.ref f) [.ref p, u]) (PySem.W.CmpBack (EP X pins σ Q)) X.xe s2 :=
    wpAny_mono (run_fnS (us := [.ref p, u]) (vs := [.ref p, y]) F hr hb (hx σ) I2 (.cons rfl (.cons ry .nil)) q) (fun _ _ z => cmpBack_of z) fun _ _ z => z
  rcases hy with ⟨b', dy, gs, rfl, hb2⟩ | ⟨i, rfl⟩
  · obtain rfl : u = Value.ref b' := ry
    obtain ⟨mB, J', _⟩ := ins_get I2.hok hb2
    obtain ⟨od', J', _⟩ := J'.look
    exact PySem.W.binop_K hF I2.ok.mod.kin J J'.type T.self T.at_ T.fn fin
  · obtain ⟨tk, rfl⟩ : ∃ t, u = Value.int i t := ry
    obtain ⟨rc, hrc, hp'⟩ := T.rc
    obtain ⟨fo, hfo⟩ := T.iF
    obtain ⟨ro, hro⟩ := T.iR
    exact PySem.W.ksp_binT (T := "int") hF I2.ok.mod.kin J rfl T.self T.at_ T.fn hrc hp' hfo hro T.sub fin
/-- -x -/
def tNegO (C : Addr) (sp : Sp) (E : St → XK) (ta : TE) : TE := fun σ H Q => ta σ H fun x H1 => ∃ a dx fs, x = .ref a ∧ H1 a = some (.ins C dx fs) ∧ sp [x] H1 Q (E σ)
theorem pe_negO (hs : PySem.W.findIn X.K (.ref C) "__neg__" = some (some (.ref f))) (hf : PySem.W.isFn X.K (.ref f) = true) (F : FnOk X.prog X.w X.K X.mg X.base CX k f fd ps sp) (hr : Room k X.A) (hb : Binds X.K fd ps []) (hx : ∀ σ, PassesAt CX X σ (E σ)) (ha : PE X a ta) : PE X (.UnaryOp .USub a pos) (tNegO C sp E ta) := by
  refine ⟨fun pins s σ H Q I h => ?_⟩
  refine UnaryOp_ (thn (ha.run pins s σ H _ I h) fun v s1 ⟨x, H1, I1, r1, p, dx, fs, ex, hp, q1⟩ => ?_)
  subst ex
  obtain rfl : v = Value.ref p := r1
  obtain ⟨mA, J, _⟩ := ins_get I1.hok hp
  obtain ⟨od, J, _⟩ := J.look
  obtain ⟨m, hF⟩ := I1.fr
  exact PySem.W.ksp_neg hF I1.ok.mod.kin J hs hf (run_fnS (us := [.ref p]) (vs := [.ref p]) F hr hb (hx σ) I1 (.cons rfl .nil) q1)

/-! ### x op y, x an int, y an instance of C -/
structure OwnBinR (K : PySem.W.Frag) (C f g : Addr) (op : Operator) : Prop where
  at_ : PySem.W.findIn K (.ref C) (PySem.dunder op.info.2) = some (some (.ref g))
  atR : PySem.W.findIn K (.ref C) (dunderR op.info.2) = some (some (.ref f))
  fn : PySem.W.isFn K (.ref f) = true
  self : PySem.W.selfFirst K C = true
  sub : PySem.W.subIn K (.ref C) (.type "int") = some false
  eqv : True := trivial
/-- what the int's own method does of an instance: it declines -/
def Declines (op : Operator) : Prop := ∃ (id : String) (B : Builtin), fillsNumberSlot (.type "int") op.info.2 = pure true ∧ Slot "int" (PySem.dunder op.info.2) id ∧ entryFor table id = some B ∧ (∀ a b : Value, argsOk id ⟨[a, b], []⟩) ∧
  ∀ (M : Model) (A : Around) (E : Value → Shared → Prop) (s : Shared) (i : Int) (t : Tok) (b : Addr) (o : Obj), s.heap.get? b = some o → o.data = .plain → wpAny M A (B ⟨[.int i t, .ref b], []⟩) (fun fin s' => ∃ v, fin = .done (.ret v) ∧ v = .notImplemented ∧ s' = s) E s
theorem declines_mul : Declines .Mult := by
  refine ⟨_, _, F.fills_int_mul, F.slot_int_mul, F.entry_int_mul, F.args_int_mul_2, fun M A E s i t b o ho hd => ?_⟩
  obtain ⟨h, g, d, tk, os⟩ := s
  unfold Builtin.«int.__mul__» Builtin.Int.intBinary
  refine wpAny_bind (wpAny_of_eq (a := (.int i t, [.ref b])) rfl ?_)
  refine wpAny_bind (wpAny_of_eq (a := i) rfl ?_)
  refine wpAny_bind (m := asInt? (.ref b)) ?_
  unfold asInt?
  refine wpAny_bind (wpAny_load ho ?_)
  rw [hd]
  exact wpAny_pure (wpAny_bind (wpAny_rule (wpAny_pure ⟨_, rfl, rfl, rfl⟩)))
theorem declines_add : Declines .Add := by
  refine ⟨_, _, F.fills_int_add, F.slot_int_add, F.entry_int_add, F.args_int_add_2, fun M A E s i t b o ho hd => ?_⟩
  obtain ⟨h, g, d, tk, os⟩ := s
  unfold Builtin.«int.__add__» Builtin.Int.intBinary
  refine wpAny_bind (wpAny_of_eq (a := (.int i t, [.ref b])) rfl ?_)
  refine wpAny_bind (wpAny_of_eq (a := i) rfl ?_)
  refine wpAny_bind (m := asInt? (.ref b)) ?_
  unfold asInt?
  refine wpAny_bind (wpAny_load ho ?_)
  rw [hd]
  exact wpAny_pure (wpAny_bind (wpAny_rule (wpAny_pure ⟨_, rfl, rfl, rfl⟩)))
theorem declines_sub : Declines .Sub := by
  refine ⟨_, _, F.fills_int_sub, F.slot_int_sub, F.entry_int_sub, F.args_int_sub_2, fun M A E s i t b o ho hd => ?_⟩
  obtain ⟨h, g, d, tk, os⟩ := s
  unfold Builtin.«int.__sub__» Builtin.Int.intBinary
  refine wpAny_bind (wpAny_of_eq (a := (.int i t, [.ref b])) rfl ?_)
  refine wpAny_bind (wpAny_of_eq (a := i) rfl ?_)
  refine wpAny_bind (m := asInt? (.ref b)) ?_
  unfold asInt?
  refine wpAny_bind (wpAny_load ho ?_)
  rw [hd]
  exact wpAny_pure (wpAny_bind (wpAny_rule (wpAny_pure ⟨_, rfl, rfl, rfl⟩)))
theorem binR {prog : Program} {w : World} {A : Around} {E : Value → Shared → Prop} {s : Shared} {K : PySem.W.Frag} {x L : Addr} {h₀ : Heap} {m : Str → Option Value} {ox : Obj} {od : Option Obj} {op : Operator} {i : Int} {t : Tok} {g : Addr} {Q : Value → Shared → Prop} (D : Declines op)
    (Fr : Fr h₀ L s.heap m) (X₀ : K.In h₀) (I : PySem.W.InstAt s.heap x ox C od) (hpl : ox.data = .plain) (T : OwnBinR K C f g op)
    (h : wpAny (model prog w) A (call (.ref f) [.ref x, .int i t]) (PySem.W.CmpBack Q) E s) : wpAny (model prog w) A (binaryOp op (.int i t) (.ref x)) Q E s := by
  have X := X₀.keeps Fr.keep
  obtain ⟨cd, rest, hcd, hm⟩ := PySem.W.ksp_first T.self
  obtain ⟨id, B, hfl, hsl, hen, har, hB⟩ := D
  have hs := T.at_
  have hs2 := T.atR
  rcases hi : op.info with ⟨sym, nm⟩
  rw [hi] at hfl hsl hs hs2
  dsimp only at hfl hsl hs hs2
  have one := PySem.W.ksp_try X I hs2 T.fn h
  simp only [binaryOp, hi]
  refine wpAny_holding (wpAny_bind ?_)
  unfold binaryOp1
  refine wpAny_bind (wpAny_typeOf (T := "int") rfl (wpAny_bind (I.type.at (wpAny_bind (wpAny_of_eq hfl ?_)))))
  have hne : (Value.type "int" == Value.ref C) = false := Bool.eq_false_iff.mpr fun q => by cases beq_iff_eq.mp q
  simp only [hne, Bool.false_eq_true, if_false]
  refine wpAny_bind ((PySem.W.fills_K X hcd hm hs).at ?_)
  simp only [Bool.and_self, if_true]
  refine wpAny_bind ((PySem.W.looks_subIn X T.sub).at ?_)
  have hpy : numberSlotInPython (.type "int") nm = pure false := rfl
  simp only [Bool.false_eq_true, if_false, pure_bind, Bool.not_false, Bool.and_self, if_true, hpy]
  refine wpAny_bind (wpAny_tryMethod_declines (T := "int") rfl hsl (wpAny_call_entry hsl rfl hen (wpAny_mono (hB _ _ E _ i t x ox I.at_ hpl) (fun fin s' z => ?_) fun _ _ z => z) (har _ _)))
  obtain ⟨v, rfl, rfl, rfl⟩ := z
  refine ⟨_, rfl, rfl, ?_⟩
  dsimp only
  refine wpAny_bind (wpAny_mono one (fun r s' hr' => ?_) fun _ _ e => e)
  obtain ⟨v, rfl, hq⟩ := hr'
  exact wpAny_bind (wpAny_rule (wpAny_pure (wpAny_pure hq)))
/-- x op y, x an int, y an instance of C: y's reflected method -/
def tOwnR (C : Addr) (sp : Sp) (E : St → XK) (ta tb : TE) : TE := fun σ H Q => ta σ H fun x H1 => tb σ H1 fun y H2 => ∃ a dx fs i, y = .ref a ∧ H2 a = some (.ins C dx fs) ∧ x = .int i ∧ sp [y, x] H2 Q (E σ)
theorem pe_ownR {op : Operator} {g : Addr} (D : Declines op) (T : OwnBinR X.K C f g op) (F : FnOk X.prog X.w X.K X.mg X.base CX k f fd ps sp) (hr : Room k X.A) (hb : Binds X.K fd ps []) (hx : ∀ σ, PassesAt CX X σ (E σ)) (ha : PE X a ta) (hb' : PE X b tb) : PE X (.BinOp a op b pos) (tOwnR C sp E ta tb) := by
  refine ⟨fun pins s σ H Q I h => ?_⟩
  refine wpAny_BinOp (binT ha hb' I h fun v u s2 x y H2 I2 rx ry q => ?_)
  obtain ⟨p, dx, fs, i, rfl, hp, rfl, q⟩ := q
  obtain rfl : u = Value.ref p := ry
  obtain ⟨tk, rfl⟩ : ∃ t, v = Value.int i t := rx
  obtain ⟨mA, J, _⟩ := ins_get I2.hok hp
  obtain ⟨od, J, _⟩ := J.look
  obtain ⟨m, hF⟩ := I2.fr
  exact binR D hF I2.ok.mod.kin J rfl T (wpAny_mono (run_fnS (us := [.ref p, .int i tk]) (vs := [.ref p, .int i]) F hr hb (hx σ) I2 (.cons rfl (.cons ⟨_, rfl⟩ .nil)) q) (fun _ _ z => cmpBack_of z) fun _ _ z => z)

/-! ### f(e, ..), f an instance of C with its own __call__ -/
def tCallI (C : Addr) (sp : Sp) (E : St → XK) (tf : TE) (t : TA) : TE := fun σ H Q => tf σ H fun y H1 => ∃ a, y = V.ref a ∧ t σ H1 fun vs H2 => (∃ dx fs, H2 a = some (.ins C dx fs)) ∧ sp (V.ref a :: vs) H2 Q (E σ)
theorem pe_callI {g : Addr} {fe : Expr} {tf : TE} (hf : PE X fe tf) (c : StX.CallO X.K C g) (F : FnOk X.prog X.w X.K X.mg X.base CX k g fd ps sp) (hr : Room k X.A) (hb : Binds X.K fd ps []) (hx : ∀ σ, PassesAt CX X σ (E σ)) (ha : PA X (e :: es) t)
    (ht : eval (.Call fe (e :: es) [] pos) X.env = (do callWith pos (← eval fe X.env) [] (backTo pos (starEach (e :: es) X.env)) (backToKw pos (keywordEach [] X.env))) := by rfl)
    (he : starEach (e :: es) X.env = (false, eval e X.env) :: starEach es X.env := by rfl) (hpl : (backTo pos (starEach es X.env)).any (·.1) = false := by rfl) : PE X (.Call fe (e :: es) [] pos) (tCallI C sp E tf t) := by
  refine ⟨fun pins s σ H Q I h => ?_⟩
  refine Call_ (thn (hf.run pins s σ H _ I h) fun u s1 ⟨y, H1, I1, ry, a, ey, q⟩ => ?_) ht
  subst ey
  obtain rfl : u = Value.ref a := ry
  refine StX.callO_with (thn (ha.run pos pins s1 σ H1 _ I1 q) fun us s2 ⟨vs, H2, I2, r, hi, q2⟩ => ?_) he hpl
  obtain ⟨ox, od, J, hd⟩ := StX.insC_at (C := C) I2 (.inr hi)
  have hl : (Value.ref a :: us).length = ps.length := by
    have r2 : Vals (V.ref a :: vs) (Value.ref a :: us) := .cons rfl r
    rw [← r2.length]; exact F.len _ _ _ _ q2
  have b := hb s2 (.ref a :: us) I2.kIn (by rw [List.append_nil]; exact hl)
  rw [List.append_nil] at b
  refine ⟨⟨C, ox, od, J, hd⟩, wpAny_call (PySem.W.kco_code I2.kIn J hd c.at_ c.fn c.fi (codeAny_mono (F.run X.A X.stack s2 H2 ⟨.ref a :: us, []⟩ (.ref a :: us) (.ref a :: vs) Q (E σ) hr I2.env0 b (.cons rfl r) q2) fun r s' hq => ?_))⟩
  cases r with
  | error e => exact hx σ pins H2 s2 e s' I2 hq
  | ok fl =>
    cases fl with
    | ret u => exact I2.after hq
    | next => exact False.elim hq
    | brk => exact False.elim hq
    | cont => exact False.elim hq

/-- o.f(e, ..), where the field f of o holds an instance of C with its own __call__ -/
theorem pe_fldI {pl : Sem Bool} {g : Addr} (ho : PE X o ta) (c : StX.CallO X.K C g) (F : FnOk X.prog X.w X.K X.mg X.base CX k g fd ps sp) (hr : Room k X.A) (hb : Binds X.K fd ps []) (hx : ∀ σ, PassesAt CX X σ (E σ)) (ha : PA X (e :: es) t)
    (he : starEach (e :: es) X.env = (false, eval e X.env) :: starEach es X.env := by rfl) (hpl : (backTo pos (starEach es X.env)).any (·.1) = false := by rfl)
    (ht : eval (.Call (.Attribute o m apos) (e :: es) [] pos) X.env = (do
      let ov ← eval o X.env
      standAt apos.atName
      let (f, first) ← holding [ov] (getMethod ov m pl)
      callWith pos f first (backTo pos (starEach (e :: es) X.env)) (backToKw pos (keywordEach [] X.env))) := by rfl) :
    PE X (.Call (.Attribute o m apos) (e :: es) [] pos) (tCallI C sp E (tFld X.K ta m) t) := by
  refine ⟨fun pins s σ H Q I h => ?_⟩
  refine PySem.W.methodCall_KW (pl := pl) (thn (ho.run pins s σ H _ I h) fun u s0 ⟨x0, H0, I0, rx, a0, C0, dx0, fs0, v0, ex, ea, c0, n0, l0, a, ey, q⟩ => ?_) ht
  subst ex
  obtain rfl : u = Value.ref a0 := rx
  obtain ⟨mA, O, _, _, _, _⟩ := ins_get I0.hok ea
  obtain ⟨od0, J0, _⟩ := O.look
  refine PySem.W.method_usual (r := none) I0.kIn J0 (PySem.W.plainGet_of c0.pg).1 (PySem.W.plainGet_of c0.pg).2 n0 rfl (getattr_ok I0 ea c0 n0 l0 fun u1 s1 I1 ru => ?_)
  subst ey
  obtain rfl : u1 = Value.ref a := ru
  refine StX.callO_with (thn (ha.run pos pins s1 σ H0 _ I1 q) fun us s2 ⟨vs, H2, I2, r, hi, q2⟩ => ?_) he hpl
  obtain ⟨ox, od, J, hd⟩ := StX.insC_at (C := C) I2 (.inr hi)
  have hl : (Value.ref a :: us).length = ps.length := by
    have r2 : Vals (V.ref a :: vs) (Value.ref a :: us) := .cons rfl r
    rw [← r2.length]; exact F.len _ _ _ _ q2
  have b := hb s2 (.ref a :: us) I2.kIn (by rw [List.append_nil]; exact hl)
  rw [List.append_nil] at b
  refine ⟨⟨C, ox, od, J, hd⟩, wpAny_call (PySem.W.kco_code I2.kIn J hd c.at_ c.fn c.fi (codeAny_mono (F.run X.A X.stack s2 H2 ⟨.ref a :: us, []⟩ (.ref a :: us) (.ref a :: vs) Q (E σ) hr I2.env0 b (.cons rfl r) q2) fun r s' hq => ?_))⟩
  cases r with
  | error e => exact hx σ pins H2 s2 e s' I2 hq
  | ok fl =>
    cases fl with
    | ret u => exact I2.after hq
    | next => exact False.elim hq
    | brk => exact False.elim hq
    | cont => exact False.elim hq

/-! ### x == y, x an instance of C with its own __eq__, y anything -/
def rEqO (K : PySem.W.Frag) (C : Addr) (sp : Sp) : R2 := fun x y H Q => ∃ a dx fs t, x = .ref a ∧ H a = some (.ins C dx fs) ∧ TyX K H y t ∧ PySem.W.notFirst K C t = true ∧ sp [x, y] H Q E0
theorem op_eqO (hs : PySem.W.findIn X.K (.ref C) "__eq__" = some (some (.ref f))) (hf : PySem.W.isFn X.K (.ref f) = true) (F : FnOk X.prog X.w X.K X.mg X.base CX k f fd ps sp) (hr : Room k X.A) (hb : Binds X.K fd ps []) (hx : ∀ σ, PassesAt CX X σ E0) : OpR X (compareOp .Eq) (rEqO X.K C sp) := by
  intro pins s σ H x y v u Q I rx ry hq
  obtain ⟨p, dx, fs, t, rfl, hp, ty, hn, q⟩ := hq
  obtain rfl : v = Value.ref p := rx
  obtain ⟨mA, J, _⟩ := ins_get I.hok hp
  obtain ⟨od, J, _⟩ := J.look
  obtain ⟨m, hF⟩ := I.fr
  show wpAny (model X.prog X.w) X.A (richCompare .Eq (.ref p) u) (EP X pins σ Q) X.xe s
  obtain ⟨P, kx, hP, hne⟩ := kit_of I ry ty
  refine PySem.W.cmp_K (op := .Eq) (tb := t) hr.units0 hF I.ok.mod.kin J ?_ hn hs hf (wpAny_mono (run_fnS (E := fun _ => E0) (us := [.ref p, u]) (vs := [.ref p, y]) F hr hb (hx σ) I (.cons rfl (.cons ry .nil)) q) (fun _ _ z => cmpBack_of z) fun _ _ z => z)
  exact kx.ty _ _ I.kIn hP

/-! ### x != y, x an instance of C with its own __eq__ and object's __ne__ -/
theorem ifBound_ne {prog : Program} {w : World} {A : Around} {E : Value → Shared → Prop} {s : Shared} {K : PySem.W.Frag} {x C : Addr} {ox : Obj} {od : Option Obj} {b : Value} {Q : Option Value → Shared → Prop} (Kin : K.In s.heap) (I : PySem.W.InstAt s.heap x ox C od) (hs : PySem.W.findIn K (.ref C) "__ne__" = some (some (.builtin "object.__ne__")))
    (h : wpAny (model prog w) A (call (.builtin "object.__ne__") [.ref x, b]) (fun v => Q (some v)) E s) : wpAny (model prog w) A (callSpecialIfBound? (.ref x) "__ne__" [b]) Q E s := by
  unfold callSpecialIfBound? bindSpecialIfBound?
  have hlook := PySem.W.looks_findIn (M := model prog w) Kin hs
  have hbd : bindSpecial (.builtin "object.__ne__") (.ref x) = pure (.builtin "object.__ne__", [.ref x]) := F.slot_object_ne.bind _
  have fin : wpAny (model prog w) A (call (.builtin "object.__ne__") ([.ref x] ++ [b]) >>= fun v => pure (some v)) Q E s := wpAny_bind (wpAny_mono h (fun v s' z => wpAny_pure z) fun _ _ z => z)
  refine wpAny_holding (wpAny_bind (wpAny_bind (wpAny_bind (I.type.here (hlook.here ?_)))))
  refine wpAny_bind (wpAny_askSetting (wpAny_ite ?_))
  split
  · exact wpAny_bind (wpAny_of_eq hbd (wpAny_pure fin))
  · exact wpAny_tryCatch (wpAny_bind (wpAny_of_eq hbd (wpAny_pure fin)))
def rNeO (K : PySem.W.Frag) (C : Addr) (sp : Sp) : R2 := fun x y H Q => ∃ a dx fs t, x = .ref a ∧ H a = some (.ins C dx fs) ∧ TyX K H y t ∧ PySem.W.notFirst K C t = true ∧ sp [x, y] H (fun v H' => ∃ b, v = .bl b ∧ Q (.bl (!b)) H') E0
theorem op_neO (hne : PySem.W.findIn X.K (.ref C) "__ne__" = some (some (.builtin "object.__ne__"))) (hob : PySem.W.mroIn X.K C (.type "object") = some true) (hs : PySem.W.findIn X.K (.ref C) "__eq__" = some (some (.ref f))) (hf : PySem.W.isFn X.K (.ref f) = true)
    (F : FnOk X.prog X.w X.K X.mg X.base CX k f fd ps sp) (hr : Room (k + 1) X.A) (hb : Binds X.K fd ps []) (hx : ∀ σ, PassesAt CX X σ E0) : OpR X (compareOp .NotEq) (rNeO X.K C sp) := by
  intro pins s σ H x y v u Q I rx ry hq
  obtain ⟨p, dx, fs, t, rfl, hp, ty, hn, q⟩ := hq
  obtain rfl : v = Value.ref p := rx
  obtain ⟨mA, J, _⟩ := ins_get I.hok hp
  obtain ⟨od, J, _⟩ := J.look
  obtain ⟨P, kx, hP, _⟩ := kit_of I ry ty
  have hty := kx.ty (model X.prog X.w) _ I.kIn hP
  have KX := I.kIn
  -- the own == under object.__ne__
  have hsp := q
  have r2 : Vals [V.ref p, y] [Value.ref p, u] := .cons rfl (.cons ry .nil)
  have hl : ([Value.ref p, u] : List Value).length = ps.length := by
    rw [← r2.length]; exact F.len _ _ _ _ hsp
  have bb := hb s [.ref p, u] KX (by rw [List.append_nil]; exact hl)
  rw [List.append_nil] at bb
  have own : wpAny (model X.prog X.w) X.A.in1 (call (.ref f) [.ref p, u]) (EP X pins σ (fun v H' => ∃ b, v = .bl b ∧ Q (.bl (!b)) H')) X.xe s := by
    refine wpAny_call (codeAny_mono (F.run X.A.in1 X.stack s H ⟨[.ref p, u], []⟩ [.ref p, u] [.ref p, y] _ E0 hr.in1 I.env0.in1 bb r2 hsp) fun r s' hq => ?_)
    cases r with
    | error e => exact hx σ pins H s e s' I hq
    | ok fl =>
      cases fl with
      | ret u => exact I.after hq
      | next => exact False.elim hq
      | brk => exact False.elim hq
      | cont => exact False.elim hq
  have isob : PySem.W.Looks (model X.prog X.w) s.heap (isInstance (.ref p) (.type "object")) true := J.type.andThen (PySem.W.looks_mroIn KX hob)
  have nec : wpAny (model X.prog X.w) X.A (call (.builtin "object.__ne__") [.ref p, u]) (fun v s' => ∃ b, v = .bool b ∧ EP X pins σ Q (.bool b) s') X.xe s := by
    refine wpAny_call (codeAny_call_builtin PySem.F.slot_object_ne.plain PySem.F.entry_object_ne (PySem.W.check_slot (owner := "object") (n := "__ne__") (by decide +kernel) (by decide +kernel) isob (PySem.F.args_object_ne_2 _ _) ?_))
    unfold Builtin.«object.__ne__»
    refine wpAny_bind (wpAny_of_eq (a := (.ref p, [u])) rfl ?_)
    refine wpAny_bind (wpAny_cRoomFor (by have := hr.un; show X.A.units + 1 < cLine; omega) ?_)
    refine wpAny_bind (PySem.W.ifBound_K KX J hs hf (wpAny_mono own (fun v s' z => ?_) fun _ _ z => z))
    obtain ⟨x1, H1, I1, r1, b, rfl, q1⟩ := z
    obtain rfl : v = Value.bool b := r1
    refine wpAny_bind (wpAny_truthy_bool ?_)
    exact wpAny_pure ⟨_, rfl, .bl (!b), H1, I1, rfl, q1⟩
  have one : wpAny (model X.prog X.w) X.A (tryCompare (.ref p) "__ne__" u) (fun r s' => ∃ v, r = some v ∧ EP X pins σ Q v s') X.xe s := by
    unfold tryCompare
    refine wpAny_bind (ifBound_ne KX J hne (wpAny_mono nec (fun v s' z => ?_) fun _ _ z => z))
    obtain ⟨b, rfl, z⟩ := z
    exact wpAny_pure ⟨_, rfl, z⟩
  show wpAny (model X.prog X.w) X.A (richCompare .NotEq (.ref p) u) (EP X pins σ Q) X.xe s
  unfold richCompare
  simp only [PySem.oneThing_ref]
  refine wpAny_holding (wpAny_bind (wpAny_cRoomFor hr.units0 ?_))
  refine wpAny_bind (J.type.here (wpAny_bind (hty.here ?_)))
  split
  · rename_i hc
    have e : PySem.W.subIn X.K t (.ref C) = some false := by
      have hn' := hn
      unfold PySem.W.notFirst at hn'
      rcases Bool.or_eq_true_iff.mp hn' with e | e
      · exact absurd (beq_iff_eq.mp e) (fun z => by rw [z] at hc; simp at hc)
      · exact beq_iff_eq.mp e
    refine wpAny_bind ((PySem.W.looks_subIn KX e).here ?_)
    simp only [Bool.false_eq_true, if_false]
    refine wpAny_bind (wpAny_mono one (fun r s' z => ?_) fun _ _ z => z)
    obtain ⟨v, rfl, z⟩ := z
    exact wpAny_pure z
  · refine wpAny_bind (wpAny_pure ?_)
    simp only [Bool.false_eq_true, if_false]
    refine wpAny_bind (wpAny_mono one (fun r s' z => ?_) fun _ _ z => z)
    obtain ⟨v, rfl, z⟩ := z
    exact wpAny_pure z
end
end L2
namespace G
open PySem PySem.Spec PyProof.Rows L2

/-! ### heaps -/
/-- all but dicts is as it was -/
def Kp (H H' : Hp) : Prop := ∀ a o, H a = some o → (∀ kvs, o ≠ .dK kvs) → H' a = some o
theorem Kp.refl (H : Hp) : Kp H H := fun _ _ h _ => h
theorem Kp.trans {H H1 H2 : Hp} (a : Kp H H1) (b : Kp H1 H2) : Kp H H2 := fun x o h n => b x o (a x o h n) n
theorem Kp.of {H H' : Hp} (s : Same H H') : Kp H H' := fun a o h _ => s a o h
theorem Kp.then {H H1 H2 : Hp} (a : Kp H H1) (b : Same H1 H2) : Kp H H2 := a.trans (Kp.of b)
theorem sget {H H' : Hp} {a : Addr} {o : HO} (s : Same H H') (h : H a = some o) : H' a = some o := s a o h
theorem kget {H H' : Hp} {a : Addr} {o : HO} (s : Kp H H') (h : H a = some o) (n : ∀ kvs, o ≠ .dK kvs) : H' a = some o := s a o h n
theorem same_new {H : Hp} {p : Addr} {o : HO} (h : H p = none) : Same H (upd H p o) := fun a u e => by
  rw [upd_ne (ne_of_none e h)]
  exact e
theorem upd_upd {H : Hp} {p : Addr} {o u : HO} : upd (upd H p o) p u = upd H p u := by
  funext b
  by_cases h : b = p
  · rw [h, upd_same, upd_same]
  · rw [upd_ne h, upd_ne h, upd_ne h]
theorem seqL {K : PySem.W.Frag} {H : Hp} {a : Addr} {xs : List V} (h : H a = some (.lst xs)) : SqL K H a xs := SqL.of h
theorem seqT {K : PySem.W.Frag} {H : Hp} {a : Addr} {xs : List V} (h : H a = some (.tup xs)) : SqT K H a xs := SqT.of h

/-! ### named readings -/
def rAbs : List V → Hp → VK → Prop := fun xs H Q => ∃ i, xs = [.int i] ∧ Q (.int (if i < 0 then -i else i)) H
def rMax2 : List V → Hp → VK → Prop := fun xs H Q => ∃ i j, xs = [.int i, .int j] ∧ Q (.int (if j > i then j else i)) H
def rMin2 : List V → Hp → VK → Prop := fun xs H Q => ∃ i j, xs = [.int i, .int j] ∧ Q (.int (if j < i then j else i)) H
def rInt1 : List V → Hp → VK → Prop := fun xs H Q => (∃ i, xs = [.int i] ∧ Q (.int i) H) ∨ ∃ k, xs = [.bl k] ∧ Q (.int (if k then 1 else 0)) H
def rStrI : List V → Hp → VK → Prop := fun xs H Q => ∃ i, xs = [.int i] ∧ i.natAbs.log2 < 1920 ∧ Q (.str (toString i)) H
def rLenSeq (K : PySem.W.Frag) : List V → Hp → VK → Prop := fun xs H Q => ∃ p ys, xs = [.ref p] ∧ (SqL K H p ys ∨ SqT K H p ys) ∧ Q (.int ys.length) H
def rLenStr : List V → Hp → VK → Prop := fun xs H Q => ∃ z, xs = [.str z] ∧ z.length ≤ sizeLine ∧ Q (.int z.length) H
def rListOf (K : PySem.W.Frag) : List V → Hp → VK → Prop := fun xs H Q => ∃ p ys, xs = [.ref p] ∧ (SqL K H p ys ∨ SqT K H p ys) ∧ ∀ l, H l = none → Q (.ref l) (upd H l (.lst ys))
def rTupleOf (K : PySem.W.Frag) : List V → Hp → VK → Prop := fun xs H Q => ∃ p ys, xs = [.ref p] ∧ ((SqL K H p ys ∧ ∀ l, H l = none → Q (.ref l) (upd H l (.tup ys))) ∨ (SqT K H p ys ∧ Q (.ref p) H))
def rIsN : R2 := fun x y H Q => y = .non ∧ Q (.bl (decide (x = .non))) H
def rNotN : R2 := fun x y H Q => y = .non ∧ Q (.bl (!decide (x = .non))) H
section
variable {X : Cx}
theorem cAbs : CallR X (.builtin "abs") rAbs := call_abs
theorem cMax2 (hc : X.calm = true) : CallR X (.builtin "max") rMax2 := call_max2 hc
theorem cMin2 (hc : X.calm = true) : CallR X (.builtin "min") rMin2 := call_min2 hc
theorem cInt1 : CallR X (.type "int") rInt1 := call_int1
theorem cStrI : CallR X (.type "str") rStrI := call_str_int
theorem cLenSeq : CallR X (.builtin "len") (rLenSeq X.K) := call_len_seq
theorem cLenStr : CallR X (.builtin "len") rLenStr := call_len_str
theorem cListOf : CallR X (.type "list") (rListOf X.K) := call_list_of
theorem cTupleOf : CallR X (.type "tuple") (rTupleOf X.K) := call_tuple_of
theorem oIsN : OpR X (compareOp .Is) rIsN := op_isN
theorem oNotN : OpR X (compareOp .IsNot) rNotN := op_notN
end

/-! ### expressions -/
def rNewT (xs : List V) (H : Hp) (Q : VK) : Prop := xs.length ≤ sizeLine ∧ ∀ p, H p = none → Q (.ref p) (upd H p (.tup xs))
def rNewL (xs : List V) (H : Hp) (Q : VK) : Prop := xs.length ≤ sizeLine ∧ ∀ p, H p = none → Q (.ref p) (upd H p (.lst xs))
def rFld (K : PySem.W.Frag) (f : Str) (x : V) (H1 : Hp) (Q : VK) : Prop := ∃ a C dx fs v, x = .ref a ∧ H1 a = some (.ins C dx fs) ∧ Cls K C ∧ NoAttr K C f ∧ fs.lookup f = some v ∧ Q v H1
def rFldS (K : PySem.W.Frag) (f : Str) (y x : V) (H2 : Hp) (k : Hp → Prop) : Prop := ∃ a C dx fs, x = .ref a ∧ H2 a = some (.ins C dx fs) ∧ Cls K C ∧ NoAttr K C f ∧ fs.length < 1000 ∧ k (upd H2 a (.ins C dx (putF f y fs)))
def rDGet (x y : V) (H2 : Hp) (Q : VK) : Prop := ∃ a v, x = .ref a ∧ DGet H2 a y (some v) ∧ Q v H2
def rDPut (v x y : V) (H3 : Hp) (k : Hp → Prop) : Prop := ∃ a H4, x = .ref a ∧ DPut H3 a y v H4 ∧ k H4
def rMake (C : Addr) (sp : Sp) (E : XK) (vs : List V) (H1 : Hp) (Q : VK) : Prop := ∀ x dx, H1 x = none → H1 dx = none → dx ≠ x → sp (.ref x :: vs) (upd (upd H1 dx (.own x)) x (.ins C dx [])) (fun v H2 => v = .non ∧ Q (.ref x) H2) E
section
variable {K : PySem.W.Frag} {σ : L2.St} {H : Hp} {Q : VK} {ta tb tc te : TE} {t u : TT} {tr : TA} {i : Nat} {v x y : V} {a b : Int} {r : R2}
theorem var (h : σ[i]? = some (some v)) (q : Q v H) : tVar i σ H Q := ⟨v, h, q⟩
theorem cst (q : Q v H) : tC v σ H Q := q
theorem op (q : ta σ H fun x H1 => tb σ H1 fun y H2 => r x y H2 Q) : tOp r ta tb σ H Q := q
theorem un {r : V → Hp → VK → Prop} (q : ta σ H fun x H1 => r x H1 Q) : tUn r ta σ H Q := q
theorem I0 {g : Int → Int → V} (q : Q (g a b) H) : rI0 g (.int a) (.int b) H Q := ⟨a, b, rfl, rfl, q⟩
theorem I1 {C : Int → Int → Prop} {g : Int → Int → V} (c : C a b) (q : Q (g a b) H) : rI C g (.int a) (.int b) H Q := ⟨a, b, rfl, rfl, c, q⟩
theorem mulL {g : Int → Int → V} (h1 : -18446744073709551616 < a) (h2 : a < 18446744073709551616) (q : Q (g a b) H) : rI CMul g (.int a) (.int b) H Q := ⟨a, b, rfl, rfl, .inl ⟨h1, h2⟩, q⟩
theorem mulR {g : Int → Int → V} (h1 : -18446744073709551616 < b) (h2 : b < 18446744073709551616) (q : Q (g a b) H) : rI CMul g (.int a) (.int b) H Q := ⟨a, b, rfl, rfl, .inr ⟨h1, h2⟩, q⟩
theorem nat140 {x : Int} (h1 : -10000000000000000000000000000000000000000 < x) (h2 : x < 10000000000000000000000000000000000000000) : x.natAbs < 2 ^ 140 := by
  have e : (2 : Nat) ^ 140 = 1393796574908163946345982392040522594123776 := by decide +kernel
  omega
theorem mulW {g : Int → Int → V} (h1 : -10000000000000000000000000000000000000000 < a) (h2 : a < 10000000000000000000000000000000000000000) (h3 : -10000000000000000000000000000000000000000 < b) (h4 : b < 10000000000000000000000000000000000000000) (q : Q (g a b) H) : rI CMulW g (.int a) (.int b) H Q :=
  ⟨a, b, rfl, rfl, wide_mul (nat140 h1 h2) (nat140 h3 h4) (by decide) (by decide) (by decide), q⟩
theorem fdiv {g : Int → Int → V} (h1 : 0 < b) (h2 : b < 1073741824) (q : Q (g a b) H) : rI CDiv g (.int a) (.int b) H Q := ⟨a, b, rfl, rfl, ⟨h1, h2⟩, q⟩
theorem md {g : Int → Int → V} (h1 : 0 < b) (q : Q (g a b) H) : rI (fun _ j => 0 < j) g (.int a) (.int b) H Q := ⟨a, b, rfl, rfl, h1, q⟩
theorem pow {g : Int → Int → V} (h0 : 0 ≤ b) (h1 : b ≤ 1000000) (h2 : a.natAbs < 2 ^ 64) (q : Q (g a b) H) : rI CPow g (.int a) (.int b) H Q := ⟨a, b, rfl, rfl, ⟨h0, h1, h2⟩, q⟩
theorem pow18 (q : Q (.int 1000000000000000000) H) : rI CPow (fun i j => .int (i ^ j.toNat)) (.int 10) (.int 18) H Q := ⟨10, 18, rfl, rfl, ⟨by decide, by decide, by decide⟩, q⟩
theorem pow6 (q : Q (.int 1000000) H) : rI CPow (fun i j => .int (i ^ j.toNat)) (.int 10) (.int 6) H Q := ⟨10, 6, rfl, rfl, ⟨by decide, by decide, by decide⟩, q⟩
theorem pow30 (q : Q (.int 1000000000000000000000000000000) H) : rI CPow (fun i j => .int (i ^ j.toNat)) (.int 10) (.int 30) H Q := ⟨10, 30, rfl, rfl, ⟨by decide, by decide, by decide⟩, q⟩
theorem pow29 (q : Q (.int 100000000000000000000000000000) H) : rI CPow (fun i j => .int (i ^ j.toNat)) (.int 10) (.int 29) H Q := ⟨10, 29, rfl, rfl, ⟨by decide, by decide, by decide⟩, q⟩
theorem pow3 (q : Q (.int 1000) H) : rI CPow (fun i j => .int (i ^ j.toNat)) (.int 10) (.int 3) H Q := ⟨10, 3, rfl, rfl, ⟨by decide, by decide, by decide⟩, q⟩
theorem U1 {g : Int → V} (q : Q (g a) H) : rU g (.int a) H Q := ⟨a, rfl, q⟩
theorem eq (s : scal x y = true) (q : Q (.bl (decide (x = y))) H) : rEq x y H Q := ⟨s, q⟩
theorem ne (s : scal x y = true) (q : Q (.bl (!decide (x = y))) H) : rNe x y H Q := ⟨s, q⟩
theorem dint : decide (V.int a = V.int b) = decide (a = b) := by
  by_cases h : a = b
  · simp [h]
  · simp [h]
theorem eqI (q : Q (.bl (decide (a = b))) H) : rEq (.int a) (.int b) H Q := ⟨rfl, by rw [dint]; exact q⟩
theorem neI (q : Q (.bl (!decide (a = b))) H) : rNe (.int a) (.int b) H Q := ⟨rfl, by rw [dint]; exact q⟩
theorem isN (q : Q (.bl (decide (x = .non))) H) : rIsN x .non H Q := ⟨rfl, q⟩
theorem notN (q : Q (.bl (!decide (x = .non))) H) : rNotN x .non H Q := ⟨rfl, q⟩
theorem test {Q : Bool → Hp → Prop} (q : te σ H fun x H' => ∃ k, x = .bl k ∧ Q k H') : tTest te σ H Q := q
theorem tBv {Q : Bool → Hp → Prop} (q : te σ H fun x H' => ∃ k, x = .bl k ∧ Q k H') : tB te σ H Q := q
theorem bl {Q : Bool → Prop} {k : Bool} (q : Q k) : ∃ c, (V.bl k) = .bl c ∧ Q c := ⟨k, rfl, q⟩
theorem and {Q : Bool → Hp → Prop} (q : t σ H fun c H1 => if c = true then u σ H1 Q else Q false H1) : tAnd t u σ H Q := q
theorem or {Q : Bool → Hp → Prop} (q : t σ H fun c H1 => if c = true then Q true H1 else u σ H1 Q) : tOr t u σ H Q := q
theorem not {Q : Bool → Hp → Prop} (q : t σ H fun c H1 => Q (!c) H1) : tNot t σ H Q := q
theorem andV (q : ta σ H fun x H1 => ∃ c, x = .bl c ∧ if c = true then tb σ H1 Q else Q (.bl false) H1) : tAndV ta tb σ H Q := q
theorem orV (q : ta σ H fun x H1 => ∃ c, x = .bl c ∧ if c = true then Q (.bl true) H1 else tb σ H1 Q) : tOrV ta tb σ H Q := q
theorem notV (q : ta σ H fun x H1 => ∃ c, x = .bl c ∧ Q (.bl (!c)) H1) : tNotV ta σ H Q := q
theorem ifE (q : t σ H fun c H1 => if c = true then ta σ H1 Q else tb σ H1 Q) : tIf t ta tb σ H Q := q
theorem nil {Q : List V → Hp → Prop} (q : Q [] H) : tNil σ H Q := q
theorem cons {Q : List V → Hp → Prop} (q : ta σ H fun x H1 => tr σ H1 fun xs H2 => Q (x :: xs) H2) : tCons ta tr σ H Q := q
theorem tup (q : tr σ H fun xs H1 => rNewT xs H1 Q) : tTup tr σ H Q := q
theorem lst (q : tr σ H fun xs H1 => rNewL xs H1 Q) : tLst tr σ H Q := q
theorem newT {xs : List V} (h : xs.length ≤ 100000) (q : ∀ p H2, H p = none → Same H H2 → H2 p = some (.tup xs) → Q (.ref p) H2) : rNewT xs H Q := ⟨Nat.le_trans h (by decide), fun p hp => q p _ hp (same_new hp) upd_same⟩
theorem newL {xs : List V} (h : xs.length ≤ 100000) (q : ∀ p H2, H p = none → Same H H2 → H2 p = some (.lst xs) → Q (.ref p) H2) : rNewL xs H Q := ⟨Nat.le_trans h (by decide), fun p hp => q p _ hp (same_new hp) upd_same⟩
theorem fld {f : Str} (q : ta σ H fun x H1 => rFld K f x H1 Q) : tFld K ta f σ H Q := q
theorem fldV {f : Str} {p C dx : Addr} {fs : List (Str × V)} (h : H p = some (.ins C dx fs)) (c : Cls K C) (n : NoAttr K C f) (l : fs.lookup f = some v) (q : Q v H) : rFld K f (.ref p) H Q := ⟨p, C, dx, fs, v, rfl, h, c, n, l, q⟩
theorem call {sp : Sp} {E : L2.St → XK} (q : tr σ H fun vs H1 => sp vs H1 Q (E σ)) : tCallS sp E tr σ H Q := q
theorem cb {r : List V → Hp → VK → Prop} (q : tr σ H fun vs H1 => r vs H1 Q) : tCB r tr σ H Q := q
theorem make {C : Addr} {sp : Sp} {E : L2.St → XK} (q : tr σ H fun vs H1 => rMake C sp (E σ) vs H1 Q) : tMakeS C sp E tr σ H Q := q
theorem dget (q : ta σ H fun x H1 => tb σ H1 fun y H2 => rDGet x y H2 Q) : tDGet ta tb σ H Q := q
theorem dgetS {p : Addr} {kvs : List (Key × V)} {k : Str} (h : H p = some (.dK kvs)) (l : valV kvs (Sum.inr k) = some v) (q : Q v H) : rDGet (.ref p) (.str k) H Q := ⟨p, v, rfl, l ▸ DGet.k (k := Sum.inr k) h, q⟩
theorem abs (q : Q (.int a.natAbs) H) : rAbs [.int a] H Q := ⟨a, rfl, by
  have e : (if a < 0 then -a else a) = (a.natAbs : Int) := by
    split <;> omega
  rw [e]; exact q⟩
theorem max2 (q : Q (.int (max a b)) H) : rMax2 [.int a, .int b] H Q := ⟨a, b, rfl, by
  have e : (if b > a then b else a) = max a b := by
    split <;> omega
  rw [e]; exact q⟩
theorem min2 (q : Q (.int (min a b)) H) : rMin2 [.int a, .int b] H Q := ⟨a, b, rfl, by
  have e : (if b < a then b else a) = min a b := by
    split <;> omega
  rw [e]; exact q⟩
theorem int1 (q : Q (.int a) H) : rInt1 [.int a] H Q := .inl ⟨a, rfl, q⟩
theorem strI (h : a.natAbs.log2 < 1920) (q : Q (.str (toString a)) H) : rStrI [.int a] H Q := ⟨a, rfl, h, q⟩
theorem lenL {p : Addr} {xs : List V} (h : H p = some (.lst xs)) (q : Q (.int xs.length) H) : rLenSeq K [.ref p] H Q := ⟨p, xs, rfl, .inl (SqL.of h), q⟩
theorem lenT {p : Addr} {xs : List V} (h : H p = some (.tup xs)) (q : Q (.int xs.length) H) : rLenSeq K [.ref p] H Q := ⟨p, xs, rfl, .inr (SqT.of h), q⟩
theorem lenS {z : Str} (h : z.length ≤ 100000) (q : Q (.int z.length) H) : rLenStr [.str z] H Q := ⟨z, rfl, Nat.le_trans h (by decide), q⟩
theorem listOfL {p : Addr} {xs : List V} (h : H p = some (.lst xs)) (q : ∀ l H2, H l = none → Same H H2 → H2 l = some (.lst xs) → Q (.ref l) H2) : rListOf K [.ref p] H Q := ⟨p, xs, rfl, .inl (SqL.of h), fun l hl => q l _ hl (same_new hl) upd_same⟩
theorem listOfT {p : Addr} {xs : List V} (h : H p = some (.tup xs)) (q : ∀ l H2, H l = none → Same H H2 → H2 l = some (.lst xs) → Q (.ref l) H2) : rListOf K [.ref p] H Q := ⟨p, xs, rfl, .inr (SqT.of h), fun l hl => q l _ hl (same_new hl) upd_same⟩
theorem tupleOfL {p : Addr} {xs : List V} (h : H p = some (.lst xs)) (q : ∀ l H2, H l = none → Same H H2 → H2 l = some (.tup xs) → Q (.ref l) H2) : rTupleOf K [.ref p] H Q := ⟨p, xs, rfl, .inl ⟨SqL.of h, fun l hl => q l _ hl (same_new hl) upd_same⟩⟩
theorem tupleOfT {p : Addr} {xs : List V} (h : H p = some (.tup xs)) (q : Q (.ref p) H) : rTupleOf K [.ref p] H Q := ⟨p, xs, rfl, .inr ⟨SqT.of h, q⟩⟩
theorem ixL {p : Addr} {xs : List V} (h : H p = some (.lst xs)) (l : atI xs a = some v) (q : Q v H) : rIxL K (.ref p) (.int a) H Q := ⟨p, xs, a, v, rfl, rfl, SqL.of h, l, q⟩
theorem ixT {p : Addr} {xs : List V} (h : H p = some (.tup xs)) (l : atI xs a = some v) (q : Q v H) : rIxT K (.ref p) (.int a) H Q := ⟨p, xs, a, v, rfl, rfl, SqT.of h, l, q⟩
theorem own {C : Addr} {sp : Sp} {E : L2.St → XK} (q : ta σ H fun x H1 => tb σ H1 fun y H2 => ∃ a dx fs, x = .ref a ∧ H2 a = some (.ins C dx fs) ∧ ((∃ b dy gs, y = .ref b ∧ H2 b = some (.ins C dy gs)) ∨ ∃ i, y = .int i) ∧ sp [x, y] H2 Q (E σ)) : tOwn C sp E ta tb σ H Q := q
theorem ownR {C : Addr} {sp : Sp} {E : L2.St → XK} (q : ta σ H fun x H1 => tb σ H1 fun y H2 => ∃ a dx fs i, y = .ref a ∧ H2 a = some (.ins C dx fs) ∧ x = .int i ∧ sp [y, x] H2 Q (E σ)) : tOwnR C sp E ta tb σ H Q := q
theorem inst {C : Addr} {sp : Sp} {E : L2.St → XK} (q : ta σ H fun y H1 => ∃ a, y = V.ref a ∧ tr σ H1 fun vs H2 => (∃ dx fs, H2 a = some (.ins C dx fs)) ∧ sp (V.ref a :: vs) H2 Q (E σ)) : tCallI C sp E ta tr σ H Q := q
theorem refV {p : Addr} {f : Addr → Prop} (q : f p) : ∃ a, V.ref p = V.ref a ∧ f a := ⟨p, rfl, q⟩
def rXf (ea : Addr) (cls : Value) (d : Option Addr) (C : Addr) (f : Str) (x : V) (H1 : Hp) (Q : VK) : Prop := x = .ref ea ∧ cls = .ref C ∧ ∃ (dd : Addr) (fs : List (Str × V)) (v : V), d = some dd ∧ H1 dd = some (.xd fs) ∧ fs.lookup f = some v ∧ Q v H1
theorem xf {ea C : Addr} {cls : Value} {d : Option Addr} {f : Str} (q : te σ H fun x H1 => rXf ea cls d C f x H1 Q) : tXf ea cls d C f te σ H Q := q
theorem xfV {ea C dd : Addr} {f : Str} {fs : List (Str × V)} (h : H dd = some (.xd fs)) (l : fs.lookup f = some v) (q : Q v H) : rXf ea (.ref C) (some dd) C f (.ref ea) H Q := ⟨rfl, rfl, dd, fs, v, rfl, h, l, q⟩
theorem methU {C1 C2 : Addr} {m : Str} {sp1 sp2 : Sp} {E : L2.St → XK} (q : ta σ H fun x H1 => ∃ a dx fs, x = .ref a ∧ fs.lookup m = none ∧ ((H1 a = some (.ins C1 dx fs) ∧ tr σ H1 fun vs H2 => sp1 (x :: vs) H2 Q (E σ)) ∨ (H1 a = some (.ins C2 dx fs) ∧ tr σ H1 fun vs H2 => sp2 (x :: vs) H2 Q (E σ)))) : tMethU C1 C2 m sp1 sp2 E ta tr σ H Q := q
theorem meth {C : Addr} {m : Str} {sp : Sp} {E : L2.St → XK} (q : ta σ H fun x H1 => ∃ a dx fs, x = .ref a ∧ H1 a = some (.ins C dx fs) ∧ fs.lookup m = none ∧ tr σ H1 fun vs H2 => sp (x :: vs) H2 Q (E σ)) : tMethZ C m sp E ta tr σ H Q := q

/-! ### tests -/
theorem ite {c : Prop} [Decidable c] {A B : Prop} (h1 : c → A) (h2 : ¬ c → B) : if decide c = true then A else B := by
  by_cases h : c
  · rw [if_pos (decide_eq_true h)]; exact h1 h
  · rw [if_neg (by simp [h])]; exact h2 h
theorem iteN {c : Prop} [Decidable c] {A B : Prop} (h1 : c → B) (h2 : ¬ c → A) : if (!decide c) = true then A else B := by
  by_cases h : c
  · rw [if_neg (by simp [h])]; exact h1 h
  · rw [if_pos (by simp [h])]; exact h2 h
theorem iteY {c : Prop} [Decidable c] {A B : Prop} (h : c) (q : A) : if decide c = true then A else B := by
  rw [if_pos (decide_eq_true h)]; exact q
theorem iteZ {c : Prop} [Decidable c] {A B : Prop} (h : ¬ c) (q : B) : if decide c = true then A else B := by
  rw [if_neg (by simp [h])]; exact q
theorem iteNY {c : Prop} [Decidable c] {A B : Prop} (h : c) (q : B) : if (!decide c) = true then A else B := by
  rw [if_neg (by simp [h])]; exact q
theorem iteNZ {c : Prop} [Decidable c] {A B : Prop} (h : ¬ c) (q : A) : if (!decide c) = true then A else B := by
  rw [if_pos (by simp [h])]; exact q
theorem iteT' {A B : Prop} (q : A) : if true = true then A else B := by rw [if_pos rfl]; exact q
theorem iteF' {A B : Prop} (q : B) : if false = true then A else B := by rw [if_neg Bool.false_ne_true]; exact q
theorem iteNT {A B : Prop} (q : B) : if (!true) = true then A else B := by rw [if_neg (by decide)]; exact q
theorem iteNF {A B : Prop} (q : A) : if (!false) = true then A else B := by rw [if_pos (by decide)]; exact q
theorem iteB {k : Bool} {A B : Prop} (h1 : k = true → A) (h2 : k = false → B) : if k = true then A else B := by
  cases k with
  | true => rw [if_pos rfl]; exact h1 rfl
  | false => rw [if_neg Bool.false_ne_true]; exact h2 rfl
end

/-! ### statements -/
section
variable {K : PySem.W.Frag} {σ : L2.St} {H : Hp} {D : Ends} {t u : TS} {te ta tb : TE} {c : TT} {i j : Nat} {tr : TA}
theorem seq (q : t { D with nx := u D } σ H) : tSeq t u D σ H := q
theorem nx {f : L2.St → Hp → Prop} {r : V → Hp → Prop} {b k : L2.St → Hp → Prop} (q : f σ H) : Ends.nx ⟨f, r, b, k⟩ σ H := q
theorem rt {f : L2.St → Hp → Prop} {r : V → Hp → Prop} {b k : L2.St → Hp → Prop} {v : V} (q : r v H) : Ends.rt ⟨f, r, b, k⟩ v H := q
theorem next (q : D.nx σ H) : tNext D σ H := q
theorem asg (q : te σ H fun x H1 => D.nx (σ.set i (some x)) H1) : tAsg te (gName i) D σ H := q
theorem cut (Mid : L2.St → Hp → Prop) (q1 : t { D with nx := Mid } σ H) (q2 : ∀ σ' H', Mid σ' H' → u D σ' H') : Evl.tCut t u D σ H := ⟨Mid, q1, q2⟩
theorem asgG {g : TG} (q : te σ H fun x H1 => g x σ H1 D.nx) : tAsg te g D σ H := q
theorem gtup {n : Nat} {gs : TGs} {p : Addr} {xs : List V} {f : L2.St → Hp → Prop} (h : H p = some (.tup xs)) (hl : xs.length = n) (q : gs xs σ H f) : gTup K n gs (.ref p) σ H f := ⟨p, xs, rfl, SqT.of h, hl, q⟩
theorem gcons {g : TG} {gs : TGs} {v : V} {vs : List V} {f : L2.St → Hp → Prop} (q : g v σ H fun σ' H' => gs vs σ' H' f) : gCons g gs (v :: vs) σ H f := ⟨v, vs, rfl, q⟩
theorem gnil {f : L2.St → Hp → Prop} (q : f σ H) : gNil [] σ H f := ⟨rfl, q⟩
theorem gname {v : V} {f : L2.St → Hp → Prop} (q : f (σ.set i (some v)) H) : gName i v σ H f := q
theorem ret (q : te σ H D.rt) : tRet te D σ H := q
theorem ifS (q : c σ H fun b H1 => if b = true then t D σ H1 else u D σ H1) : tIfS c t u D σ H := q
theorem drop (q : te σ H fun _ H1 => D.nx σ H1) : tDrop te D σ H := q
theorem dput (q : te σ H fun v H1 => ta σ H1 fun x H2 => tb σ H2 fun y H3 => rDPut v x y H3 (D.nx σ)) : sDPut ta tb te D σ H := q
theorem dputS {p : Addr} {kvs : List (Key × V)} {k : Str} {v : V} {f : Hp → Prop} (h : H p = some (.dK kvs)) (hl : kvs.length < 100000) (q : f (upd H p (.dK (putK kvs (Sum.inr k) v)))) : rDPut v (.ref p) (.str k) H f := ⟨p, _, rfl, DPut.k (k := Sum.inr k) h (Nat.lt_of_lt_of_le hl (by decide)), q⟩
theorem fldS {f : Str} (q : te σ H fun y H1 => ta σ H1 fun x H2 => rFldS K f y x H2 (D.nx σ)) : sFld K ta te f D σ H := q
theorem fldSV {f : Str} {p C dx : Addr} {fs : List (Str × V)} {y : V} {k : Hp → Prop} (h : H p = some (.ins C dx fs)) (c : Cls K C) (n : NoAttr K C f) (l : fs.length < 1000) (q : k (upd H p (.ins C dx (putF f y fs)))) : rFldS K f y (.ref p) H k := ⟨p, C, dx, fs, rfl, h, c, n, l, q⟩
theorem par (q : tr σ H fun vs H1 => ∃ v w, vs = [v, w] ∧ D.nx ((σ.set i (some v)).set j (some w)) H1) : tPar i j tr D σ H := q
theorem par3 {l : Nat} (q : tr σ H fun vs H1 => ∃ u v w, vs = [u, v, w] ∧ D.nx (((σ.set i (some u)).set j (some v)).set l (some w)) H1) : tPar3 i j l tr D σ H := q
theorem parV {v w : V} {f : V → V → Prop} (q : f v w) : ∃ a b, [v, w] = [a, b] ∧ f a b := ⟨v, w, rfl, q⟩
theorem parV3 {u v w : V} {f : V → V → V → Prop} (q : f u v w) : ∃ a b c, [u, v, w] = [a, b, c] ∧ f a b c := ⟨u, v, w, rfl, q⟩
def rMkE (C : Addr) (fs : List Str) (vs : List V) (H1 : Hp) (Q : XK) : Prop := vs.length = fs.length ∧ ∀ d, H1 d = none → Q (.ref C) (some d) (upd H1 d (.xd (PySem.ErrX.setL [] fs vs)))
theorem raiseE {C : Addr} {fs : List Str} {W : WX} (q : tr σ H fun vs H1 => rMkE C fs vs H1 (fun cls d H' => W cls d σ H')) : tRaiseE C fs W tr D σ H := q
theorem mkE {C : Addr} {fs : List Str} {vs : List V} {Q : XK} (h : vs.length = fs.length) (q : ∀ d H', H d = none → Same H H' → H' d = some (.xd (PySem.ErrX.setL [] fs vs)) → Q (.ref C) (some d) H') : rMkE C fs vs H Q := ⟨h, fun d hd => q d _ hd (same_new hd) upd_same⟩
/-- for i in range(n) -/
def rForR (D : Ends) (j : Nat) (tb : TS) (σ : L2.St) (vs : List V) (H : Hp) : Prop := ∃ n : Int, vs = [.int n] ∧ -(2 ^ 62) ≤ n ∧ n < 2 ^ 62 ∧ ∃ W : Nat → Nat → L2.St → Hp → Prop, (∃ m, W 0 m σ H) ∧ ∀ i m σ H, W i m σ H →
  ((Itr 0 n.toNat).stop i H ∧ D.nx σ H) ∨ ((Itr 0 n.toNat).go i H ∧ ∃ N : L2.St → Hp → Prop, (∀ σ' H', N σ' H' → ∃ m', m' < m ∧ W (i + 1) m' σ' H') ∧ ∀ x H', (Itr 0 n.toNat).yld i H x H' → gName j x σ H' fun σ2 H2 => tb { D with nx := N, ct := N, bk := D.nx } σ2 H2)
theorem forR (q : tr σ H fun vs H1 => rForR D j t σ vs H1) : tFor (iRng1 tr) (gName j) t D σ H := q
theorem forR1 {n : Int} (Pv : Nat → L2.St → Hp → Prop) (hn : 0 ≤ n ∧ n ≤ 1000000000) (h0 : Pv 0 σ H)
    (hs : ∀ (i : Nat) σ' H', (i : Int) < n → Pv i σ' H' → t { D with nx := Pv (i + 1), ct := Pv (i + 1), bk := D.nx } (σ'.set j (some (.int (i : Int)))) H') (hd : ∀ σ' H', Pv n.toNat σ' H' → D.nx σ' H') : rForR D j t σ [.int n] H :=
  ⟨n, rfl, by omega, by omega, for_range (lo := 0) (n := n.toNat) Pv h0 (fun i σ' H' hi p => by
    have e0 : (0 : Int) + (i : Int) = (i : Int) := Int.zero_add _
    show t { D with nx := Pv (i + 1), ct := Pv (i + 1), bk := D.nx } (σ'.set j (some (.int ((0 : Int) + (i : Int))))) H'
    rw [e0]
    exact hs i σ' H' (by omega) p) hd⟩
/-- for a, b in zip(xs, ys), two lists of one length -/
def rForZ (K : PySem.W.Frag) (D : Ends) (g : TG) (tb : TS) (σ : L2.St) (vs : List V) (H : Hp) : Prop := ∃ a b xs ys, vs = [.ref a, .ref b] ∧ SqL K H a xs ∧ SqL K H b ys ∧ ∃ W : Nat → Nat → L2.St → Hp → Prop, (∃ m, W 0 m σ H) ∧ ∀ i m σ H, W i m σ H →
  ((Itz K a b).stop i H ∧ D.nx σ H) ∨ ((Itz K a b).go i H ∧ ∃ N : L2.St → Hp → Prop, (∀ σ' H', N σ' H' → ∃ m', m' < m ∧ W (i + 1) m' σ' H') ∧ ∀ v H', (Itz K a b).yld i H v H' → g v σ H' fun σ2 H2 => tb { D with nx := N, ct := N, bk := D.nx } σ2 H2)
theorem forZ {g : TG} (q : tr σ H fun vs H1 => rForZ K D g t σ vs H1) : tFor (iZip K tr) g t D σ H := q
theorem forZ1 {g : TG} {p q : Addr} {xs ys : List V} (Pv : Nat → L2.St → Hp → Prop) (hx : H p = some (.lst xs)) (hy : H q = some (.lst ys)) (hl : xs.length = ys.length) (h0 : Pv 0 σ H) (hq : ∀ i σ' H', Pv i σ' H' → H' p = some (.lst xs) ∧ H' q = some (.lst ys))
    (hs : ∀ (i : Nat) (x y : V) (T : Addr) σ' H' H'', xs[i]? = some x → ys[i]? = some y → Pv i σ' H' → Same H' H'' → H'' T = some (.tup [x, y]) → g (.ref T) σ' H'' fun σ2 H2 => t { D with nx := Pv (i + 1), ct := Pv (i + 1), bk := D.nx } σ2 H2) (hd : ∀ σ' H', Pv xs.length σ' H' → D.nx σ' H') : rForZ K D g t σ [.ref p, .ref q] H :=
  ⟨p, q, xs, ys, rfl, SqL.of hx, SqL.of hy, RZ.for_zipL hl Pv h0 (fun i σ' H' h => ⟨SqL.of (hq i σ' H' h).1, SqL.of (hq i σ' H' h).2⟩) (fun i x y T σ' H' h1 h2 h3 h4 => hs i x y T σ' H' _ h1 h2 h3 (same_new h4) upd_same) hd⟩
/-- for x in a tuple -/
def rForT (K : PySem.W.Frag) (D : Ends) (g : TG) (tb : TS) (σ : L2.St) (v : V) (H : Hp) : Prop := ∃ a, v = .ref a ∧ (∃ xs, SqT K H a xs) ∧ ∃ W : Nat → Nat → L2.St → Hp → Prop, (∃ m, W 0 m σ H) ∧ ∀ i m σ H, W i m σ H →
  ((Itt K a).stop i H ∧ D.nx σ H) ∨ ((Itt K a).go i H ∧ ∃ N : L2.St → Hp → Prop, (∀ σ' H', N σ' H' → ∃ m', m' < m ∧ W (i + 1) m' σ' H') ∧ ∀ v H', (Itt K a).yld i H v H' → g v σ H' fun σ2 H2 => tb { D with nx := N, ct := N, bk := D.nx } σ2 H2)
theorem forT {g : TG} (q : te σ H fun v H1 => rForT K D g t σ v H1) : tFor (iTup K te) g t D σ H := q
theorem forT1 {g : TG} {p : Addr} {xs : List V} (Pv : Nat → L2.St → Hp → Prop) (hx : H p = some (.tup xs)) (h0 : Pv 0 σ H) (hq : ∀ i σ' H', Pv i σ' H' → H' p = some (.tup xs))
    (hs : ∀ (i : Nat) (x : V) σ' H', xs[i]? = some x → Pv i σ' H' → g x σ' H' fun σ2 H2 => t { D with nx := Pv (i + 1), ct := Pv (i + 1), bk := D.nx } σ2 H2) (hd : ∀ σ' H', Pv xs.length σ' H' → D.nx σ' H') : rForT K D g t σ (.ref p) H :=
  ⟨p, rfl, ⟨xs, SqT.of hx⟩, for_tup Pv h0 (fun i σ' H' _ h => SqT.of (hq i σ' H' h)) hs hd⟩
/-- for x in a list -/
def rForL (K : PySem.W.Frag) (D : Ends) (g : TG) (tb : TS) (σ : L2.St) (v : V) (H : Hp) : Prop := ∃ a, v = .ref a ∧ (∃ xs, SqL K H a xs) ∧ ∃ W : Nat → Nat → L2.St → Hp → Prop, (∃ m, W 0 m σ H) ∧ ∀ i m σ H, W i m σ H →
  ((Itl K a).stop i H ∧ D.nx σ H) ∨ ((Itl K a).go i H ∧ ∃ N : L2.St → Hp → Prop, (∀ σ' H', N σ' H' → ∃ m', m' < m ∧ W (i + 1) m' σ' H') ∧ ∀ v H', (Itl K a).yld i H v H' → g v σ H' fun σ2 H2 => tb { D with nx := N, ct := N, bk := D.nx } σ2 H2)
theorem forL {g : TG} (q : te σ H fun v H1 => rForL K D g t σ v H1) : tFor (iList K te) g t D σ H := q
theorem forL1 {g : TG} {p : Addr} {xs : List V} (Pv : Nat → L2.St → Hp → Prop) (hx : H p = some (.lst xs)) (h0 : Pv 0 σ H) (hq : ∀ i σ' H', Pv i σ' H' → H' p = some (.lst xs))
    (hs : ∀ (i : Nat) (x : V) σ' H', xs[i]? = some x → Pv i σ' H' → g x σ' H' fun σ2 H2 => t { D with nx := Pv (i + 1), ct := Pv (i + 1), bk := D.nx } σ2 H2) (hd : ∀ σ' H', Pv xs.length σ' H' → D.nx σ' H') : rForL K D g t σ (.ref p) H :=
  ⟨p, rfl, ⟨xs, SqL.of hx⟩, for_list Pv h0 (fun i σ' H' _ h => SqL.of (hq i σ' H' h)) hs hd⟩
/-- while, by a word of the state and a measure m -/
theorem whl {c : TT} (W : Nat → L2.St → Hp → Prop) (m : Nat) (h0 : W m σ H) (hs : ∀ m σ H, W m σ H → c σ H fun b H1 => if b = true then t { D with nx := fun σ' H' => ∃ m', m' < m ∧ W m' σ' H', ct := fun σ' H' => ∃ m', m' < m ∧ W m' σ' H', bk := D.nx } σ H1 else D.nx σ H1)
    (mono : ∀ σ H Q Q', (∀ b H1, Q b H1 → Q' b H1) → c σ H Q → c σ H Q') : tWhile c t D σ H := by
  refine ⟨W, ⟨m, h0⟩, fun m σ H w => mono σ H _ _ (fun b H1 q => ?_) (hs m σ H w)⟩
  cases b with
  | true => exact ⟨_, fun σ' H' z => z, q⟩
  | false => exact q
end

/-! ### slices -/
theorem sl {r : V → Option Int → Option Int → Hp → VK → Prop} {te : TE} {tl th : TO} {σ : L2.St} {H : Hp} {Q : VK} (q : te σ H fun x H1 => tl σ H1 fun l H2 => th σ H2 fun u H3 => r x l u H3 Q) : tSl r te tl th σ H Q := q
theorem noPart {σ : L2.St} {H : Hp} {Q : Option Int → Hp → Prop} (q : Q none H) : tNoPart σ H Q := q
theorem part {te : TE} {σ : L2.St} {H : Hp} {Q : Option Int → Hp → Prop} (q : te σ H fun x H1 => ∃ i, x = .int i ∧ Q (some i) H1) : tPart te σ H Q := q
theorem partV {i : Int} {f : Int → Prop} (q : f i) : ∃ j, V.int i = .int j ∧ f j := ⟨i, rfl, q⟩
theorem slT {K : PySem.W.Frag} {H : Hp} {Q : VK} {p : Addr} {xs : List V} {lo hi : Option Int} (h : H p = some (.tup xs)) (n : ¬ (HT.sIx xs.length 0 lo = 0 ∧ HT.sIx xs.length xs.length hi = xs.length)) (q : ∀ t H2, H t = none → Same H H2 → H2 t = some (.tup (cutV xs lo hi)) → Q (.ref t) H2) : rSlT K (.ref p) lo hi H Q :=
  ⟨p, xs, rfl, SqT.of h, n, fun t ht => q t _ ht (same_new ht) upd_same⟩
theorem slL {K : PySem.W.Frag} {H : Hp} {Q : VK} {p : Addr} {xs : List V} {lo hi : Option Int} (h : H p = some (.lst xs)) (q : ∀ t H2, H t = none → Same H H2 → H2 t = some (.lst (cutV xs lo hi)) → Q (.ref t) H2) : rSlL K (.ref p) lo hi H Q :=
  ⟨p, xs, rfl, SqL.of h, fun t ht => q t _ ht (same_new ht) upd_same⟩
/-! ### deep equality of data -/
theorem dpT {K : PySem.W.Frag} {H : Hp} {p : Addr} {xs : List V} {ds : List PyData} (h : H p = some (.tup xs)) (d : DpAll K H xs ds) : Dp K H (.ref p) (.tuple ds) := .tup (SqT.of h) d
theorem dpL {K : PySem.W.Frag} {H : Hp} {p : Addr} {xs : List V} {ds : List PyData} (h : H p = some (.lst xs)) (d : DpAll K H xs ds) : Dp K H (.ref p) (.list ds) := .lst (SqL.of h) d
theorem dpInts {K : PySem.W.Frag} {H : Hp} : ∀ ns : List Int, DpAll K H (ns.map V.int) (ns.map PyData.int)
  | [] => .nil
  | n :: r => .cons (.int n) (dpInts r)
theorem eqD {K : PySem.W.Frag} {H : Hp} {x y : V} {d e : PyData} {Q : VK} {k : Bool} (hx : Dp K H x d) (hy : Dp K H y e) (sd : SeqAt.shaped d = true) (se : SeqAt.shaped e = true) (hk : PyData.eqv d e = k) (q : Q (.bl k) H) : rEqD K x y H Q := ⟨d, e, hx, hy, sd, se, hk ▸ q⟩
theorem neD {K : PySem.W.Frag} {H : Hp} {x y : V} {d e : PyData} {Q : VK} {k : Bool} (hx : Dp K H x d) (hy : Dp K H y e) (sd : SeqAt.shaped d = true) (se : SeqAt.shaped e = true) (hk : PyData.eqv d e = k) (q : Q (.bl (!k)) H) : rNeD K x y H Q := ⟨d, e, hx, hy, sd, se, hk ▸ q⟩
/-! ### comprehensions -/
def LcW (J : It) (g : TG) (tt : TT) (te : TE) (vs : List Nat) (σ : L2.St) (H1 : Hp) (Q : VK) : Prop := ∀ D, H1 D = none → ∃ W : Nat → Nat → Hp → Prop, (∃ m, W 0 m (upd H1 D (.lst []))) ∧ ∀ i m H, W i m H →
  (J.stop i H ∧ Q (.ref D) H) ∨ (J.go i H ∧ ∃ Nx : Hp → Prop, (∀ H', Nx H' → ∃ m', m' < m ∧ W (i + 1) m' H') ∧ ∀ x H', J.yld i H x H' → g x (wipe σ vs) H' fun σ2 H2 => wipe σ2 vs = wipe σ vs ∧ tt σ2 H2 fun b H3 =>
    if b = true then te σ2 H3 fun y H4 => ∃ acc, H4 D = some (.lst acc) ∧ acc.length < sizeLine ∧ Nx (upd H4 D (.lst (acc ++ [y]))) else Nx H3)
def rLc3 (g : TG) (tt : TT) (te : TE) (vs : List Nat) (σ : L2.St) (Q : VK) (us : List V) (H1 : Hp) : Prop := ∃ (i j c : Int) (n : Nat), us = [.int i, .int j, .int c] ∧ RgC i j c n ∧ LcW (Itc i c n) g tt te vs σ H1 Q
theorem lc3 {g : TG} {tt : TT} {te : TE} {vs : List Nat} {tr : TA} {σ : L2.St} {H : Hp} {Q : VK} (q : tr σ H fun us H1 => rLc3 g tt te vs σ Q us H1) : tLc (iRng3 tr) g tt te vs σ H Q := q
def rLc1 (g : TG) (tt : TT) (te : TE) (vs : List Nat) (σ : L2.St) (Q : VK) (us : List V) (H1 : Hp) : Prop := ∃ j : Int, us = [.int j] ∧ -(2 ^ 62) ≤ j ∧ j < 2 ^ 62 ∧ LcW (Itr 0 j.toNat) g tt te vs σ H1 Q
theorem lc1 {g : TG} {tt : TT} {te : TE} {vs : List Nat} {tr : TA} {σ : L2.St} {H : Hp} {Q : VK} (q : tr σ H fun us H1 => rLc1 g tt te vs σ Q us H1) : tLc (iRng1 tr) g tt te vs σ H Q := q
theorem lcW {J : It} {n : Nat} {GG : Hp → Prop} {Y : Nat → Hp → V → Hp → Prop} (w : Walk J n GG Y) {g : TG} {tt : TT} {te : TE} {vs : List Nat} {σ : L2.St} {H1 : Hp} {Q : VK} (Pv : Addr → Nat → Hp → Prop) (h0 : ∀ D, H1 D = none → Pv D 0 (upd H1 D (.lst []))) (hG : ∀ D i H, i ≤ n → Pv D i H → GG H)
    (hs : ∀ D i x H H', i < n → Pv D i H → Y i H x H' → g x (wipe σ vs) H' fun σ2 H2 => wipe σ2 vs = wipe σ vs ∧ tt σ2 H2 fun b H3 =>
      if b = true then te σ2 H3 fun y H4 => ∃ acc, H4 D = some (.lst acc) ∧ acc.length < sizeLine ∧ Pv D (i + 1) (upd H4 D (.lst (acc ++ [y]))) else Pv D (i + 1) H3) (hd : ∀ D H, H1 D = none → Pv D n H → Q (.ref D) H) : LcW J g tt te vs σ H1 Q :=
  fun D hD => lc_it w (Pv D) (h0 D hD) (hG D) (hs D) (fun H p => hd D H hD p)
end G
namespace Lw
open PySem L2
def top (i : Nat) : Stmt := PySem.Challenge.pw_loopsize_k22_turns_of_loops.main.body.getD i (.Pass ⟨0, 0, 0, 0⟩)
abbrev s_common_divisor : Stmt := top 6
abbrev s_Straight_init : Stmt := inClass (top 8) 0
abbrev s_Place_init : Stmt := inClass (top 9) 0
abbrev s_Place_call : Stmt := inClass (top 9) 1
abbrev s_straight_of : Stmt := top 10
abbrev s_place_of : Stmt := top 11
abbrev s_Loop_init : Stmt := inClass (top 14) 0
abbrev s_Loop_least_counter : Stmt := inClass (top 14) 1
abbrev s_Loop_many_turns : Stmt := inClass (top 14) 2
abbrev s_Loop_counter_of : Stmt := inClass (top 14) 3
abbrev s_Loop_turn_of : Stmt := inClass (top 14) 4
abbrev s_check_number : Stmt := top 15
abbrev s_check_formula : Stmt := top 16
abbrev s_pen : Stmt := top 18
abbrev s_draw : Stmt := top 19
abbrev s_big : Stmt := top 20
abbrev s_integer : Stmt := top 21
abbrev s_counters : Stmt := top 22
abbrev s_range_row : Stmt := top 23
abbrev s_refused_turn : Stmt := top 24
abbrev s_small_right : Stmt := top 25
abbrev s_far_right : Stmt := top 26
abbrev s_law : Stmt := top 27
abbrev s_BadNumber_init : Stmt := inClass (top 3) 0
abbrev s_TooMany_init : Stmt := inClass (top 4) 0
theorem sc_common_divisor : FnScope ["a", "b"] ["a", "b"] (defScope s_common_divisor) := ⟨rfl, rfl, rfl, by decide +kernel, rfl, by decide +kernel, by decide +kernel⟩
theorem sc_Straight_init : FnScope ["self", "i", "n", "one"] ["self", "i", "n", "one"] (defScope s_Straight_init) := ⟨rfl, rfl, rfl, by decide +kernel, rfl, by decide +kernel, by decide +kernel⟩
theorem sc_Place_init : FnScope ["self", "straight", "divisor", "whole", "common"] ["self", "straight", "divisor"] (defScope s_Place_init) := ⟨rfl, rfl, rfl, by decide +kernel, rfl, by decide +kernel, by decide +kernel⟩
theorem sc_Place_call : FnScope ["self", "i", "n", "whole"] ["self", "i", "n"] (defScope s_Place_call) := ⟨rfl, rfl, rfl, by decide +kernel, rfl, by decide +kernel, by decide +kernel⟩
theorem sc_straight_of : FnScope ["value"] ["value"] (defScope s_straight_of) := ⟨rfl, rfl, rfl, by decide +kernel, rfl, by decide +kernel, by decide +kernel⟩
theorem sc_place_of : FnScope ["value"] ["value"] (defScope s_place_of) := ⟨rfl, rfl, rfl, by decide +kernel, rfl, by decide +kernel, by decide +kernel⟩
theorem sc_Loop_init : FnScope ["self", "low", "high", "statements", "step", "down"] ["self", "low", "high", "statements", "step", "down"] (defScope s_Loop_init) := ⟨rfl, rfl, rfl, by decide +kernel, rfl, by decide +kernel, by decide +kernel⟩
theorem sc_Loop_least_counter : FnScope ["self", "n", "low"] ["self", "n"] (defScope s_Loop_least_counter) := ⟨rfl, rfl, rfl, by decide +kernel, rfl, by decide +kernel, by decide +kernel⟩
theorem sc_Loop_many_turns : FnScope ["self", "n", "room"] ["self", "n"] (defScope s_Loop_many_turns) := ⟨rfl, rfl, rfl, by decide +kernel, rfl, by decide +kernel, by decide +kernel⟩
theorem sc_Loop_counter_of : FnScope ["self", "n", "turn", "many", "steps"] ["self", "n", "turn"] (defScope s_Loop_counter_of) := ⟨rfl, rfl, rfl, by decide +kernel, rfl, by decide +kernel, by decide +kernel⟩
theorem sc_Loop_turn_of : FnScope ["self", "n", "counter", "beyond", "many", "steps"] ["self", "n", "counter"] (defScope s_Loop_turn_of) := ⟨rfl, rfl, rfl, by decide +kernel, rfl, by decide +kernel, by decide +kernel⟩
theorem sc_check_number : FnScope ["what", "number", "least", "most"] ["what", "number", "least", "most"] (defScope s_check_number) := ⟨rfl, rfl, rfl, by decide +kernel, rfl, by decide +kernel, by decide +kernel⟩
theorem sc_check_formula : FnScope ["place"] ["place"] (defScope s_check_formula) := ⟨rfl, rfl, rfl, by decide +kernel, rfl, by decide +kernel, by decide +kernel⟩
theorem sc_pen : FnScope ["_law_script"] ["_law_script"] (defScope s_pen) := ⟨rfl, rfl, rfl, by decide +kernel, rfl, by decide +kernel, by decide +kernel⟩
theorem sc_draw : FnScope ["_law_pen_here", "_law_many", "_law_digit", "_law_spot", "_law_cell", "_law_mixed"] ["_law_pen_here", "_law_many"] (defScope s_draw) := ⟨rfl, rfl, rfl, by decide +kernel, rfl, by decide +kernel, by decide +kernel⟩
theorem sc_big : FnScope ["_law_pen_here", "_law_many", "_law_found", "_law_k"] ["_law_pen_here", "_law_many"] (defScope s_big) := ⟨rfl, rfl, rfl, by decide +kernel, rfl, by decide +kernel, by decide +kernel⟩
theorem sc_integer : FnScope ["_law_value"] ["_law_value"] (defScope s_integer) := ⟨rfl, rfl, rfl, by decide +kernel, rfl, by decide +kernel, by decide +kernel⟩
theorem sc_counters : FnScope ["_law_row", "_law_n", "_law_low", "_law_high", "_law_found", "_law_counter"] ["_law_row", "_law_n"] (defScope s_counters) := ⟨rfl, rfl, rfl, by decide +kernel, rfl, by decide +kernel, by decide +kernel⟩
theorem sc_range_row : FnScope ["_law_pen_here", "_law_apart", "_law_low", "_law_high"] ["_law_pen_here"] (defScope s_range_row) := ⟨rfl, rfl, rfl, by decide +kernel, rfl, by decide +kernel, by decide +kernel⟩
theorem sc_refused_turn : FnScope ["_law_loop", "_law_n", "_law_turn", "_law_told", "e"] ["_law_loop", "_law_n", "_law_turn"] (defScope s_refused_turn) := ⟨rfl, rfl, rfl, by decide +kernel, rfl, by decide +kernel, by decide +kernel⟩
theorem sc_small_right : FnScope ["_law_loop", "_law_row", "_law_n", "_law_due", "_law_k", "_law_counter", "_law_told"] ["_law_loop", "_law_row", "_law_n"] (defScope s_small_right) := ⟨rfl, rfl, rfl, by decide +kernel, rfl, by decide +kernel, by decide +kernel⟩
theorem sc_far_right : FnScope ["_law_pen_here", "_law_loop", "_law_row", "_law_n", "_law_low", "_law_high", "_law_first", "_law_many", "_law_k", "_law_counter"] ["_law_pen_here", "_law_loop", "_law_row"] (defScope s_far_right) := ⟨rfl, rfl, rfl, by decide +kernel, rfl, by decide +kernel, by decide +kernel⟩
theorem sc_law : FnScope ["_law_script", "_law_pen_here", "_law_turn", "_law_row", "_law_low", "_law_loop", "_law_n"] ["_law_script"] (defScope s_law) := ⟨rfl, rfl, rfl, by decide +kernel, rfl, by decide +kernel, by decide +kernel⟩
structure Ad where
  a_common_divisor : Addr
  d_common_divisor : FuncData
  a_Straight_init : Addr
  d_Straight_init : FuncData
  a_Place_init : Addr
  d_Place_init : FuncData
  a_Place_call : Addr
  d_Place_call : FuncData
  a_straight_of : Addr
  d_straight_of : FuncData
  a_place_of : Addr
  d_place_of : FuncData
  a_Loop_init : Addr
  d_Loop_init : FuncData
  a_Loop_least_counter : Addr
  d_Loop_least_counter : FuncData
  a_Loop_many_turns : Addr
  d_Loop_many_turns : FuncData
  a_Loop_counter_of : Addr
  d_Loop_counter_of : FuncData
  a_Loop_turn_of : Addr
  d_Loop_turn_of : FuncData
  a_check_number : Addr
  d_check_number : FuncData
  a_check_formula : Addr
  d_check_formula : FuncData
  a_pen : Addr
  d_pen : FuncData
  a_draw : Addr
  d_draw : FuncData
  a_big : Addr
  d_big : FuncData
  a_integer : Addr
  d_integer : FuncData
  a_counters : Addr
  d_counters : FuncData
  a_range_row : Addr
  d_range_row : FuncData
  a_refused_turn : Addr
  d_refused_turn : FuncData
  a_small_right : Addr
  d_small_right : FuncData
  a_far_right : Addr
  d_far_right : FuncData
  a_law : Addr
  d_law : FuncData
  C_LoopError : Addr
  C_BadNumber : Addr
  a_BadNumber_init : Addr
  C_TooMany : Addr
  a_TooMany_init : Addr
  C_Straight : Addr
  C_Place : Addr
  C_Loop : Addr
structure Txt (P : Program) (K : PySem.W.Frag) (mg : Str → Option Value) (a : Ad) : Prop where
  F_common_divisor : Fun K "common_divisor" "common_divisor" s_common_divisor a.a_common_divisor a.d_common_divisor
  b_common_divisor : Binds K a.d_common_divisor ["a", "b"] []
  g_common_divisor : mg "common_divisor" = some (.ref a.a_common_divisor)
  F_Straight_init : Fun K "__init__" "Straight.__init__" s_Straight_init a.a_Straight_init a.d_Straight_init
  b_Straight_init : Binds K a.d_Straight_init ["self", "i", "n", "one"] []
  at_Straight_init : PySem.W.findIn K (.ref a.C_Straight) "__init__" = some (some (.ref a.a_Straight_init))
  i_Straight_init : PySem.W.isFn K (.ref a.a_Straight_init) = true
  F_Place_init : Fun K "__init__" "Place.__init__" s_Place_init a.a_Place_init a.d_Place_init
  b_Place_init : Binds K a.d_Place_init ["self", "straight", "divisor"] []
  at_Place_init : PySem.W.findIn K (.ref a.C_Place) "__init__" = some (some (.ref a.a_Place_init))
  i_Place_init : PySem.W.isFn K (.ref a.a_Place_init) = true
  F_Place_call : Fun K "__call__" "Place.__call__" s_Place_call a.a_Place_call a.d_Place_call
  b_Place_call : Binds K a.d_Place_call ["self", "i", "n"] []
  at_Place_call : PySem.W.findIn K (.ref a.C_Place) "__call__" = some (some (.ref a.a_Place_call))
  i_Place_call : PySem.W.isFn K (.ref a.a_Place_call) = true
  c_Place_call : StX.CallO K a.C_Place a.a_Place_call
  F_straight_of : Fun K "straight_of" "straight_of" s_straight_of a.a_straight_of a.d_straight_of
  b_straight_of : Binds K a.d_straight_of ["value"] []
  g_straight_of : mg "straight_of" = some (.ref a.a_straight_of)
  F_place_of : Fun K "place_of" "place_of" s_place_of a.a_place_of a.d_place_of
  b_place_of : Binds K a.d_place_of ["value"] []
  g_place_of : mg "place_of" = some (.ref a.a_place_of)
  F_Loop_init : FunD K "__init__" "Loop.__init__" (defArgs s_Loop_init) (defBody s_Loop_init) (defScope s_Loop_init) [] [("step", .int 1), ("down", .bl false)] a.a_Loop_init a.d_Loop_init
  kb_Loop_init_4_step_down : ∃ mv : List Value, KBn K a.d_Loop_init ["self", "low", "high", "statements", "step", "down"] 4 ["step", "down"] (fun us ws => us ++ ws ++ mv) (fun vs zs => vs ++ zs ++ ([] : List V))
  kb_Loop_init_4_ : ∃ mv : List Value, KBn K a.d_Loop_init ["self", "low", "high", "statements", "step", "down"] 4 [] (fun us ws => us ++ ws ++ mv) (fun vs zs => vs ++ zs ++ ([.int 1, .bl false] : List V))
  at_Loop_init : PySem.W.findIn K (.ref a.C_Loop) "__init__" = some (some (.ref a.a_Loop_init))
  i_Loop_init : PySem.W.isFn K (.ref a.a_Loop_init) = true
  F_Loop_least_counter : Fun K "least_counter" "Loop.least_counter" s_Loop_least_counter a.a_Loop_least_counter a.d_Loop_least_counter
  b_Loop_least_counter : Binds K a.d_Loop_least_counter ["self", "n"] []
  at_Loop_least_counter : PySem.W.findIn K (.ref a.C_Loop) "least_counter" = some (some (.ref a.a_Loop_least_counter))
  i_Loop_least_counter : PySem.W.isFn K (.ref a.a_Loop_least_counter) = true
  m_Loop_least_counter : Meth K a.C_Loop "least_counter" a.a_Loop_least_counter
  F_Loop_many_turns : Fun K "many_turns" "Loop.many_turns" s_Loop_many_turns a.a_Loop_many_turns a.d_Loop_many_turns
  b_Loop_many_turns : Binds K a.d_Loop_many_turns ["self", "n"] []
  at_Loop_many_turns : PySem.W.findIn K (.ref a.C_Loop) "many_turns" = some (some (.ref a.a_Loop_many_turns))
  i_Loop_many_turns : PySem.W.isFn K (.ref a.a_Loop_many_turns) = true
  m_Loop_many_turns : Meth K a.C_Loop "many_turns" a.a_Loop_many_turns
  F_Loop_counter_of : Fun K "counter_of" "Loop.counter_of" s_Loop_counter_of a.a_Loop_counter_of a.d_Loop_counter_of
  b_Loop_counter_of : Binds K a.d_Loop_counter_of ["self", "n", "turn"] []
  at_Loop_counter_of : PySem.W.findIn K (.ref a.C_Loop) "counter_of" = some (some (.ref a.a_Loop_counter_of))
  i_Loop_counter_of : PySem.W.isFn K (.ref a.a_Loop_counter_of) = true
  m_Loop_counter_of : Meth K a.C_Loop "counter_of" a.a_Loop_counter_of
  F_Loop_turn_of : Fun K "turn_of" "Loop.turn_of" s_Loop_turn_of a.a_Loop_turn_of a.d_Loop_turn_of
  b_Loop_turn_of : Binds K a.d_Loop_turn_of ["self", "n", "counter"] []
  at_Loop_turn_of : PySem.W.findIn K (.ref a.C_Loop) "turn_of" = some (some (.ref a.a_Loop_turn_of))
  i_Loop_turn_of : PySem.W.isFn K (.ref a.a_Loop_turn_of) = true
  m_Loop_turn_of : Meth K a.C_Loop "turn_of" a.a_Loop_turn_of
  F_check_number : Fun K "check_number" "check_number" s_check_number a.a_check_number a.d_check_number
  b_check_number : Binds K a.d_check_number ["what", "number", "least", "most"] []
  g_check_number : mg "check_number" = some (.ref a.a_check_number)
  F_check_formula : Fun K "check_formula" "check_formula" s_check_formula a.a_check_formula a.d_check_formula
  b_check_formula : Binds K a.d_check_formula ["place"] []
  g_check_formula : mg "check_formula" = some (.ref a.a_check_formula)
  F_pen : Fun K "_law_pen" "_law_pen" s_pen a.a_pen a.d_pen
  b_pen : Binds K a.d_pen ["_law_script"] []
  g_pen : mg "_law_pen" = some (.ref a.a_pen)
  F_draw : Fun K "_law_draw" "_law_draw" s_draw a.a_draw a.d_draw
  b_draw : Binds K a.d_draw ["_law_pen_here", "_law_many"] []
  g_draw : mg "_law_draw" = some (.ref a.a_draw)
  F_big : Fun K "_law_big" "_law_big" s_big a.a_big a.d_big
  b_big : Binds K a.d_big ["_law_pen_here", "_law_many"] []
  g_big : mg "_law_big" = some (.ref a.a_big)
  F_integer : Fun K "_law_integer" "_law_integer" s_integer a.a_integer a.d_integer
  b_integer : Binds K a.d_integer ["_law_value"] []
  g_integer : mg "_law_integer" = some (.ref a.a_integer)
  F_counters : Fun K "_law_counters" "_law_counters" s_counters a.a_counters a.d_counters
  b_counters : Binds K a.d_counters ["_law_row", "_law_n"] []
  g_counters : mg "_law_counters" = some (.ref a.a_counters)
  F_range_row : Fun K "_law_range_row" "_law_range_row" s_range_row a.a_range_row a.d_range_row
  b_range_row : Binds K a.d_range_row ["_law_pen_here"] []
  g_range_row : mg "_law_range_row" = some (.ref a.a_range_row)
  F_refused_turn : Fun K "_law_refused_turn" "_law_refused_turn" s_refused_turn a.a_refused_turn a.d_refused_turn
  b_refused_turn : Binds K a.d_refused_turn ["_law_loop", "_law_n", "_law_turn"] []
  g_refused_turn : mg "_law_refused_turn" = some (.ref a.a_refused_turn)
  F_small_right : Fun K "_law_small_right" "_law_small_right" s_small_right a.a_small_right a.d_small_right
  b_small_right : Binds K a.d_small_right ["_law_loop", "_law_row", "_law_n"] []
  g_small_right : mg "_law_small_right" = some (.ref a.a_small_right)
  F_far_right : Fun K "_law_far_right" "_law_far_right" s_far_right a.a_far_right a.d_far_right
  b_far_right : Binds K a.d_far_right ["_law_pen_here", "_law_loop", "_law_row"] []
  g_far_right : mg "_law_far_right" = some (.ref a.a_far_right)
  F_law : Fun K "law" "law" s_law a.a_law a.d_law
  b_law : Binds K a.d_law ["_law_script"] []
  g_law : mg "law" = some (.ref a.a_law)
  g_LoopError : mg "LoopError" = some (.ref a.C_LoopError)
  g_BadNumber : mg "BadNumber" = some (.ref a.C_BadNumber)
  e_BadNumber : PySem.ErrX.ErrTxt P K mg "BadNumber" a.C_BadNumber a.a_BadNumber_init ["what", "number"]
  x_BadNumber : XfC K a.C_BadNumber
  te_BadNumber : PySem.W.exmOne K (.ref a.C_BadNumber) (.ref a.C_BadNumber) = some true
  g_TooMany : mg "TooMany" = some (.ref a.C_TooMany)
  e_TooMany : PySem.ErrX.ErrTxt P K mg "TooMany" a.C_TooMany a.a_TooMany_init ["what", "many", "limit"]
  x_TooMany : XfC K a.C_TooMany
  te_TooMany : PySem.W.exmOne K (.ref a.C_TooMany) (.ref a.C_TooMany) = some true
  g_Straight : mg "Straight" = some (.ref a.C_Straight)
  cl_Straight : Cls K a.C_Straight
  mk_Straight : Mk K a.C_Straight a.a_Straight_init
  na_Straight_i : NoAttr K a.C_Straight "i"
  na_Straight_n : NoAttr K a.C_Straight "n"
  na_Straight_one : NoAttr K a.C_Straight "one"
  ca_Straight : PySem.W.findIn K (.ref a.C_Straight) "__class__" = some (some (.builtin "object.__class__"))
  mo_Straight : PySem.W.mroIn K a.C_Straight (.type "object") = some true
  g_Place : mg "Place" = some (.ref a.C_Place)
  cl_Place : Cls K a.C_Place
  mk_Place : Mk K a.C_Place a.a_Place_init
  na_Place_straight : NoAttr K a.C_Place "straight"
  na_Place_divisor : NoAttr K a.C_Place "divisor"
  ca_Place : PySem.W.findIn K (.ref a.C_Place) "__class__" = some (some (.builtin "object.__class__"))
  mo_Place : PySem.W.mroIn K a.C_Place (.type "object") = some true
  g_Loop : mg "Loop" = some (.ref a.C_Loop)
  cl_Loop : Cls K a.C_Loop
  mk_Loop : Mk K a.C_Loop a.a_Loop_init
  na_Loop_low : NoAttr K a.C_Loop "low"
  na_Loop_high : NoAttr K a.C_Loop "high"
  na_Loop_statements : NoAttr K a.C_Loop "statements"
  na_Loop_step : NoAttr K a.C_Loop "step"
  na_Loop_down : NoAttr K a.C_Loop "down"
  ca_Loop : PySem.W.findIn K (.ref a.C_Loop) "__class__" = some (some (.builtin "object.__class__"))
  mo_Loop : PySem.W.mroIn K a.C_Loop (.type "object") = some true
  cg : PySem.W.specialIn K (.builtin "object.__class__") "__get__" = some (some (.builtin "getset_descriptor.__get__"))
  ct : PySem.W.takesIn K (.builtin "object.__class__") = some true
  ki_S_S : PySem.W.kitOne K (.ref a.C_Straight) (.ref a.C_Straight) = some true
  ki_int_S : PySem.W.kitOne K (.type "int") (.ref a.C_Straight) = some false
  ki_P_P : PySem.W.kitOne K (.ref a.C_Place) (.ref a.C_Place) = some true
  ki_int_P : PySem.W.kitOne K (.type "int") (.ref a.C_Place) = some false
  g_MOST_STATEMENTS : ∃ u, mg "MOST_STATEMENTS" = some u ∧ RelV (V.int 16) u
  n_abs : mg "abs" = none
  n_all : mg "all" = none
  n_bool : mg "bool" = none
  n_int : mg "int" = none
  n_isinstance : mg "isinstance" = none
  n_len : mg "len" = none
  n_list : mg "list" = none
  n_max : mg "max" = none
  n_range : mg "range" = none
  n_str : mg "str" = none
  n_tuple : mg "tuple" = none
end Lw
local macro_rules | `(tactic| walk_at "hp") => `(tactic| first
  | assumption
  | exact L2.upd_same
  | (refine G.sget (by assumption) ?_; walk_at "hp")
  | (refine G.kget (by assumption) ?_ ?_; (· walk_at "hp"); (· intro _ h; cases h)))
local macro_rules | `(tactic| walk_at "s") => `(tactic| first
  | (with_reducible refine G.seq ?_)
  | (with_reducible refine G.nx ?_)
  | (with_reducible refine G.rt ?_)
  | (with_reducible refine G.next ?_)
  | (with_reducible refine G.asg ?_)
  | (with_reducible refine G.asgG ?_)
  | ((with_reducible refine' G.gtup ?h ?l ?q); (case h => walk_at "hp"); (case l => rfl))
  | (with_reducible refine G.gcons ?_)
  | (with_reducible refine G.gnil ?_)
  | (with_reducible refine G.gname ?_)
  | (with_reducible refine G.inst ?_)
  | (with_reducible refine G.refV ?_)
  | (with_reducible refine G.xf ?_)
  | ((with_reducible refine' G.xfV ?h ?l ?q); (case h => walk_at "hp"); (case l => walk_at "xk"))
  | (with_reducible refine G.ret ?_)
  | (with_reducible refine G.ifS ?_)
  | (with_reducible refine G.drop ?_)
  | ((with_reducible refine' G.var ?h ?q); (case h => rfl))
  | (with_reducible refine G.cst ?_)
  | (with_reducible refine G.op ?_)
  | (with_reducible refine G.un ?_)
  | (with_reducible refine G.I0 ?_)
  | (with_reducible refine G.U1 ?_)
  | ((with_reducible refine G.fdiv ?_ ?_ ?_); (· omega); (· omega))
  | ((with_reducible refine G.md ?_ ?_); (· omega))
  | ((with_reducible refine G.mulL ?_ ?_ ?_); (· omega); (· omega))
  | ((with_reducible refine G.mulR ?_ ?_ ?_); (· omega); (· omega))
  | ((with_reducible refine G.mulW ?_ ?_ ?_ ?_ ?_); (· omega); (· omega); (· omega); (· omega))
  | (with_reducible refine G.pow18 ?_)
  | (with_reducible refine G.pow6 ?_)
  | (with_reducible refine G.pow30 ?_)
  | (with_reducible refine G.pow29 ?_)
  | (with_reducible refine G.pow3 ?_)
  | (with_reducible refine G.eqI ?_)
  | (with_reducible refine G.neI ?_)
  | ((with_reducible refine G.eq ?_ ?_); (· rfl))
  | ((with_reducible refine G.ne ?_ ?_); (· rfl))
  | (with_reducible refine G.isN ?_)
  | (with_reducible refine G.notN ?_)
  | (with_reducible refine G.test ?_)
  | (with_reducible refine G.tBv ?_)
  | (with_reducible refine G.bl ?_)
  | (with_reducible refine G.and ?_)
  | (with_reducible refine G.or ?_)
  | (with_reducible refine G.not ?_)
  | (with_reducible refine G.andV ?_)
  | (with_reducible refine G.orV ?_)
  | (with_reducible refine G.notV ?_)
  | (with_reducible refine G.ifE ?_)
  | (with_reducible refine G.nil ?_)
  | (with_reducible refine G.cons ?_)
  | (with_reducible refine G.tup ?_)
  | (with_reducible refine G.lst ?_)
  | (with_reducible refine G.fld ?_)
  | (with_reducible refine G.call ?_)
  | (with_reducible refine G.cb ?_)
  | (with_reducible refine G.make ?_)
  | (with_reducible refine G.dget ?_)
  | (with_reducible refine G.dput ?_)
  | (with_reducible refine G.fldS ?_)
  | (with_reducible refine G.abs ?_)
  | (with_reducible refine G.max2 ?_)
  | (with_reducible refine G.min2 ?_)
  | (with_reducible refine G.int1 ?_)
  | (with_reducible refine G.own ?_)
  | (with_reducible refine G.ownR ?_)
  | (with_reducible refine G.meth ?_)
  | (with_reducible refine G.par ?_)
  | (with_reducible refine G.par3 ?_)
  | (with_reducible refine G.parV ?_)
  | (with_reducible refine G.parV3 ?_)
  | (with_reducible refine G.forR ?_)
  | (with_reducible refine G.lc3 ?_)
  | (with_reducible refine G.lc1 ?_)
  | (with_reducible refine G.forZ ?_)
  | (with_reducible refine G.forT ?_)
  | (with_reducible refine G.forL ?_)
  | (with_reducible refine G.methU ?_)
  | (with_reducible refine G.sl ?_)
  | (with_reducible refine G.noPart ?_)
  | (with_reducible refine G.part ?_)
  | (with_reducible refine G.partV ?_)
  | (with_reducible refine G.raiseE ?_)
  | (with_reducible refine G.iteT' ?_)
  | (with_reducible refine G.iteNT ?_)
  | (with_reducible refine G.iteNF ?_)
  | (with_reducible refine G.iteF' ?_)
  | ((with_reducible refine' G.dgetS ?h ?l ?q); (case h => walk_at "hp"); (case l => walk_at "dk"))
  | ((with_reducible refine' G.lenL ?h ?q); (case h => walk_at "hp"))
  | ((with_reducible refine' G.lenT ?h ?q); (case h => walk_at "hp"))
  | ((with_reducible refine' G.fldV ?h ?c ?n ?l ?q); (case h => walk_at "hp"); (case c => walk_at "cls"); (case n => walk_at "na"); (case l => walk_at "lk"))
  | ((with_reducible refine' G.fldSV ?h ?c ?n ?l ?q); (case h => walk_at "hp"); (case c => walk_at "cls"); (case n => walk_at "na"); (case l => walk_at "ln")))
local macro_rules | `(tactic| walk_at "g") => `(tactic| repeat (walk_at "s"))
namespace Lw
open PySem L2
def fStraight (v0 : V) (v1 : V) (v2 : V) : List (Str × V) := [("i", v0), ("n", v1), ("one", v2)]
theorem fStraight_i (v0 : V) (v1 : V) (v2 : V) : (fStraight v0 v1 v2).lookup ("i" : Str) = some v0 := by kernel_rfl
theorem fStraight_n (v0 : V) (v1 : V) (v2 : V) : (fStraight v0 v1 v2).lookup ("n" : Str) = some v1 := by kernel_rfl
theorem fStraight_one (v0 : V) (v1 : V) (v2 : V) : (fStraight v0 v1 v2).lookup ("one" : Str) = some v2 := by kernel_rfl
theorem fStraight_no_replaced (v0 : V) (v1 : V) (v2 : V) : (fStraight v0 v1 v2).lookup ("replaced" : Str) = none := by kernel_rfl
theorem fStraight_put0 (v0 : V) : putF "i" v0 ([] : List (Str × V)) = ([("i", v0)] : List (Str × V)) := by kernel_rfl
theorem fStraight_put1 (v0 : V) (v1 : V) : putF "n" v1 ([("i", v0)] : List (Str × V)) = ([("i", v0), ("n", v1)] : List (Str × V)) := by kernel_rfl
theorem fStraight_put2 (v0 : V) (v1 : V) (v2 : V) : putF "one" v2 ([("i", v0), ("n", v1)] : List (Str × V)) = ([("i", v0), ("n", v1), ("one", v2)] : List (Str × V)) := by kernel_rfl
def fPlace (v0 : V) (v1 : V) : List (Str × V) := [("straight", v0), ("divisor", v1)]
theorem fPlace_straight (v0 : V) (v1 : V) : (fPlace v0 v1).lookup ("straight" : Str) = some v0 := by kernel_rfl
theorem fPlace_divisor (v0 : V) (v1 : V) : (fPlace v0 v1).lookup ("divisor" : Str) = some v1 := by kernel_rfl
theorem fPlace_no_replaced (v0 : V) (v1 : V) : (fPlace v0 v1).lookup ("replaced" : Str) = none := by kernel_rfl
theorem fPlace_put0 (v0 : V) : putF "straight" v0 ([] : List (Str × V)) = ([("straight", v0)] : List (Str × V)) := by kernel_rfl
theorem fPlace_put1 (v0 : V) (v1 : V) : putF "divisor" v1 ([("straight", v0)] : List (Str × V)) = ([("straight", v0), ("divisor", v1)] : List (Str × V)) := by kernel_rfl
def fLoop (v0 : V) (v1 : V) (v2 : V) (v3 : V) (v4 : V) : List (Str × V) := [("low", v0), ("high", v1), ("statements", v2), ("step", v3), ("down", v4)]
theorem fLoop_low (v0 : V) (v1 : V) (v2 : V) (v3 : V) (v4 : V) : (fLoop v0 v1 v2 v3 v4).lookup ("low" : Str) = some v0 := by kernel_rfl
theorem fLoop_high (v0 : V) (v1 : V) (v2 : V) (v3 : V) (v4 : V) : (fLoop v0 v1 v2 v3 v4).lookup ("high" : Str) = some v1 := by kernel_rfl
theorem fLoop_statements (v0 : V) (v1 : V) (v2 : V) (v3 : V) (v4 : V) : (fLoop v0 v1 v2 v3 v4).lookup ("statements" : Str) = some v2 := by kernel_rfl
theorem fLoop_step (v0 : V) (v1 : V) (v2 : V) (v3 : V) (v4 : V) : (fLoop v0 v1 v2 v3 v4).lookup ("step" : Str) = some v3 := by kernel_rfl
theorem fLoop_down (v0 : V) (v1 : V) (v2 : V) (v3 : V) (v4 : V) : (fLoop v0 v1 v2 v3 v4).lookup ("down" : Str) = some v4 := by kernel_rfl
theorem fLoop_no_least_counter (v0 : V) (v1 : V) (v2 : V) (v3 : V) (v4 : V) : (fLoop v0 v1 v2 v3 v4).lookup ("least_counter" : Str) = none := by kernel_rfl
theorem fLoop_no_many_turns (v0 : V) (v1 : V) (v2 : V) (v3 : V) (v4 : V) : (fLoop v0 v1 v2 v3 v4).lookup ("many_turns" : Str) = none := by kernel_rfl
theorem fLoop_no_counter_of (v0 : V) (v1 : V) (v2 : V) (v3 : V) (v4 : V) : (fLoop v0 v1 v2 v3 v4).lookup ("counter_of" : Str) = none := by kernel_rfl
theorem fLoop_no_turn_of (v0 : V) (v1 : V) (v2 : V) (v3 : V) (v4 : V) : (fLoop v0 v1 v2 v3 v4).lookup ("turn_of" : Str) = none := by kernel_rfl
theorem fLoop_put0 (v0 : V) : putF "low" v0 ([] : List (Str × V)) = ([("low", v0)] : List (Str × V)) := by kernel_rfl
theorem fLoop_put1 (v0 : V) (v1 : V) : putF "high" v1 ([("low", v0)] : List (Str × V)) = ([("low", v0), ("high", v1)] : List (Str × V)) := by kernel_rfl
theorem fLoop_put2 (v0 : V) (v1 : V) (v2 : V) : putF "statements" v2 ([("low", v0), ("high", v1)] : List (Str × V)) = ([("low", v0), ("high", v1), ("statements", v2)] : List (Str × V)) := by kernel_rfl
theorem fLoop_put3 (v0 : V) (v1 : V) (v2 : V) (v3 : V) : putF "step" v3 ([("low", v0), ("high", v1), ("statements", v2)] : List (Str × V)) = ([("low", v0), ("high", v1), ("statements", v2), ("step", v3)] : List (Str × V)) := by kernel_rfl
theorem fLoop_put4 (v0 : V) (v1 : V) (v2 : V) (v3 : V) (v4 : V) : putF "down" v4 ([("low", v0), ("high", v1), ("statements", v2), ("step", v3)] : List (Str × V)) = ([("low", v0), ("high", v1), ("statements", v2), ("step", v3), ("down", v4)] : List (Str × V)) := by kernel_rfl
local macro_rules | `(tactic| walk_at "cls") => `(tactic| first | exact Lw.Txt.cl_Straight (by assumption) | exact Lw.Txt.cl_Place (by assumption) | exact Lw.Txt.cl_Loop (by assumption))
local macro_rules | `(tactic| walk_at "na") => `(tactic| first | exact Lw.Txt.na_Straight_i (by assumption) | exact Lw.Txt.na_Straight_n (by assumption) | exact Lw.Txt.na_Straight_one (by assumption) | exact Lw.Txt.na_Place_straight (by assumption) | exact Lw.Txt.na_Place_divisor (by assumption) | exact Lw.Txt.na_Loop_low (by assumption) | exact Lw.Txt.na_Loop_high (by assumption) | exact Lw.Txt.na_Loop_statements (by assumption) | exact Lw.Txt.na_Loop_step (by assumption) | exact Lw.Txt.na_Loop_down (by assumption))
local macro_rules | `(tactic| walk_at "lk") => `(tactic| first | exact Lw.fStraight_i _ _ _ | exact Lw.fStraight_n _ _ _ | exact Lw.fStraight_one _ _ _ | exact Lw.fPlace_straight _ _ | exact Lw.fPlace_divisor _ _ | exact Lw.fLoop_low _ _ _ _ _ | exact Lw.fLoop_high _ _ _ _ _ | exact Lw.fLoop_statements _ _ _ _ _ | exact Lw.fLoop_step _ _ _ _ _ | exact Lw.fLoop_down _ _ _ _ _)
local macro_rules | `(tactic| walk_at "ln") => `(tactic| first | (show 0 < 1000; decide) | (show 1 < 1000; decide) | (show 2 < 1000; decide) | (show 3 < 1000; decide) | (show 4 < 1000; decide))
def IsS (a : Ad) (H : Hp) (p : Addr) (i n o : Int) : Prop := ∃ dx, H p = some (.ins a.C_Straight dx (fStraight (.int i) (.int n) (.int o)))
def IsP (a : Ad) (H : Hp) (p : Addr) (i n o d : Int) : Prop := ∃ dx s dy, H p = some (.ins a.C_Place dx (fPlace (.ref s) (.int d))) ∧ H s = some (.ins a.C_Straight dy (fStraight (.int i) (.int n) (.int o)))
def SVal (a : Ad) (H : Hp) (y : V) (i n o : Int) : Prop := (∃ q, y = .ref q ∧ IsS a H q i n o) ∨ (y = .int o ∧ i = 0 ∧ n = 0)
def Sm (x : Int) : Prop := -18446744073709551616 < x ∧ x < 18446744073709551616
def spGcd : Sp := fun vs H Q _ => ∃ (a b : Int), vs = [.int a, .int b] ∧ 0 ≤ a ∧ 0 ≤ b ∧ Q (.int (Int.gcd a b)) H
def spSInit (a : Ad) : Sp := fun vs H Q _ => ∃ (p dx : Addr) (i n o : Int), vs = [.ref p, .int i, .int n, .int o] ∧ H p = some (.ins a.C_Straight dx []) ∧ Q .non (upd H p (.ins a.C_Straight dx (fStraight (.int i) (.int n) (.int o))))
def spSof (a : Ad) : Sp := fun vs H Q _ => ∃ (y : V) (i n o : Int), vs = [y] ∧ SVal a H y i n o ∧ ∀ q H', Same H H' → IsS a H' q i n o → Q (.ref q) H'
def gP (i n d : Int) : Int := (Int.gcd d (Int.gcd i n : Nat) : Nat)
def xBN (wh : Str) (d : Int) : List (Str × V) := PySem.ErrX.setL [] ["what", "number"] [.str wh, .int d]
def spPInit (a : Ad) : Sp := fun vs H Q E => ∃ (p dx : Addr) (y : V) (i n o d : Int), vs = [.ref p, y, .int d] ∧ H p = some (.ins a.C_Place dx []) ∧ SVal a H y i n o ∧ d < 1073741824 ∧
  (d < 1 → ∀ e H', Same H H' → H' e = some (.xd (xBN "divisor" d)) → E (.ref a.C_BadNumber) (some e) H') ∧
  (1 ≤ d → ∀ s dy H', Same H H' → H' s = some (.ins a.C_Straight dy (fStraight (.int (i / gP i n d)) (.int (n / gP i n d)) (.int (o / gP i n d)))) → Q .non (upd H' p (.ins a.C_Place dx (fPlace (.ref s) (.int (d / gP i n d))))))
def BB (x : Int) : Prop := -10000000000000000000000000000000000000000 < x ∧ x < 10000000000000000000000000000000000000000
def spPCall (a : Ad) : Sp := fun vs H Q _ => ∃ (p : Addr) (i n o d x y : Int), vs = [.ref p, .int x, .int y] ∧ IsP a H p i n o d ∧ BB i ∧ BB n ∧ BB x ∧ BB y ∧ 1 ≤ d ∧ d < 1073741824 ∧ Q (.int ((i * x + n * y + o) / d)) H
/-- a place, or an integer in its place, in least form -/
def PVal (a : Ad) (H : Hp) (y : V) (n o d : Int) : Prop := (∃ q, y = .ref q ∧ IsP a H q 0 n o d) ∨ (y = .int o ∧ n = 0 ∧ d = 1)
def spPof (a : Ad) : Sp := fun vs H Q E => ∃ (y : V) (n o d : Int), vs = [y] ∧ PVal a H y n o d ∧ ∀ q H', Same H H' → IsP a H' q 0 n o d → Q (.ref q) H'
def spCheck (a : Ad) : Sp := fun vs H Q E => ∃ (x : Str) (n lo hi : Int), vs = [.str x, .int n, .int lo, .int hi] ∧
  ((n < lo ∨ hi < n) → ∀ e H', Same H H' → H' e = some (.xd (xBN x n)) → E (.ref a.C_BadNumber) (some e) H') ∧ ((lo ≤ n ∧ n ≤ hi) → Q .non H)
def spForm (a : Ad) : Sp := fun vs H Q E => ∃ (p : Addr) (n o d : Int), vs = [.ref p] ∧ IsP a H p 0 n o d ∧ (0 ≤ n ∧ n ≤ 3) ∧ (-999 ≤ o ∧ o ≤ 999) ∧ (1 ≤ d ∧ d ≤ 3) ∧ Q .non H
/-- a loop at p, with places (0, n, o) / d -/
def IsL (a : Ad) (H : Hp) (p : Addr) (n1 o1 d1 n2 o2 d2 st : Int) (dn : Bool) : Prop := ∃ dx l h t, H p = some (.ins a.C_Loop dx (fLoop (.ref l) (.ref h) (.ref t) (.int st) (.bl dn))) ∧ IsP a H l 0 n1 o1 d1 ∧ IsP a H h 0 n2 o2 d2
section
variable {P : Program} {w : World} {K : PySem.W.Frag} {mg : Str → Option Value} {base : Heap} {a : Ad}
theorem ty_S (T : Txt P K mg a) {H : Hp} {p dx : Addr} {fs : List (Str × V)} (h : H p = some (.ins a.C_Straight dx fs)) : TyX K H (.ref p) (.ref a.C_Straight) := .base (.ins h T.cl_Straight T.ca_Straight T.cg T.ct T.mo_Straight)
theorem ty_P (T : Txt P K mg a) {H : Hp} {p dx : Addr} {fs : List (Str × V)} (h : H p = some (.ins a.C_Place dx fs)) : TyX K H (.ref p) (.ref a.C_Place) := .base (.ins h T.cl_Place T.ca_Place T.cg T.ct T.mo_Place)
theorem same_made {H : Hp} {x dx C : Addr} {o : HO} (hx : H x = none) (hd : H dx = none) : Same H (upd (upd (upd H dx (.own x)) x (.ins C dx [])) x o) := fun b u e => by
  rw [G.upd_upd, upd_ne (ne_of_none e hx), upd_ne (ne_of_none e hd)]
  exact e
theorem same_made0 {H : Hp} {x dx C : Addr} (hx : H x = none) (hd : H dx = none) : Same H (upd (upd H dx (.own x)) x (.ins C dx [])) := fun b u e => by
  rw [upd_ne (ne_of_none e hx), upd_ne (ne_of_none e hd)]
  exact e
theorem mkS {E : XK} {H : Hp} {Q : VK} {i n o : Int} (q : ∀ p dx H', H p = none → Same H H' → H' p = some (.ins a.C_Straight dx (fStraight (.int i) (.int n) (.int o))) → Q (.ref p) H') : G.rMake a.C_Straight (spSInit a) E [.int i, .int n, .int o] H Q :=
  fun x dx hx hd _ => ⟨x, dx, i, n, o, rfl, upd_same, rfl, q x dx _ hx (same_made hx hd) upd_same⟩
theorem gP_pos {i n d : Int} (h : 1 ≤ d) : 0 < gP i n d := by
  unfold gP
  have : 0 < Int.gcd d (Int.gcd i n : Nat) := Int.gcd_pos_of_ne_zero_left _ (by omega)
  omega
theorem gP_dvd {i n d : Int} : gP i n d ∣ d := Int.gcd_dvd_left ..
theorem gP_le {i n d : Int} (h : 1 ≤ d) : gP i n d ≤ d := Int.le_of_dvd (by omega) gP_dvd
theorem ok_common_divisor (T : Txt P K mg a) : FnOk P w K mg base CX0 1 a.a_common_divisor a.d_common_divisor ["a", "b"] spGcd := by
  refine T.F_common_divisor.ok sc_common_divisor (fun vs H Q E h => ?_) (fun cdv A outer s H vs Q E hr h => ?_)
  · obtain ⟨x, y, rfl, _⟩ := h
    rfl
  · obtain ⟨x, y, rfl, hx, hy, k⟩ := h
    obtain ⟨x, rfl⟩ := Int.eq_ofNat_of_zero_le hx
    obtain ⟨y, rfl⟩ := Int.eq_ofNat_of_zero_le hy
    rw [Int.gcd_natCast_natCast] at k
    refine ⟨_, (pss_cons (ps_while PassesOwn.never (pt_cmpR op_gt (pv 1) pe_int (nomark _)) (pss_one (ps_par (i := 0) (j := 1) (by rfl) sc_common_divisor.nd rfl rfl (by decide) rfl rfl (pa_cons (pv 1) (pa_cons (pe_op op_mod (pv 0) (pv 1)) pa_nil)) (by rfl))))
      (pss_one (ps_ret (pv 0)))), ?_⟩
    refine G.seq (G.whl (fun m σ H' => ∃ u v : Nat, σ = [some (.int u), some (.int v)] ∧ H' = H ∧ Nat.gcd u v = Nat.gcd x y ∧ m = v) y ⟨x, y, rfl, rfl, rfl, rfl⟩ ?_ ?_)
    · rintro m σ H' ⟨u, v, rfl, rfl, e, rfl⟩
      walk_at "g"
      refine G.ite (fun hv => ?_) (fun hv => ?_)
      · walk_at "g"
        have hm : 0 < m := by omega
        refine ⟨u % m, Nat.mod_lt _ hm, m, u % m, ?_, rfl, ?_, rfl⟩
        · show [some (V.int (m : Int)), some (V.int ((u : Int) % (m : Int)))] = _
          rw [← Int.natCast_emod] 
        · rw [← e, Nat.gcd_comm u m, Nat.gcd_rec m u, Nat.gcd_comm]
      · walk_at "g"
        have hm : m = 0 := by omega
        subst hm
        rw [Nat.gcd_zero_right] at e
        rw [e]
        exact k
    · intro σ H Q Q' hm hq
      obtain ⟨v, h1, h2⟩ := hq
      obtain ⟨i, j, h3, h4, k', h5, h6⟩ := h2
      exact ⟨v, h1, i, j, h3, h4, k', h5, hm _ _ h6⟩
theorem ok_Straight_init (T : Txt P K mg a) : FnOk P w K mg base CX0 1 a.a_Straight_init a.d_Straight_init ["self", "i", "n", "one"] (spSInit a) := by
  refine T.F_Straight_init.ok sc_Straight_init (fun vs H Q E h => ?_) (fun cdv A outer s H vs Q E hr h => ?_)
  · obtain ⟨p, dx, i, n, o, rfl, _⟩ := h
    rfl
  · obtain ⟨p, dx, i, n, o, rfl, hp, k⟩ := h
    refine ⟨_, (pss_cons (ps_fld (pv 0) (pv 1) rfl)
      (pss_cons (ps_fld (pv 0) (pv 2) rfl)
      (pss_one (ps_fld (pv 0) (pv 3) rfl)))), ?_⟩
    walk_at "g"
    simp only [G.upd_upd, fStraight_put0, fStraight_put1, fStraight_put2]
    exact k
theorem ok_straight_of (T : Txt P K mg a) : FnOk P w K mg base CX0 3 a.a_straight_of a.d_straight_of ["value"] (spSof a) := by
  refine T.F_straight_of.ok sc_straight_of (fun vs H Q E h => ?_) (fun cdv A outer s H vs Q E hr h => ?_)
  · obtain ⟨y, i, n, o, rfl, _⟩ := h
    rfl
  · obtain ⟨y, i, n, o, rfl, hy, k⟩ := h
    refine ⟨_, (pss_cons (ps_if (pt_val (pe_callB call_isi (by rfl) T.n_isinstance (by decide +kernel) (pa_cons (pv 0) (pa_cons (pe_glob (v := .ref a.C_Straight) rfl T.g_Straight rfl) pa_nil)))) (pss_one (ps_ret (pv 0))) pss_nil)
      (pss_one (ps_ret (pe_makeS T.mk_Straight (ok_Straight_init T) (hr.mono (by decide)) rfl T.g_Straight T.b_Straight_init pass0S (pa_cons pe_int (pa_cons pe_int (pa_cons (pv 0) pa_nil))))))), ?_⟩
    walk_at "g"
    rcases hy with ⟨q, rfl, dy, hq⟩ | ⟨rfl, rfl, rfl⟩
    · refine ⟨_, _, _, _, true, rfl, .own _, ty_S T hq, T.ki_S_S, ?_⟩
      walk_at "g"
      exact k q H (Same.refl H) ⟨dy, hq⟩
    · refine ⟨_, _, _, _, false, rfl, .own _, .base (.int o), T.ki_int_S, ?_⟩
      walk_at "g"
      exact mkS fun p dx H' _ s h => k p H' s ⟨dx, h⟩
theorem ok_Place_init (T : Txt P K mg a) : FnOk P w K mg base (L2.CX P w) 4 a.a_Place_init a.d_Place_init ["self", "straight", "divisor"] (spPInit a) := by
  refine T.F_Place_init.okX sc_Place_init (fun vs H Q E h => ?_) (fun cdv A outer s H vs Q E hr h => ?_)
  · obtain ⟨p, dx, y, i, n, o, d, rfl, _⟩ := h
    rfl
  · obtain ⟨p, dx, y, i, n, o, d, rfl, hp, hy, hd, kE, kQ⟩ := h
    refine ⟨_, (pss_cons (ps_if (pt_cmpR op_lt (pv 2) pe_int (nomark _)) (pss_one (ps_raiseE rfl T.e_BadNumber (by decide) (by decide) hr (takes_of rfl rfl rfl rfl) (pa_cons pe_str (pa_cons (pv 2) pa_nil)))) pss_nil)
      (pss_cons (ps_set (i := 3) sc_Place_init.nd rfl (Or.inl rfl) (pe_callS (ok_straight_of T) (hr.mono (by decide)) rfl T.g_straight_of T.F_straight_of.kp T.b_straight_of pass0S (pa_cons (pv 1) pa_nil)))
      (pss_cons (ps_set (i := 4) sc_Place_init.nd rfl (Or.inl rfl) (pe_callS (ok_common_divisor T) (hr.mono (by decide)) rfl T.g_common_divisor T.F_common_divisor.kp T.b_common_divisor pass0S (pa_cons (pv 2) (pa_cons (pe_callS (ok_common_divisor T) (hr.mono (by decide)) rfl T.g_common_divisor T.F_common_divisor.kp T.b_common_divisor pass0S (pa_cons (pe_callB G.cAbs (by rfl) T.n_abs (by decide +kernel) (pa_cons (pe_fld (pv 3) rfl) pa_nil)) (pa_cons (pe_callB G.cAbs (by rfl) T.n_abs (by decide +kernel) (pa_cons (pe_fld (pv 3) rfl) pa_nil)) pa_nil))) pa_nil))))
      (pss_cons (ps_fld (pv 0) (pe_makeS T.mk_Straight (ok_Straight_init T) (hr.mono (by decide)) rfl T.g_Straight T.b_Straight_init pass0S (pa_cons (pe_op op_fdiv (pe_fld (pv 3) rfl) (pv 4)) (pa_cons (pe_op op_fdiv (pe_fld (pv 3) rfl) (pv 4)) (pa_cons (pe_op op_fdiv (pe_fld (pv 3) rfl) (pv 4)) pa_nil)))) rfl)
      (pss_one (ps_fld (pv 0) (pe_op op_fdiv (pv 2) (pv 4)) rfl)))))), ?_⟩
    walk_at "g"
    refine G.ite (fun hd1 => ?_) (fun hd1 => ?_)
    · walk_at "g"
      exact G.mkE rfl fun e H' _ s1 he => kE hd1 e H' s1 he
    · walk_at "g"
      refine ⟨y, i, n, o, rfl, hy, fun q H1 s1 ⟨dy, hq⟩ => ?_⟩
      walk_at "g"
      refine ⟨_, _, rfl, by omega, by omega, ?_⟩
      refine ⟨_, _, rfl, by omega, by omega, ?_⟩
      have eg : (Int.gcd d (Int.gcd i.natAbs n.natAbs : Nat) : Int) = gP i n d := by
        unfold gP
        simp [Int.gcd]
      rw [eg]
      have h1 := gP_pos (i := i) (n := n) (d := d) (by omega)
      have h2 := gP_le (i := i) (n := n) (d := d) (by omega)
      walk_at "g"
      refine mkS fun z dz H2 _ s2 hz => ?_
      walk_at "g"
      have := kQ (by omega) z dz H2 (s1.trans s2) hz
      simp only [G.upd_upd, fPlace_put0, fPlace_put1]
      exact this
theorem mkP {E : XK} {H : Hp} {Q : VK} {y : V} {i n o d : Int} (hy : SVal a H y i n o) (hd : d < 1073741824) (kE : d < 1 → ∀ e H', Same H H' → H' e = some (.xd (xBN "divisor" d)) → E (.ref a.C_BadNumber) (some e) H')
    (kQ : 1 ≤ d → ∀ p dx s dy H', Same H H' → H' p = some (.ins a.C_Place dx (fPlace (.ref s) (.int (d / gP i n d)))) → H' s = some (.ins a.C_Straight dy (fStraight (.int (i / gP i n d)) (.int (n / gP i n d)) (.int (o / gP i n d)))) → Q (.ref p) H') : G.rMake a.C_Place (spPInit a) E [y, .int d] H Q := by
  intro x dx hx hdx _
  have s0 := same_made0 (C := a.C_Place) hx hdx
  refine ⟨x, dx, y, i, n, o, d, rfl, upd_same, ?_, hd, fun h1 e H' s1 he => kE h1 e H' (s0.trans s1) he, fun h1 s dy H' s1 hs => ⟨rfl, ?_⟩⟩
  · rcases hy with ⟨q, rfl, dq, hq⟩ | h
    · exact .inl ⟨q, rfl, dq, s0 _ _ hq⟩
    · exact .inr h
  · have hx1 : H' x = some (.ins a.C_Place dx []) := s1 _ _ upd_same
    have ne : s ≠ x := fun z => by
      rw [z, hx1] at hs
      have := (HO.ins.inj (Option.some.inj hs)).2.2
      cases this
    refine kQ h1 x dx s dy _ (fun b u e => ?_) upd_same (by rw [upd_ne ne]; exact hs)
    rw [upd_ne (ne_of_none e hx)]
    exact s1 _ _ (s0 _ _ e)
theorem ok_Place_call (T : Txt P K mg a) : FnOk P w K mg base CX0 1 a.a_Place_call a.d_Place_call ["self", "i", "n"] (spPCall a) := by
  refine T.F_Place_call.ok sc_Place_call (fun vs H Q E h => ?_) (fun cdv A outer s H vs Q E hr h => ?_)
  · obtain ⟨p, i, n, o, d, x, y, rfl, _⟩ := h
    rfl
  · obtain ⟨p, i, n, o, d, x, y, rfl, ⟨dx, s', dy, hp, hs⟩, ⟨h1, h2⟩, ⟨h3, h4⟩, ⟨g1, g2⟩, ⟨g3, g4⟩, h5, h6, k⟩ := h
    refine ⟨_, (pss_cons (ps_set (i := 3) sc_Place_call.nd rfl (Or.inl rfl) (pe_fld (pv 0) rfl))
      (pss_one (ps_ret (pe_op op_fdiv (pe_op op_add (pe_op op_add (pe_op op_mulW (pe_fld (pv 3) rfl) (pv 1)) (pe_op op_mulW (pe_fld (pv 3) rfl) (pv 2))) (pe_fld (pv 3) rfl)) (pe_fld (pv 0) rfl))))), ?_⟩
    walk_at "g"
    exact k
theorem ok_place_of (T : Txt P K mg a) : FnOk P w K mg base (L2.CX P w) 6 a.a_place_of a.d_place_of ["value"] (spPof a) := by
  refine T.F_place_of.okX sc_place_of (fun vs H Q E h => ?_) (fun cdv A outer s H vs Q E hr h => ?_)
  · obtain ⟨y, n, o, d, rfl, _⟩ := h
    rfl
  · obtain ⟨y, n, o, d, rfl, hy, k⟩ := h
    refine ⟨_, (pss_cons (ps_if (pt_val (pe_callB call_isi (by rfl) T.n_isinstance (by decide +kernel) (pa_cons (pv 0) (pa_cons (pe_glob (v := .ref a.C_Place) rfl T.g_Place rfl) pa_nil)))) (pss_one (ps_ret (pv 0))) pss_nil)
      (pss_one (ps_ret (pe_makeS T.mk_Place (ok_Place_init T) (hr.mono (by decide)) rfl T.g_Place T.b_Place_init (fun σ => passAt (takes_of rfl rfl rfl rfl) σ) (pa_cons (pv 0) (pa_cons pe_int pa_nil)))))), ?_⟩
    walk_at "g"
    rcases hy with ⟨q, rfl, dq, sq, ds, hq, hs⟩ | ⟨rfl, rfl, rfl⟩
    · refine ⟨_, _, _, _, true, rfl, .own _, ty_P T hq, T.ki_P_P, ?_⟩
      walk_at "g"
      exact k q H (Same.refl H) ⟨dq, sq, ds, hq, hs⟩
    · refine ⟨_, _, _, _, false, rfl, .own _, .base (.int o), T.ki_int_P, ?_⟩
      walk_at "g"
      have e1 : gP 0 0 1 = 1 := by decide
      refine mkP (i := 0) (n := 0) (o := o) (.inr ⟨rfl, rfl, rfl⟩) (by omega) (fun h => by omega) fun _ p dx s dy H' s1 h2 h3 => ?_
      rw [e1, Int.ediv_one] at h2 h3
      rw [Int.ediv_one] at h3
      exact k p H' s1 ⟨dx, s, dy, h2, h3⟩
theorem ok_check_number (T : Txt P K mg a) : FnOk P w K mg base (L2.CX P w) 1 a.a_check_number a.d_check_number ["what", "number", "least", "most"] (spCheck a) := by
  refine T.F_check_number.okX sc_check_number (fun vs H Q E h => ?_) (fun cdv A outer s H vs Q E hr h => ?_)
  · obtain ⟨x, n, lo, hi, rfl, _⟩ := h
    rfl
  · obtain ⟨x, n, lo, hi, rfl, kE, kQ⟩ := h
    refine ⟨_, (pss_one (ps_if (PW.pt (pw_or (pt_cmpR op_lt (pv 1) (pv 2) (nomark _)) (pw_or1 (pt_cmpR op_gt (pv 1) (pv 3) (nomark _))))) (pss_one (ps_raiseE rfl T.e_BadNumber (by decide) (by decide) hr (takes_of rfl rfl rfl rfl) (pa_cons (pv 0) (pa_cons (pv 1) pa_nil)))) pss_nil)), ?_⟩
    walk_at "g"
    refine G.ite (fun h1 => ?_) (fun h1 => ?_)
    · walk_at "g"
      exact G.mkE rfl fun e H' _ s1 he => kE (.inl h1) e H' s1 he
    · walk_at "g"
      refine G.ite (fun h2 => ?_) (fun h2 => ?_)
      · walk_at "g"
        exact G.mkE rfl fun e H' _ s1 he => kE (.inr h2) e H' s1 he
      · walk_at "g"
        exact kQ ⟨by omega, by omega⟩
theorem ok_check_formula (T : Txt P K mg a) : FnOk P w K mg base (L2.CX P w) 2 a.a_check_formula a.d_check_formula ["place"] (spForm a) := by
  refine T.F_check_formula.okX sc_check_formula (fun vs H Q E h => ?_) (fun cdv A outer s H vs Q E hr h => ?_)
  · obtain ⟨p, n, o, d, rfl, _⟩ := h
    rfl
  · obtain ⟨p, n, o, d, rfl, ⟨dx, s', dy, hp, hs⟩, hn, ho, hd, k⟩ := h
    refine ⟨_, (pss_cons (ps_expr (pe_callS (ok_check_number T) (hr.mono (by decide)) rfl T.g_check_number T.F_check_number.kp T.b_check_number (fun σ => passAt (takes_of rfl rfl rfl rfl) σ) (pa_cons pe_str (pa_cons (pe_fld (pe_fld (pv 0) rfl) rfl) (pa_cons pe_int (pa_cons pe_int pa_nil))))))
      (pss_cons (ps_expr (pe_callS (ok_check_number T) (hr.mono (by decide)) rfl T.g_check_number T.F_check_number.kp T.b_check_number (fun σ => passAt (takes_of rfl rfl rfl rfl) σ) (pa_cons pe_str (pa_cons (pe_fld (pe_fld (pv 0) rfl) rfl) (pa_cons pe_int (pa_cons pe_int pa_nil))))))
      (pss_cons (ps_expr (pe_callS (ok_check_number T) (hr.mono (by decide)) rfl T.g_check_number T.F_check_number.kp T.b_check_number (fun σ => passAt (takes_of rfl rfl rfl rfl) σ) (pa_cons pe_str (pa_cons (pe_fld (pe_fld (pv 0) rfl) rfl) (pa_cons (pe_un un_neg pe_int) (pa_cons pe_int pa_nil))))))
      (pss_one (ps_expr (pe_callS (ok_check_number T) (hr.mono (by decide)) rfl T.g_check_number T.F_check_number.kp T.b_check_number (fun σ => passAt (takes_of rfl rfl rfl rfl) σ) (pa_cons pe_str (pa_cons (pe_fld (pv 0) rfl) (pa_cons pe_int (pa_cons pe_int pa_nil)))))))))), ?_⟩
    walk_at "g"
    refine ⟨_, _, _, _, rfl, fun h => by omega, fun _ => ?_⟩
    walk_at "g"
    refine ⟨_, _, _, _, rfl, fun h => by omega, fun _ => ?_⟩
    walk_at "g"
    refine ⟨_, _, _, _, rfl, fun h => by omega, fun _ => ?_⟩
    walk_at "g"
    refine ⟨_, _, _, _, rfl, fun h => by omega, fun _ => ?_⟩
    walk_at "g"
    exact k
end
end Lw
local macro_rules | `(tactic| walk_at "hp") => `(tactic| first
  | assumption
  | exact L2.upd_same
  | (refine G.sget (by assumption) ?_; walk_at "hp")
  | (refine G.kget (by assumption) ?_ ?_; (· walk_at "hp"); (· intro _ h; cases h)))
local macro_rules | `(tactic| walk_at "s") => `(tactic| first
  | (with_reducible refine G.seq ?_)
  | (with_reducible refine G.nx ?_)
  | (with_reducible refine G.rt ?_)
  | (with_reducible refine G.next ?_)
  | (with_reducible refine G.asg ?_)
  | (with_reducible refine G.asgG ?_)
  | ((with_reducible refine' G.gtup ?h ?l ?q); (case h => walk_at "hp"); (case l => rfl))
  | (with_reducible refine G.gcons ?_)
  | (with_reducible refine G.gnil ?_)
  | (with_reducible refine G.gname ?_)
  | (with_reducible refine G.inst ?_)
  | (with_reducible refine G.refV ?_)
  | (with_reducible refine G.xf ?_)
  | ((with_reducible refine' G.xfV ?h ?l ?q); (case h => walk_at "hp"); (case l => walk_at "xk"))
  | (with_reducible refine G.ret ?_)
  | (with_reducible refine G.ifS ?_)
  | (with_reducible refine G.drop ?_)
  | ((with_reducible refine' G.var ?h ?q); (case h => rfl))
  | (with_reducible refine G.cst ?_)
  | (with_reducible refine G.op ?_)
  | (with_reducible refine G.un ?_)
  | (with_reducible refine G.I0 ?_)
  | (with_reducible refine G.U1 ?_)
  | ((with_reducible refine G.fdiv ?_ ?_ ?_); (· omega); (· omega))
  | ((with_reducible refine G.md ?_ ?_); (· omega))
  | ((with_reducible refine G.mulL ?_ ?_ ?_); (· omega); (· omega))
  | ((with_reducible refine G.mulR ?_ ?_ ?_); (· omega); (· omega))
  | ((with_reducible refine G.mulW ?_ ?_ ?_ ?_ ?_); (· omega); (· omega); (· omega); (· omega))
  | (with_reducible refine G.pow18 ?_)
  | (with_reducible refine G.pow6 ?_)
  | (with_reducible refine G.pow30 ?_)
  | (with_reducible refine G.pow29 ?_)
  | (with_reducible refine G.pow3 ?_)
  | (with_reducible refine G.eqI ?_)
  | (with_reducible refine G.neI ?_)
  | ((with_reducible refine G.eq ?_ ?_); (· rfl))
  | ((with_reducible refine G.ne ?_ ?_); (· rfl))
  | (with_reducible refine G.isN ?_)
  | (with_reducible refine G.notN ?_)
  | (with_reducible refine G.test ?_)
  | (with_reducible refine G.tBv ?_)
  | (with_reducible refine G.bl ?_)
  | (with_reducible refine G.and ?_)
  | (with_reducible refine G.or ?_)
  | (with_reducible refine G.not ?_)
  | (with_reducible refine G.andV ?_)
  | (with_reducible refine G.orV ?_)
  | (with_reducible refine G.notV ?_)
  | (with_reducible refine G.ifE ?_)
  | (with_reducible refine G.nil ?_)
  | (with_reducible refine G.cons ?_)
  | (with_reducible refine G.tup ?_)
  | (with_reducible refine G.lst ?_)
  | (with_reducible refine G.fld ?_)
  | (with_reducible refine G.call ?_)
  | (with_reducible refine G.cb ?_)
  | (with_reducible refine G.make ?_)
  | (with_reducible refine G.dget ?_)
  | (with_reducible refine G.dput ?_)
  | (with_reducible refine G.fldS ?_)
  | (with_reducible refine G.abs ?_)
  | (with_reducible refine G.max2 ?_)
  | (with_reducible refine G.min2 ?_)
  | (with_reducible refine G.int1 ?_)
  | (with_reducible refine G.own ?_)
  | (with_reducible refine G.ownR ?_)
  | (with_reducible refine G.meth ?_)
  | (with_reducible refine G.par ?_)
  | (with_reducible refine G.par3 ?_)
  | (with_reducible refine G.parV ?_)
  | (with_reducible refine G.parV3 ?_)
  | (with_reducible refine G.forR ?_)
  | (with_reducible refine G.lc3 ?_)
  | (with_reducible refine G.lc1 ?_)
  | (with_reducible refine G.forZ ?_)
  | (with_reducible refine G.forT ?_)
  | (with_reducible refine G.forL ?_)
  | (with_reducible refine G.methU ?_)
  | (with_reducible refine G.sl ?_)
  | (with_reducible refine G.noPart ?_)
  | (with_reducible refine G.part ?_)
  | (with_reducible refine G.partV ?_)
  | (with_reducible refine G.raiseE ?_)
  | (with_reducible refine G.iteT' ?_)
  | (with_reducible refine G.iteNT ?_)
  | (with_reducible refine G.iteNF ?_)
  | (with_reducible refine G.iteF' ?_)
  | ((with_reducible refine' G.dgetS ?h ?l ?q); (case h => walk_at "hp"); (case l => walk_at "dk"))
  | ((with_reducible refine' G.lenL ?h ?q); (case h => walk_at "hp"))
  | ((with_reducible refine' G.lenT ?h ?q); (case h => walk_at "hp"))
  | ((with_reducible refine' G.fldV ?h ?c ?n ?l ?q); (case h => walk_at "hp"); (case c => walk_at "cls"); (case n => walk_at "na"); (case l => walk_at "lk"))
  | ((with_reducible refine' G.fldSV ?h ?c ?n ?l ?q); (case h => walk_at "hp"); (case c => walk_at "cls"); (case n => walk_at "na"); (case l => walk_at "ln")))
local macro_rules | `(tactic| walk_at "g") => `(tactic| repeat (walk_at "s"))
namespace Lw
open PySem L2
local macro_rules | `(tactic| walk_at "cls") => `(tactic| first | exact Lw.Txt.cl_Straight (by assumption) | exact Lw.Txt.cl_Place (by assumption) | exact Lw.Txt.cl_Loop (by assumption))
local macro_rules | `(tactic| walk_at "na") => `(tactic| first | exact Lw.Txt.na_Straight_i (by assumption) | exact Lw.Txt.na_Straight_n (by assumption) | exact Lw.Txt.na_Straight_one (by assumption) | exact Lw.Txt.na_Place_straight (by assumption) | exact Lw.Txt.na_Place_divisor (by assumption) | exact Lw.Txt.na_Loop_low (by assumption) | exact Lw.Txt.na_Loop_high (by assumption) | exact Lw.Txt.na_Loop_statements (by assumption) | exact Lw.Txt.na_Loop_step (by assumption) | exact Lw.Txt.na_Loop_down (by assumption))
local macro_rules | `(tactic| walk_at "lk") => `(tactic| first | exact Lw.fStraight_i _ _ _ | exact Lw.fStraight_n _ _ _ | exact Lw.fStraight_one _ _ _ | exact Lw.fPlace_straight _ _ | exact Lw.fPlace_divisor _ _ | exact Lw.fLoop_low _ _ _ _ _ | exact Lw.fLoop_high _ _ _ _ _ | exact Lw.fLoop_statements _ _ _ _ _ | exact Lw.fLoop_step _ _ _ _ _ | exact Lw.fLoop_down _ _ _ _ _)
local macro_rules | `(tactic| walk_at "ln") => `(tactic| first | (show 0 < 1000; decide) | (show 1 < 1000; decide) | (show 2 < 1000; decide) | (show 3 < 1000; decide) | (show 4 < 1000; decide))
/-- statements: none -/
def NoSt (H : Hp) (t : Addr) : Prop := H t = some (.lst []) ∨ H t = some (.tup [])
def Ex (H H' : Hp) (p : Addr) : Prop := ∀ b u, H b = some u → b ≠ p → H' b = some u
def spLInit (a : Ad) : Sp := fun vs H Q E => ∃ (p dx : Addr) (yl yh : V) (t : Addr) (st : Int) (dn : Bool) (n1 o1 d1 n2 o2 d2 : Int), vs = [.ref p, yl, yh, .ref t, .int st, .bl dn] ∧ H p = some (.ins a.C_Loop dx []) ∧ PVal a H yl n1 o1 d1 ∧ PVal a H yh n2 o2 d2 ∧ NoSt H t ∧
  (0 ≤ n1 ∧ n1 ≤ 3) ∧ (-999 ≤ o1 ∧ o1 ≤ 999) ∧ (1 ≤ d1 ∧ d1 ≤ 3) ∧ (0 ≤ n2 ∧ n2 ≤ 3) ∧ (-999 ≤ o2 ∧ o2 ≤ 999) ∧ (1 ≤ d2 ∧ d2 ≤ 3) ∧ (1 ≤ st ∧ st ≤ 16) ∧ (1 < st → d1 = 1) ∧
  ∀ H', Ex H H' p → IsL a H' p n1 o1 d1 n2 o2 d2 st dn → Q .non H'
section
variable {P : Program} {w : World} {K : PySem.W.Frag} {mg : Str → Option Value} {base : Heap} {a : Ad}
theorem ne_fld {H : Hp} {p q C D dx dy : Addr} {fs gs : List (Str × V)} {f : Str} {v : V} (hp : H p = some (.ins C dx fs)) (hf : fs.lookup f = none) (hq : H q = some (.ins D dy gs)) (hg : gs.lookup f = some v) : q ≠ p := fun e => by
  rw [e, hp] at hq
  have := (HO.ins.inj (Option.some.inj hq)).2.2
  rw [this, hg] at hf
  cases hf
theorem isP_upd {H : Hp} {p q C dx : Addr} {fs : List (Str × V)} {u : HO} {i n o d : Int} (hp : H p = some (.ins C dx fs)) (h1 : fs.lookup ("straight" : Str) = none) (h2 : fs.lookup ("one" : Str) = none) (h : IsP a H q i n o d) : IsP a (upd H p u) q i n o d := by
  obtain ⟨dq, s, ds, hq, hs⟩ := h
  refine ⟨dq, s, ds, ?_, ?_⟩
  · rw [upd_ne (ne_fld hp h1 hq (fPlace_straight ..))]; exact hq
  · rw [upd_ne (ne_fld hp h2 hs (fStraight_one ..))]; exact hs
theorem isP_same {H H' : Hp} {q : Addr} {i n o d : Int} (h : IsP a H q i n o d) (s : Same H H') : IsP a H' q i n o d := by
  obtain ⟨dq, s', ds, hq, hs⟩ := h
  exact ⟨dq, s', ds, s _ _ hq, s _ _ hs⟩
theorem pval_upd {H : Hp} {p C dx : Addr} {fs : List (Str × V)} {u : HO} {y : V} {n o d : Int} (hp : H p = some (.ins C dx fs)) (h1 : fs.lookup ("straight" : Str) = none) (h2 : fs.lookup ("one" : Str) = none) (h : PVal a H y n o d) : PVal a (upd H p u) y n o d := by
  rcases h with ⟨q, rfl, h⟩ | h
  · exact .inl ⟨q, rfl, isP_upd hp h1 h2 h⟩
  · exact .inr h
theorem pval_same {H H' : Hp} {y : V} {n o d : Int} (h : PVal a H y n o d) (s : Same H H') : PVal a H' y n o d := by
  rcases h with ⟨q, rfl, h⟩ | h
  · exact .inl ⟨q, rfl, isP_same h s⟩
  · exact .inr h
theorem nost_upd {H : Hp} {p t C dx : Addr} {fs : List (Str × V)} {u : HO} (hp : H p = some (.ins C dx fs)) (h : NoSt H t) : NoSt (upd H p u) t := by
  have ne : t ≠ p := fun e => by
    rcases h with h | h <;> (rw [e, hp] at h; cases h)
  rcases h with h | h
  · exact .inl (by rw [upd_ne ne]; exact h)
  · exact .inr (by rw [upd_ne ne]; exact h)
theorem nost_same {H H' : Hp} {t : Addr} (h : NoSt H t) (s : Same H H') : NoSt H' t := h.imp (s _ _) (s _ _)
theorem nost_seq {H : Hp} {t : Addr} (h : NoSt H t) : SqL K H t [] ∨ SqT K H t [] := h.imp SqL.of SqT.of
theorem nost_tup {H : Hp} {t : Addr} {Q : VK} (h : NoSt H t) (q : ∀ t' H', Same H H' → Q (.ref t') H') : G.rTupleOf K [.ref t] H Q := by
  rcases h with h | h
  · exact G.tupleOfL h fun l H2 _ s _ => q l H2 s
  · exact G.tupleOfT h (q t H (Same.refl H))
theorem ex_upd {H : Hp} {p : Addr} {u : HO} : Ex H (upd H p u) p := fun b v h ne => by rw [upd_ne ne]; exact h
theorem Ex.trans {H H1 H2 : Hp} {p : Addr} (h : Ex H H1 p) (h2 : Ex H1 H2 p) : Ex H H2 p := fun b u e ne => h2 b u (h b u e ne) ne
theorem ex_same {H H1 : Hp} {p : Addr} (s : Same H H1) : Ex H H1 p := fun b u e _ => s b u e
theorem ok_Loop_init (T : Txt P K mg a) : FnOk P w K mg base (L2.CX P w) 7 a.a_Loop_init a.d_Loop_init ["self", "low", "high", "statements", "step", "down"] (spLInit a) := by
  refine T.F_Loop_init.ok sc_Loop_init (fun vs H Q E h => ?_) (fun cdv A outer s H vs Q E hr h => ?_)
  · obtain ⟨p, dx, yl, yh, t, st, dn, n1, o1, d1, n2, o2, d2, rfl, _⟩ := h
    rfl
  · obtain ⟨p, dx, yl, yh, t, st, dn, n1, o1, d1, n2, o2, d2, rfl, hp, hl, hh, ht, b1, b2, b3, b4, b5, b6, b7, b8, k⟩ := h
    refine ⟨_, (pss_cons (ps_if (pt_cmpR op_gt (pe_callB G.cLenSeq (by rfl) T.n_len (by decide +kernel) (pa_cons (pv 3) pa_nil)) (pe_glob rfl T.g_MOST_STATEMENTS.choose_spec.1 T.g_MOST_STATEMENTS.choose_spec.2) (nomark _)) (pss_one (ps_raiseE rfl T.e_TooMany (by decide) (by decide) hr (takes_of rfl rfl rfl rfl) (pa_cons pe_str (pa_cons (pe_callB G.cLenSeq (by rfl) T.n_len (by decide +kernel) (pa_cons (pv 3) pa_nil)) (pa_cons (pe_glob rfl T.g_MOST_STATEMENTS.choose_spec.1 T.g_MOST_STATEMENTS.choose_spec.2) pa_nil))))) pss_nil)
      (pss_cons (ps_expr (pe_callS (ok_check_number T) (hr.mono (by decide)) rfl T.g_check_number T.F_check_number.kp T.b_check_number (fun σ => passAt (takes_of rfl rfl rfl rfl) σ) (pa_cons pe_str (pa_cons (pv 4) (pa_cons pe_int (pa_cons pe_int pa_nil))))))
      (pss_cons (ps_fld (pv 0) (pe_callS (ok_place_of T) (hr.mono (by decide)) rfl T.g_place_of T.F_place_of.kp T.b_place_of (fun σ => passAt (takes_of rfl rfl rfl rfl) σ) (pa_cons (pv 1) pa_nil)) rfl)
      (pss_cons (ps_fld (pv 0) (pe_callS (ok_place_of T) (hr.mono (by decide)) rfl T.g_place_of T.F_place_of.kp T.b_place_of (fun σ => passAt (takes_of rfl rfl rfl rfl) σ) (pa_cons (pv 2) pa_nil)) rfl)
      (pss_cons (ps_fld (pv 0) (pe_callTy G.cTupleOf (by rfl) T.n_tuple (by decide +kernel) (pa_cons (pv 3) pa_nil)) rfl)
      (pss_cons (ps_fld (pv 0) (pv 4) rfl)
      (pss_cons (ps_fld (pv 0) (pv 5) rfl)
      (pss_cons (ps_expr (pe_callS (ok_check_formula T) (hr.mono (by decide)) rfl T.g_check_formula T.F_check_formula.kp T.b_check_formula (fun σ => passAt (takes_of rfl rfl rfl rfl) σ) (pa_cons (pe_fld (pv 0) rfl) pa_nil)))
      (pss_cons (ps_expr (pe_callS (ok_check_formula T) (hr.mono (by decide)) rfl T.g_check_formula T.F_check_formula.kp T.b_check_formula (fun σ => passAt (takes_of rfl rfl rfl rfl) σ) (pa_cons (pe_fld (pv 0) rfl) pa_nil)))
      (pss_one (ps_if (PW.pt (pw_and (pt_cmpR op_gt (pv 4) pe_int (nomark _)) (pw_and1 (pt_cmpR op_gt (pe_fld (pe_fld (pv 0) rfl) rfl) pe_int (nomark _))))) (pss_one (ps_raiseE rfl T.e_BadNumber (by decide) (by decide) hr (takes_of rfl rfl rfl rfl) (pa_cons pe_str (pa_cons (pv 4) pa_nil)))) pss_nil))))))))))), ?_⟩
    walk_at "g"
    refine ⟨t, [], rfl, nost_seq ht, ?_⟩
    walk_at "g"
    refine G.iteZ (by simp) ?_
    walk_at "g"
    refine ⟨_, _, _, _, rfl, fun h => by omega, fun _ => ?_⟩
    walk_at "g"
    refine ⟨yl, n1, o1, d1, rfl, hl, fun l H1 s1 hl1 => ?_⟩
    have hp1 := s1 _ _ hp
    have hh1 := pval_upd (u := .ins a.C_Loop dx (putF "low" (.ref l) [])) hp1 rfl rfl (pval_same hh s1)
    have hl1' := isP_upd (u := .ins a.C_Loop dx (putF "low" (.ref l) [])) hp1 rfl rfl hl1
    have ht1 := nost_upd (u := .ins a.C_Loop dx (putF "low" (.ref l) [])) hp1 (nost_same ht s1)
    have x1 := (ex_same (p := p) s1).trans (ex_upd (u := .ins a.C_Loop dx (putF "low" (.ref l) [])))
    walk_at "g"
    refine ⟨yh, n2, o2, d2, rfl, hh1, fun hi H2 s2 hh2 => ?_⟩
    have hp2 := s2 _ _ (upd_same (H := H1) (a := p) (o := .ins a.C_Loop dx (putF "low" (.ref l) [])))
    have hl2 := isP_same hl1' s2
    have ht2 := nost_same ht1 s2
    have x2 := x1.trans (ex_same s2)
    generalize hO : (HO.ins a.C_Loop dx (putF "high" (.ref hi) (putF "low" (.ref l) []))) = O
    walk_at "g"
    rw [hO]
    have hl3 := isP_upd (u := O) hp2 rfl rfl hl2
    have hh3 := isP_upd (u := O) hp2 rfl rfl hh2
    have ht3 := nost_upd (u := O) hp2 ht2
    have x3 := x2.trans (ex_upd (u := O))
    refine nost_tup ht3 fun t' H4 s4 => ?_
    have hp4 : H4 p = some O := s4 _ _ upd_same
    have hl4 := isP_same hl3 s4
    have hh4 := isP_same hh3 s4
    have x4 := x3.trans (ex_same s4)
    subst hO
    walk_at "g"
    simp only [G.upd_upd, fLoop_put0, fLoop_put1, fLoop_put2, fLoop_put3, fLoop_put4] at *
    have hl5 := isP_upd (u := .ins a.C_Loop dx (fLoop (.ref l) (.ref hi) (.ref t') (.int st) (.bl dn))) hp4 rfl rfl hl4
    have hh5 := isP_upd (u := .ins a.C_Loop dx (fLoop (.ref l) (.ref hi) (.ref t') (.int st) (.bl dn))) hp4 rfl rfl hh4
    have x5 := x4.trans (ex_upd (u := .ins a.C_Loop dx (fLoop (.ref l) (.ref hi) (.ref t') (.int st) (.bl dn))))
    have hp5 := upd_same (H := H4) (a := p) (o := .ins a.C_Loop dx (fLoop (.ref l) (.ref hi) (.ref t') (.int st) (.bl dn)))
    show spForm a [V.ref l] (upd H4 p (.ins a.C_Loop dx (fLoop (.ref l) (.ref hi) (.ref t') (.int st) (.bl dn)))) _ _
    generalize upd H4 p (.ins a.C_Loop dx (fLoop (.ref l) (.ref hi) (.ref t') (.int st) (.bl dn))) = H5 at *
    clear hp1 hh1 hl1' ht1 x1 hp2 hl2 ht2 x2 hl3 hh3 ht3 x3 hp4 hl4 hh4 x4 s1 s2 s4 hp hl hh ht
    have hl6 := hl5
    obtain ⟨dl, sl, dsl, hl7, hl8⟩ := hl6
    refine ⟨l, n1, o1, d1, rfl, hl5, b1, b2, b3, ?_⟩
    walk_at "g"
    refine ⟨hi, n2, o2, d2, rfl, hh5, b4, b5, b6, ?_⟩
    walk_at "g"
    refine G.ite (fun h1 => ?_) (fun h1 => ?_)
    · walk_at "g"
      refine G.iteZ (by have := b8 h1; omega) ?_
      walk_at "g"
      exact k H5 x5 ⟨dx, l, hi, t', hp5, hl5, hh5⟩
    · walk_at "g"
      exact k H5 x5 ⟨dx, l, hi, t', hp5, hl5, hh5⟩
/-! ### turns -/
/-- the least counter -/
def lc (n1 o1 d1 st n : Int) : Int := if 0 ≤ (n1 * n + o1) / d1 then (n1 * n + o1) / d1 else ((n1 * n + o1) / d1) % st
/-- the turns -/
def mt (n1 o1 d1 n2 o2 d2 st n : Int) : Int := if (n2 * n + o2) / d2 - lc n1 o1 d1 st n ≤ 0 then 0 else ((n2 * n + o2) / d2 - lc n1 o1 d1 st n + st - 1) / st
def Bs (n1 o1 d1 n2 o2 d2 st : Int) : Prop := (0 ≤ n1 ∧ n1 ≤ 3) ∧ (-999 ≤ o1 ∧ o1 ≤ 999) ∧ (1 ≤ d1 ∧ d1 ≤ 3) ∧ (0 ≤ n2 ∧ n2 ≤ 3) ∧ (-999 ≤ o2 ∧ o2 ≤ 999) ∧ (1 ≤ d2 ∧ d2 ≤ 3) ∧ (1 ≤ st ∧ st ≤ 16)
def B31 (n : Int) : Prop := 0 ≤ n ∧ n ≤ 1000000000000000000000000000000
def spLeast (a : Ad) : Sp := fun vs H Q _ => ∃ (p : Addr) (n1 o1 d1 n2 o2 d2 st : Int) (dn : Bool) (n : Int), vs = [.ref p, .int n] ∧ IsL a H p n1 o1 d1 n2 o2 d2 st dn ∧ Bs n1 o1 d1 n2 o2 d2 st ∧ B31 n ∧ Q (.int (lc n1 o1 d1 st n)) H
def spMany (a : Ad) : Sp := fun vs H Q _ => ∃ (p : Addr) (n1 o1 d1 n2 o2 d2 st : Int) (dn : Bool) (n : Int), vs = [.ref p, .int n] ∧ IsL a H p n1 o1 d1 n2 o2 d2 st dn ∧ Bs n1 o1 d1 n2 o2 d2 st ∧ B31 n ∧ Q (.int (mt n1 o1 d1 n2 o2 d2 st n)) H
def spCtr (a : Ad) : Sp := fun vs H Q E => ∃ (p : Addr) (n1 o1 d1 n2 o2 d2 st : Int) (dn : Bool) (n t : Int), vs = [.ref p, .int n, .int t] ∧ IsL a H p n1 o1 d1 n2 o2 d2 st dn ∧ Bs n1 o1 d1 n2 o2 d2 st ∧ B31 n ∧
  ((t < 0 ∨ mt n1 o1 d1 n2 o2 d2 st n ≤ t) → ∀ e H', Same H H' → H' e = some (.xd (xBN "turn" t)) → E (.ref a.C_BadNumber) (some e) H') ∧
  ((0 ≤ t ∧ t < mt n1 o1 d1 n2 o2 d2 st n) → Q (.int (lc n1 o1 d1 st n + st * (if dn then mt n1 o1 d1 n2 o2 d2 st n - 1 - t else t))) H)
def spTurn (a : Ad) : Sp := fun vs H Q _ => ∃ (p : Addr) (n1 o1 d1 n2 o2 d2 st : Int) (dn : Bool) (n c : Int), vs = [.ref p, .int n, .int c] ∧ IsL a H p n1 o1 d1 n2 o2 d2 st dn ∧ Bs n1 o1 d1 n2 o2 d2 st ∧ B31 n ∧
  Q (if c - lc n1 o1 d1 st n < 0 ∨ (c - lc n1 o1 d1 st n) % st ≠ 0 ∨ mt n1 o1 d1 n2 o2 d2 st n ≤ (c - lc n1 o1 d1 st n) / st then .non else .int (if dn then mt n1 o1 d1 n2 o2 d2 st n - 1 - (c - lc n1 o1 d1 st n) / st else (c - lc n1 o1 d1 st n) / st)) H
theorem ok_Loop_least_counter (T : Txt P K mg a) : FnOk P w K mg base CX0 2 a.a_Loop_least_counter a.d_Loop_least_counter ["self", "n"] (spLeast a) := by
  refine T.F_Loop_least_counter.ok sc_Loop_least_counter (fun vs H Q E h => ?_) (fun cdv A outer s H vs Q E hr h => ?_)
  · obtain ⟨p, n1, o1, d1, n2, o2, d2, st, dn, n, rfl, _⟩ := h
    rfl
  · obtain ⟨p, n1, o1, d1, n2, o2, d2, st, dn, n, rfl, ⟨dx, l, hi, t, hp, hl, hh⟩, ⟨b1, b2, b3, b4, b5, b6, b7⟩, ⟨hn1, hn2⟩, k⟩ := h
    have hl' := hl
    obtain ⟨dl, sl, dsl, hl7, hl8⟩ := hl
    refine ⟨_, (pss_cons (ps_set (i := 2) sc_Loop_least_counter.nd rfl (Or.inl rfl) (pe_fldI (pv 0) T.c_Place_call (ok_Place_call T) (hr.mono (by decide)) T.b_Place_call pass0S (pa_cons pe_int (pa_cons (pv 1) pa_nil))))
      (pss_cons (ps_if (pt_cmpR op_ge (pv 2) pe_int (nomark _)) (pss_one (ps_ret (pv 2))) pss_nil)
      (pss_one (ps_ret (pe_op op_mod (pv 2) (pe_fld (pv 0) rfl)))))), ?_⟩
    walk_at "g"
    refine ⟨⟨dl, _, hl7⟩, l, 0, n1, o1, d1, 0, n, rfl, hl', ⟨by omega, by omega⟩, ⟨by omega, by omega⟩, ⟨by omega, by omega⟩, ⟨by omega, by omega⟩, b3.1, by omega, ?_⟩
    have e : (0 * 0 + n1 * n + o1) / d1 = (n1 * n + o1) / d1 := by rw [Int.zero_mul, Int.zero_add]
    rw [e]
    unfold lc at k
    walk_at "g"
    refine G.ite (fun h1 => ?_) (fun h1 => ?_)
    · rw [if_pos h1] at k
      walk_at "g"
      exact k
    · rw [if_neg h1] at k
      walk_at "g"
      exact k
theorem ok_Loop_many_turns (T : Txt P K mg a) : FnOk P w K mg base CX0 3 a.a_Loop_many_turns a.d_Loop_many_turns ["self", "n"] (spMany a) := by
  refine T.F_Loop_many_turns.ok sc_Loop_many_turns (fun vs H Q E h => ?_) (fun cdv A outer s H vs Q E hr h => ?_)
  · obtain ⟨p, n1, o1, d1, n2, o2, d2, st, dn, n, rfl, _⟩ := h
    rfl
  · obtain ⟨p, n1, o1, d1, n2, o2, d2, st, dn, n, rfl, ⟨dx, l, hi, t, hp, hl, hh⟩, b, ⟨hn1, hn2⟩, k⟩ := h
    have b0 := b
    obtain ⟨b1, b2, b3, b4, b5, b6, b7⟩ := b
    have hh' := hh
    obtain ⟨dh, sh, dsh, hh7, hh8⟩ := hh
    refine ⟨_, (pss_cons (ps_set (i := 2) sc_Loop_many_turns.nd rfl (Or.inl rfl) (pe_op op_sub (pe_fldI (pv 0) T.c_Place_call (ok_Place_call T) (hr.mono (by decide)) T.b_Place_call pass0S (pa_cons pe_int (pa_cons (pv 1) pa_nil))) (pe_methZ (pv 0) T.cl_Loop T.m_Loop_least_counter (ok_Loop_least_counter T) (hr.mono (by decide)) T.b_Loop_least_counter pass0S (pa_cons (pv 1) pa_nil))))
      (pss_cons (ps_if (pt_cmpR op_le (pv 2) pe_int (nomark _)) (pss_one (ps_ret pe_int)) pss_nil)
      (pss_one (ps_ret (pe_op op_fdiv (pe_op op_sub (pe_op op_add (pv 2) (pe_fld (pv 0) rfl)) pe_int) (pe_fld (pv 0) rfl)))))), ?_⟩
    walk_at "g"
    refine ⟨⟨dh, _, hh7⟩, hi, 0, n2, o2, d2, 0, n, rfl, hh', ⟨by omega, by omega⟩, ⟨by omega, by omega⟩, ⟨by omega, by omega⟩, ⟨by omega, by omega⟩, b6.1, by omega, ?_⟩
    have e : (0 * 0 + n2 * n + o2) / d2 = (n2 * n + o2) / d2 := by rw [Int.zero_mul, Int.zero_add]
    rw [e]
    walk_at "g"
    refine ⟨p, dx, _, rfl, hp, fLoop_no_least_counter .., ?_⟩
    walk_at "g"
    refine ⟨p, n1, o1, d1, n2, o2, d2, st, dn, n, rfl, ⟨dx, l, hi, t, hp, hl, hh'⟩, b0, ⟨hn1, hn2⟩, ?_⟩
    unfold mt at k
    walk_at "g"
    refine G.ite (fun h1 => ?_) (fun h1 => ?_)
    · rw [if_pos h1] at k
      walk_at "g"
      exact k
    · rw [if_neg h1] at k
      walk_at "g"
      exact k
end
end Lw
local macro_rules | `(tactic| walk_at "hp") => `(tactic| first
  | assumption
  | exact L2.upd_same
  | (refine G.sget (by assumption) ?_; walk_at "hp")
  | (refine G.kget (by assumption) ?_ ?_; (· walk_at "hp"); (· intro _ h; cases h)))
local macro_rules | `(tactic| walk_at "s") => `(tactic| first
  | (with_reducible refine G.seq ?_)
  | (with_reducible refine G.nx ?_)
  | (with_reducible refine G.rt ?_)
  | (with_reducible refine G.next ?_)
  | (with_reducible refine G.asg ?_)
  | (with_reducible refine G.asgG ?_)
  | ((with_reducible refine' G.gtup ?h ?l ?q); (case h => walk_at "hp"); (case l => rfl))
  | (with_reducible refine G.gcons ?_)
  | (with_reducible refine G.gnil ?_)
  | (with_reducible refine G.gname ?_)
  | (with_reducible refine G.inst ?_)
  | (with_reducible refine G.refV ?_)
  | (with_reducible refine G.xf ?_)
  | ((with_reducible refine' G.xfV ?h ?l ?q); (case h => walk_at "hp"); (case l => walk_at "xk"))
  | (with_reducible refine G.ret ?_)
  | (with_reducible refine G.ifS ?_)
  | (with_reducible refine G.drop ?_)
  | ((with_reducible refine' G.var ?h ?q); (case h => rfl))
  | (with_reducible refine G.cst ?_)
  | (with_reducible refine G.op ?_)
  | (with_reducible refine G.un ?_)
  | (with_reducible refine G.I0 ?_)
  | (with_reducible refine G.U1 ?_)
  | ((with_reducible refine G.fdiv ?_ ?_ ?_); (· omega); (· omega))
  | ((with_reducible refine G.md ?_ ?_); (· omega))
  | ((with_reducible refine G.mulL ?_ ?_ ?_); (· omega); (· omega))
  | ((with_reducible refine G.mulR ?_ ?_ ?_); (· omega); (· omega))
  | ((with_reducible refine G.mulW ?_ ?_ ?_ ?_ ?_); (· omega); (· omega); (· omega); (· omega))
  | (with_reducible refine G.pow18 ?_)
  | (with_reducible refine G.pow6 ?_)
  | (with_reducible refine G.pow30 ?_)
  | (with_reducible refine G.pow29 ?_)
  | (with_reducible refine G.pow3 ?_)
  | (with_reducible refine G.eqI ?_)
  | (with_reducible refine G.neI ?_)
  | ((with_reducible refine G.eq ?_ ?_); (· rfl))
  | ((with_reducible refine G.ne ?_ ?_); (· rfl))
  | (with_reducible refine G.isN ?_)
  | (with_reducible refine G.notN ?_)
  | (with_reducible refine G.test ?_)
  | (with_reducible refine G.tBv ?_)
  | (with_reducible refine G.bl ?_)
  | (with_reducible refine G.and ?_)
  | (with_reducible refine G.or ?_)
  | (with_reducible refine G.not ?_)
  | (with_reducible refine G.andV ?_)
  | (with_reducible refine G.orV ?_)
  | (with_reducible refine G.notV ?_)
  | (with_reducible refine G.ifE ?_)
  | (with_reducible refine G.nil ?_)
  | (with_reducible refine G.cons ?_)
  | (with_reducible refine G.tup ?_)
  | (with_reducible refine G.lst ?_)
  | (with_reducible refine G.fld ?_)
  | (with_reducible refine G.call ?_)
  | (with_reducible refine G.cb ?_)
  | (with_reducible refine G.make ?_)
  | (with_reducible refine G.dget ?_)
  | (with_reducible refine G.dput ?_)
  | (with_reducible refine G.fldS ?_)
  | (with_reducible refine G.abs ?_)
  | (with_reducible refine G.max2 ?_)
  | (with_reducible refine G.min2 ?_)
  | (with_reducible refine G.int1 ?_)
  | (with_reducible refine G.own ?_)
  | (with_reducible refine G.ownR ?_)
  | (with_reducible refine G.meth ?_)
  | (with_reducible refine G.par ?_)
  | (with_reducible refine G.par3 ?_)
  | (with_reducible refine G.parV ?_)
  | (with_reducible refine G.parV3 ?_)
  | (with_reducible refine G.forR ?_)
  | (with_reducible refine G.lc3 ?_)
  | (with_reducible refine G.lc1 ?_)
  | (with_reducible refine G.forZ ?_)
  | (with_reducible refine G.forT ?_)
  | (with_reducible refine G.forL ?_)
  | (with_reducible refine G.methU ?_)
  | (with_reducible refine G.sl ?_)
  | (with_reducible refine G.noPart ?_)
  | (with_reducible refine G.part ?_)
  | (with_reducible refine G.partV ?_)
  | (with_reducible refine G.raiseE ?_)
  | (with_reducible refine G.iteT' ?_)
  | (with_reducible refine G.iteNT ?_)
  | (with_reducible refine G.iteNF ?_)
  | (with_reducible refine G.iteF' ?_)
  | ((with_reducible refine' G.dgetS ?h ?l ?q); (case h => walk_at "hp"); (case l => walk_at "dk"))
  | ((with_reducible refine' G.lenL ?h ?q); (case h => walk_at "hp"))
  | ((with_reducible refine' G.lenT ?h ?q); (case h => walk_at "hp"))
  | ((with_reducible refine' G.fldV ?h ?c ?n ?l ?q); (case h => walk_at "hp"); (case c => walk_at "cls"); (case n => walk_at "na"); (case l => walk_at "lk"))
  | ((with_reducible refine' G.fldSV ?h ?c ?n ?l ?q); (case h => walk_at "hp"); (case c => walk_at "cls"); (case n => walk_at "na"); (case l => walk_at "ln")))
local macro_rules | `(tactic| walk_at "g") => `(tactic| repeat (walk_at "s"))
namespace Lw
open PySem L2
local macro_rules | `(tactic| walk_at "cls") => `(tactic| first | exact Lw.Txt.cl_Straight (by assumption) | exact Lw.Txt.cl_Place (by assumption) | exact Lw.Txt.cl_Loop (by assumption))
local macro_rules | `(tactic| walk_at "na") => `(tactic| first | exact Lw.Txt.na_Straight_i (by assumption) | exact Lw.Txt.na_Straight_n (by assumption) | exact Lw.Txt.na_Straight_one (by assumption) | exact Lw.Txt.na_Place_straight (by assumption) | exact Lw.Txt.na_Place_divisor (by assumption) | exact Lw.Txt.na_Loop_low (by assumption) | exact Lw.Txt.na_Loop_high (by assumption) | exact Lw.Txt.na_Loop_statements (by assumption) | exact Lw.Txt.na_Loop_step (by assumption) | exact Lw.Txt.na_Loop_down (by assumption))
local macro_rules | `(tactic| walk_at "lk") => `(tactic| first | exact Lw.fStraight_i _ _ _ | exact Lw.fStraight_n _ _ _ | exact Lw.fStraight_one _ _ _ | exact Lw.fPlace_straight _ _ | exact Lw.fPlace_divisor _ _ | exact Lw.fLoop_low _ _ _ _ _ | exact Lw.fLoop_high _ _ _ _ _ | exact Lw.fLoop_statements _ _ _ _ _ | exact Lw.fLoop_step _ _ _ _ _ | exact Lw.fLoop_down _ _ _ _ _)
local macro_rules | `(tactic| walk_at "ln") => `(tactic| first | (show 0 < 1000; decide) | (show 1 < 1000; decide) | (show 2 < 1000; decide) | (show 3 < 1000; decide) | (show 4 < 1000; decide))
section
variable {P : Program} {w : World} {K : PySem.W.Frag} {mg : Str → Option Value} {base : Heap} {a : Ad}
theorem ok_Loop_counter_of (T : Txt P K mg a) : FnOk P w K mg base (L2.CX P w) 4 a.a_Loop_counter_of a.d_Loop_counter_of ["self", "n", "turn"] (spCtr a) := by
  refine T.F_Loop_counter_of.okX sc_Loop_counter_of (fun vs H Q E h => ?_) (fun cdv A outer s H vs Q E hr h => ?_)
  · obtain ⟨p, n1, o1, d1, n2, o2, d2, st, dn, n, t, rfl, _⟩ := h
    rfl
  · obtain ⟨p, n1, o1, d1, n2, o2, d2, st, dn, n, t, rfl, hL, b, hn, kE, kQ⟩ := h
    have hL0 := hL
    obtain ⟨dx, l, hi, tt, hp, hl, hh⟩ := hL
    have b7 := b.2.2.2.2.2.2
    refine ⟨_, (pss_cons (ps_set (i := 3) sc_Loop_counter_of.nd rfl (Or.inl rfl) (pe_methZ (pv 0) T.cl_Loop T.m_Loop_many_turns (ok_Loop_many_turns T) (hr.mono (by decide)) T.b_Loop_many_turns pass0S (pa_cons (pv 1) pa_nil)))
      (pss_cons (ps_if (PW.pt (pw_or (pt_cmpR op_lt (pv 2) pe_int (nomark _)) (pw_or1 (pt_cmpR op_ge (pv 2) (pv 3) (nomark _))))) (pss_one (ps_raiseE rfl T.e_BadNumber (by decide) (by decide) hr (takes_of rfl rfl rfl rfl) (pa_cons pe_str (pa_cons (pv 2) pa_nil)))) pss_nil)
      (pss_cons (ps_set (i := 4) sc_Loop_counter_of.nd rfl (Or.inl rfl) (pe_ifExp (pt_val (pe_fld (pv 0) rfl)) (pe_op op_sub (pe_op op_sub (pv 3) pe_int) (pv 2)) (pv 2)))
      (pss_one (ps_ret (pe_op op_add (pe_methZ (pv 0) T.cl_Loop T.m_Loop_least_counter (ok_Loop_least_counter T) (hr.mono (by decide)) T.b_Loop_least_counter pass0S (pa_cons (pv 1) pa_nil)) (pe_op op_mul (pe_fld (pv 0) rfl) (pv 4)))))))), ?_⟩
    walk_at "g"
    refine ⟨p, dx, _, rfl, hp, fLoop_no_many_turns .., ?_⟩
    walk_at "g"
    refine ⟨p, n1, o1, d1, n2, o2, d2, st, dn, n, rfl, hL0, b, hn, ?_⟩
    walk_at "g"
    refine G.ite (fun h1 => ?_) (fun h1 => ?_)
    · walk_at "g"
      exact G.mkE rfl fun e H' _ s1 he => kE (.inl h1) e H' s1 he
    walk_at "g"
    refine G.ite (fun h2 => ?_) (fun h2 => ?_)
    · walk_at "g"
      exact G.mkE rfl fun e H' _ s1 he => kE (.inr h2) e H' s1 he
    have kq := kQ ⟨by omega, by omega⟩
    walk_at "g"
    cases dn with
    | true =>
      walk_at "g"
      refine ⟨p, dx, _, rfl, hp, fLoop_no_least_counter .., ?_⟩
      walk_at "g"
      refine ⟨p, n1, o1, d1, n2, o2, d2, st, true, n, rfl, hL0, b, hn, ?_⟩
      walk_at "g"
      exact kq
    | false =>
      walk_at "g"
      refine ⟨p, dx, _, rfl, hp, fLoop_no_least_counter .., ?_⟩
      walk_at "g"
      refine ⟨p, n1, o1, d1, n2, o2, d2, st, false, n, rfl, hL0, b, hn, ?_⟩
      walk_at "g"
      exact kq
theorem ok_Loop_turn_of (T : Txt P K mg a) : FnOk P w K mg base CX0 4 a.a_Loop_turn_of a.d_Loop_turn_of ["self", "n", "counter"] (spTurn a) := by
  refine T.F_Loop_turn_of.ok sc_Loop_turn_of (fun vs H Q E h => ?_) (fun cdv A outer s H vs Q E hr h => ?_)
  · obtain ⟨p, n1, o1, d1, n2, o2, d2, st, dn, n, c, rfl, _⟩ := h
    rfl
  · obtain ⟨p, n1, o1, d1, n2, o2, d2, st, dn, n, c, rfl, hL, b, hn, k⟩ := h
    have hL0 := hL
    obtain ⟨dx, l, hi, tt, hp, hl, hh⟩ := hL
    have b7 := b.2.2.2.2.2.2
    refine ⟨_, (pss_cons (ps_set (i := 3) sc_Loop_turn_of.nd rfl (Or.inl rfl) (pe_op op_sub (pv 2) (pe_methZ (pv 0) T.cl_Loop T.m_Loop_least_counter (ok_Loop_least_counter T) (hr.mono (by decide)) T.b_Loop_least_counter pass0S (pa_cons (pv 1) pa_nil))))
      (pss_cons (ps_set (i := 4) sc_Loop_turn_of.nd rfl (Or.inl rfl) (pe_methZ (pv 0) T.cl_Loop T.m_Loop_many_turns (ok_Loop_many_turns T) (hr.mono (by decide)) T.b_Loop_many_turns pass0S (pa_cons (pv 1) pa_nil)))
      (pss_cons (ps_if (PW.pt (pw_or (pt_cmpR op_lt (pv 3) pe_int (nomark _)) (pw_or (pt_cmpR op_ne (pe_op op_mod (pv 3) (pe_fld (pv 0) rfl)) pe_int (nomark _)) (pw_or1 (pt_cmpR op_ge (pe_op op_fdiv (pv 3) (pe_fld (pv 0) rfl)) (pv 4) (nomark _)))))) (pss_one (ps_ret pe_non)) pss_nil)
      (pss_cons (ps_set (i := 5) sc_Loop_turn_of.nd rfl (Or.inl rfl) (pe_op op_fdiv (pv 3) (pe_fld (pv 0) rfl)))
      (pss_one (ps_ret (pe_ifExp (pt_val (pe_fld (pv 0) rfl)) (pe_op op_sub (pe_op op_sub (pv 4) pe_int) (pv 5)) (pv 5)))))))), ?_⟩
    walk_at "g"
    refine ⟨p, dx, _, rfl, hp, fLoop_no_least_counter .., ?_⟩
    walk_at "g"
    refine ⟨p, n1, o1, d1, n2, o2, d2, st, dn, n, rfl, hL0, b, hn, ?_⟩
    walk_at "g"
    refine ⟨p, dx, _, rfl, hp, fLoop_no_many_turns .., ?_⟩
    walk_at "g"
    refine ⟨p, n1, o1, d1, n2, o2, d2, st, dn, n, rfl, hL0, b, hn, ?_⟩
    walk_at "g"
    refine G.ite (fun h1 => ?_) (fun h1 => ?_)
    · rw [if_pos (.inl h1)] at k
      walk_at "g"
      exact k
    walk_at "g"
    refine G.iteN (fun h2 => ?_) (fun h2 => ?_)
    · walk_at "g"
      refine G.ite (fun h3 => ?_) (fun h3 => ?_)
      · rw [if_pos (.inr (.inr h3))] at k
        walk_at "g"
        exact k
      · rw [if_neg (by
          rintro (h | h | h)
          · exact h1 h
          · exact h h2
          · exact h3 h)] at k
        walk_at "g"
        cases dn with
        | true =>
          walk_at "g"
          exact k
        | false =>
          walk_at "g"
          exact k
    · rw [if_pos (.inr (.inl h2))] at k
      walk_at "g"
      exact k
end
end Lw
namespace Lw
open PySem L2
/-- the least counter, by the low end -/
def lcv (lo st : Int) : Int := if 0 ≤ lo then lo else lo % st
def mtv (lo hi st : Int) : Int := if hi - lcv lo st ≤ 0 then 0 else (hi - lcv lo st + st - 1) / st
/-- how many of the range's numbers are below zero -/
def c0 (lo st : Int) : Nat := if 0 ≤ lo then 0 else (-(lo / st)).toNat
theorem lcv_c0 {lo st : Int} (hs : 1 ≤ st) : lcv lo st = lo + st * c0 lo st := by
  unfold lcv c0
  by_cases h : 0 ≤ lo
  · rw [if_pos h, if_pos h]; simp
  · rw [if_neg h, if_neg h]
    have h1 : lo / st < 0 := Int.ediv_neg_of_neg_of_pos (by omega) (by omega)
    have h2 := Int.emod_add_mul_ediv lo st
    have h3 : ((-(lo / st)).toNat : Int) = -(lo / st) := Int.toNat_of_nonneg (by omega)
    rw [h3, Int.mul_neg]
    omega
theorem lcv_nonneg {lo st : Int} (hs : 1 ≤ st) : 0 ≤ lcv lo st := by
  unfold lcv
  split
  · assumption
  · exact Int.emod_nonneg _ (by omega)
theorem below {lo st : Int} (hs : 1 ≤ st) (i : Nat) : 0 ≤ lo + i * st ↔ c0 lo st ≤ i := by
  have e := lcv_c0 (lo := lo) hs
  have p := lcv_nonneg (lo := lo) hs
  constructor
  · intro h
    apply Classical.byContradiction
    intro hc
    have hc' : (i : Int) + 1 ≤ (c0 lo st : Int) := by omega
    have hlt : lcv lo st < st := by
      unfold lcv
      split
      · rename_i h0
        have : c0 lo st = 0 := if_pos h0
        omega
      · exact Int.emod_lt_of_pos _ (by omega)
    have m : st * ((i : Int) + 1) ≤ st * (c0 lo st : Int) := Int.mul_le_mul_of_nonneg_left hc' (by omega)
    rw [Int.mul_add, Int.mul_comm st] at m
    omega
  · intro h
    have m : st * (c0 lo st : Int) ≤ st * (i : Int) := Int.mul_le_mul_of_nonneg_left (by omega) (by omega)
    rw [Int.mul_comm st (i : Int)] at m
    omega
/-- the numbers of the range that are not below zero -/
def pre (lo st : Int) (i : Nat) : List Int := (List.range (i - c0 lo st)).map fun k => lcv lo st + st * (k : Nat)
theorem pre_zero {lo st : Int} : pre lo st 0 = [] := by
  unfold pre
  rw [Nat.zero_sub]
  rfl
theorem pre_skip {lo st : Int} {i : Nat} (h : ¬ c0 lo st ≤ i) : pre lo st (i + 1) = pre lo st i := by
  unfold pre
  rw [show i + 1 - c0 lo st = 0 by omega, show i - c0 lo st = 0 by omega]
theorem pre_take {lo st : Int} {i : Nat} (hs : 1 ≤ st) (h : c0 lo st ≤ i) : pre lo st (i + 1) = pre lo st i ++ [lo + i * st] := by
  unfold pre
  rw [show i + 1 - c0 lo st = i - c0 lo st + 1 by omega, List.range_succ, List.map_append]
  congr 1
  rw [List.map_cons, List.map_nil, lcv_c0 hs]
  congr 1
  have e : ((i - c0 lo st : Nat) : Int) = (i : Int) - (c0 lo st : Int) := by omega
  rw [e, Int.mul_sub, Int.mul_comm (i : Int)]
  omega
/-- the number of the range's numbers -/
def rsz (lo hi st : Int) : Nat := if lo < hi then ((hi - lo - 1) / st + 1).toNat else 0
theorem rsz_c0 {lo hi st : Int} (hs : 1 ≤ st) : ((rsz lo hi st - c0 lo st : Nat) : Int) = mtv lo hi st := by
  have e := lcv_c0 (lo := lo) hs
  have p := lcv_nonneg (lo := lo) hs
  unfold mtv
  have key : ∀ x : Int, (x + st - 1) / st = (x - 1) / st + 1 := fun x => by
    rw [show x + st - 1 = x - 1 + 1 * st by omega, Int.add_mul_ediv_right _ _ (by omega)]
  by_cases h : hi - lcv lo st ≤ 0
  · rw [if_pos h]
    have : rsz lo hi st ≤ c0 lo st := by
      unfold rsz
      split
      · rename_i hlt
        have : (hi - lo - 1) / st < c0 lo st := by
          apply Int.ediv_lt_of_lt_mul (by omega)
          rw [Int.mul_comm]
          omega
        have h0 : 0 ≤ (hi - lo - 1) / st := Int.ediv_nonneg (by omega) (by omega)
        omega
      · omega
    omega
  · rw [if_neg h, key]
    have c0n : 0 ≤ st * (c0 lo st : Int) := Int.mul_nonneg (by omega) (by omega)
    have hlt : lo < hi := by omega
    have e2 : (hi - lcv lo st - 1) / st = (hi - lo - 1) / st - c0 lo st := by
      rw [show hi - lcv lo st - 1 = hi - lo - 1 + st * (-(c0 lo st : Int)) by rw [Int.mul_neg]; omega, Int.add_mul_ediv_left _ _ (by omega)]
      omega
    have h0 : 0 ≤ (hi - lcv lo st - 1) / st := Int.ediv_nonneg (by omega) (by omega)
    unfold rsz
    rw [if_pos hlt]
    omega
theorem rsz_range {lo hi st : Int} (hs : 1 ≤ st) : Builtin.Range.rangeSize lo hi st = rsz lo hi st := by
  unfold Builtin.Range.rangeSize rsz
  rw [if_pos (show st > 0 by omega)]
  by_cases h : lo < hi
  · rw [if_pos h, if_pos h]
    have h0 : 0 ≤ (hi - lo - 1) / st := Int.ediv_nonneg (by omega) (by omega)
    omega
  · rw [if_neg h, if_neg h]
    rfl
theorem rgc {lo hi st : Int} (hs : 1 ≤ st ∧ st ≤ 16) (hl : -1000 ≤ lo ∧ lo ≤ 1000) (hh : -1000 ≤ hi ∧ hi ≤ 1000) : RgC lo hi st (rsz lo hi st) := by
  refine ⟨by omega, by omega, ?_, rsz_range hs.1⟩
  unfold Builtin.Range.small
  rw [rsz_range hs.1]
  have hz : (rsz lo hi st : Int) ≤ 2000 := by
    unfold rsz
    split
    · have : (hi - lo - 1) / st ≤ hi - lo - 1 := Int.ediv_le_self _ (by omega)
      omega
    · omega
  simp only [Builtin.Range.rangeFitsLong, Bool.and_eq_true, Bool.or_eq_true, decide_eq_true_eq, beq_iff_eq, show st > 0 by omega, if_true]
  omega
end Lw
local macro_rules | `(tactic| walk_at "hp") => `(tactic| first
  | assumption
  | exact L2.upd_same
  | (refine G.sget (by assumption) ?_; walk_at "hp")
  | (refine G.kget (by assumption) ?_ ?_; (· walk_at "hp"); (· intro _ h; cases h)))
local macro_rules | `(tactic| walk_at "s") => `(tactic| first
  | (with_reducible refine G.seq ?_)
  | (with_reducible refine G.nx ?_)
  | (with_reducible refine G.rt ?_)
  | (with_reducible refine G.next ?_)
  | (with_reducible refine G.asg ?_)
  | (with_reducible refine G.asgG ?_)
  | ((with_reducible refine' G.gtup ?h ?l ?q); (case h => walk_at "hp"); (case l => rfl))
  | (with_reducible refine G.gcons ?_)
  | (with_reducible refine G.gnil ?_)
  | (with_reducible refine G.gname ?_)
  | (with_reducible refine G.inst ?_)
  | (with_reducible refine G.refV ?_)
  | (with_reducible refine G.xf ?_)
  | ((with_reducible refine' G.xfV ?h ?l ?q); (case h => walk_at "hp"); (case l => walk_at "xk"))
  | (with_reducible refine G.ret ?_)
  | (with_reducible refine G.ifS ?_)
  | (with_reducible refine G.drop ?_)
  | ((with_reducible refine' G.var ?h ?q); (case h => rfl))
  | (with_reducible refine G.cst ?_)
  | (with_reducible refine G.op ?_)
  | (with_reducible refine G.un ?_)
  | (with_reducible refine G.I0 ?_)
  | (with_reducible refine G.U1 ?_)
  | ((with_reducible refine G.fdiv ?_ ?_ ?_); (· omega); (· omega))
  | ((with_reducible refine G.md ?_ ?_); (· omega))
  | ((with_reducible refine G.mulL ?_ ?_ ?_); (· omega); (· omega))
  | ((with_reducible refine G.mulR ?_ ?_ ?_); (· omega); (· omega))
  | ((with_reducible refine G.mulW ?_ ?_ ?_ ?_ ?_); (· omega); (· omega); (· omega); (· omega))
  | (with_reducible refine G.pow18 ?_)
  | (with_reducible refine G.pow6 ?_)
  | (with_reducible refine G.pow30 ?_)
  | (with_reducible refine G.pow29 ?_)
  | (with_reducible refine G.pow3 ?_)
  | (with_reducible refine G.eqI ?_)
  | (with_reducible refine G.neI ?_)
  | ((with_reducible refine G.eq ?_ ?_); (· rfl))
  | ((with_reducible refine G.ne ?_ ?_); (· rfl))
  | (with_reducible refine G.isN ?_)
  | (with_reducible refine G.notN ?_)
  | (with_reducible refine G.test ?_)
  | (with_reducible refine G.tBv ?_)
  | (with_reducible refine G.bl ?_)
  | (with_reducible refine G.and ?_)
  | (with_reducible refine G.or ?_)
  | (with_reducible refine G.not ?_)
  | (with_reducible refine G.andV ?_)
  | (with_reducible refine G.orV ?_)
  | (with_reducible refine G.notV ?_)
  | (with_reducible refine G.ifE ?_)
  | (with_reducible refine G.nil ?_)
  | (with_reducible refine G.cons ?_)
  | (with_reducible refine G.tup ?_)
  | (with_reducible refine G.lst ?_)
  | (with_reducible refine G.fld ?_)
  | (with_reducible refine G.call ?_)
  | (with_reducible refine G.cb ?_)
  | (with_reducible refine G.make ?_)
  | (with_reducible refine G.dget ?_)
  | (with_reducible refine G.dput ?_)
  | (with_reducible refine G.fldS ?_)
  | (with_reducible refine G.abs ?_)
  | (with_reducible refine G.max2 ?_)
  | (with_reducible refine G.min2 ?_)
  | (with_reducible refine G.int1 ?_)
  | (with_reducible refine G.own ?_)
  | (with_reducible refine G.ownR ?_)
  | (with_reducible refine G.meth ?_)
  | (with_reducible refine G.par ?_)
  | (with_reducible refine G.par3 ?_)
  | (with_reducible refine G.parV ?_)
  | (with_reducible refine G.parV3 ?_)
  | (with_reducible refine G.forR ?_)
  | (with_reducible refine G.lc3 ?_)
  | (with_reducible refine G.lc1 ?_)
  | (with_reducible refine G.forZ ?_)
  | (with_reducible refine G.forT ?_)
  | (with_reducible refine G.forL ?_)
  | (with_reducible refine G.methU ?_)
  | (with_reducible refine G.sl ?_)
  | (with_reducible refine G.noPart ?_)
  | (with_reducible refine G.part ?_)
  | (with_reducible refine G.partV ?_)
  | (with_reducible refine G.raiseE ?_)
  | (with_reducible refine G.iteT' ?_)
  | (with_reducible refine G.iteNT ?_)
  | (with_reducible refine G.iteNF ?_)
  | (with_reducible refine G.iteF' ?_)
  | ((with_reducible refine' G.dgetS ?h ?l ?q); (case h => walk_at "hp"); (case l => walk_at "dk"))
  | ((with_reducible refine' G.lenL ?h ?q); (case h => walk_at "hp"))
  | ((with_reducible refine' G.lenT ?h ?q); (case h => walk_at "hp"))
  | ((with_reducible refine' G.fldV ?h ?c ?n ?l ?q); (case h => walk_at "hp"); (case c => walk_at "cls"); (case n => walk_at "na"); (case l => walk_at "lk"))
  | ((with_reducible refine' G.fldSV ?h ?c ?n ?l ?q); (case h => walk_at "hp"); (case c => walk_at "cls"); (case n => walk_at "na"); (case l => walk_at "ln")))
local macro_rules | `(tactic| walk_at "g") => `(tactic| repeat (walk_at "s"))
namespace Lw
open PySem L2
local macro_rules | `(tactic| walk_at "cls") => `(tactic| first | exact Lw.Txt.cl_Straight (by assumption) | exact Lw.Txt.cl_Place (by assumption) | exact Lw.Txt.cl_Loop (by assumption))
local macro_rules | `(tactic| walk_at "na") => `(tactic| first | exact Lw.Txt.na_Straight_i (by assumption) | exact Lw.Txt.na_Straight_n (by assumption) | exact Lw.Txt.na_Straight_one (by assumption) | exact Lw.Txt.na_Place_straight (by assumption) | exact Lw.Txt.na_Place_divisor (by assumption) | exact Lw.Txt.na_Loop_low (by assumption) | exact Lw.Txt.na_Loop_high (by assumption) | exact Lw.Txt.na_Loop_statements (by assumption) | exact Lw.Txt.na_Loop_step (by assumption) | exact Lw.Txt.na_Loop_down (by assumption))
local macro_rules | `(tactic| walk_at "lk") => `(tactic| first | exact Lw.fStraight_i _ _ _ | exact Lw.fStraight_n _ _ _ | exact Lw.fStraight_one _ _ _ | exact Lw.fPlace_straight _ _ | exact Lw.fPlace_divisor _ _ | exact Lw.fLoop_low _ _ _ _ _ | exact Lw.fLoop_high _ _ _ _ _ | exact Lw.fLoop_statements _ _ _ _ _ | exact Lw.fLoop_step _ _ _ _ _ | exact Lw.fLoop_down _ _ _ _ _)
local macro_rules | `(tactic| walk_at "ln") => `(tactic| first | (show 0 < 1000; decide) | (show 1 < 1000; decide) | (show 2 < 1000; decide) | (show 3 < 1000; decide) | (show 4 < 1000; decide))
/-! ### the pen of the law -/
def pd (c : V) (s l : Int) : List (Key × V) := [(Sum.inr "cells", c), (Sum.inr "at", .int s), (Sum.inr "left", .int l)]
theorem pd_cells (c : V) (s l : Int) : valV (pd c s l) (Sum.inr ("cells" : Str)) = some c := by kernel_rfl
theorem pd_at (c : V) (s l : Int) : valV (pd c s l) (Sum.inr ("at" : Str)) = some (.int s) := by kernel_rfl
theorem pd_left (c : V) (s l : Int) : valV (pd c s l) (Sum.inr ("left" : Str)) = some (.int l) := by kernel_rfl
theorem pd_put_at (c : V) (s l x : Int) : putK (pd c s l) (Sum.inr ("at" : Str)) (.int x) = pd c x l := by kernel_rfl
theorem pd_put_left (c : V) (s l x : Int) : putK (pd c s l) (Sum.inr ("left" : Str)) (.int x) = pd c s x := by kernel_rfl
theorem pd_new (c : V) : mergeK [] [(Sum.inr ("cells" : Str), c), (Sum.inr ("at" : Str), .int 0), (Sum.inr ("left" : Str), .int 0)] = pd c 0 0 := by kernel_rfl
/-- at p a pen that has drawn at most n times -/
def Pen (H : Hp) (p : Addr) (n : Int) : Prop := ∃ (l : Addr) (cs : List Int) (s r : Int), H p = some (.dK (pd (.ref l) s r)) ∧ H l = some (.lst (cs.map V.int)) ∧ cs.length ≤ 63 ∧ 0 ≤ s ∧ s ≤ n ∧ 0 ≤ r
theorem Pen.same {H H' : Hp} {p : Addr} {n : Int} (h : Pen H p n) (s : Same H H') : Pen H' p n := by
  obtain ⟨l, cs, x, r, h1, h2, h3⟩ := h
  exact ⟨l, cs, x, r, s _ _ h1, s _ _ h2, h3⟩
theorem Pen.mono {H : Hp} {p : Addr} {n m : Int} (h : Pen H p n) (hm : n ≤ m) : Pen H p m := by
  obtain ⟨l, cs, x, r, h1, h2, h3, h4, h5, h6⟩ := h
  exact ⟨l, cs, x, r, h1, h2, h3, h4, by omega, h6⟩
def spPen (K : PySem.W.Frag) : Sp := fun vs H Q _ => ∃ (s : Addr) (ns : List Int), vs = [.ref s] ∧ SqL K H s (ns.map V.int) ∧ ∀ p H', Same H H' → Pen H' p 0 → Q (.ref p) H'
def spDraw : Sp := fun vs H Q _ => ∃ (p : Addr) (m n : Int), vs = [.ref p, .int m] ∧ Pen H p n ∧ n ≤ 1000000000000 ∧ 0 < m ∧ m < 1073741824 ∧ ∀ r H', G.Kp H H' → Pen H' p (n + 1) → 0 ≤ r → r < m → Q (.int r) H'
def spBig : Sp := fun vs H Q _ => ∃ (p : Addr) (m n : Int), vs = [.ref p, .int m] ∧ Pen H p n ∧ n ≤ 100000000000 ∧ 0 < m ∧ m.natAbs.log2 < 1920 ∧ (Str.ofString (toString m)).length ≤ 600 ∧ ∀ r H', G.Kp H H' → Pen H' p (n + 1000) → 0 ≤ r → r < m → Q (.int r) H'
def spBetween : Sp := fun vs H Q _ => ∃ (p : Addr) (lo hi n : Int), vs = [.ref p, .int lo, .int hi] ∧ Pen H p n ∧ n ≤ 100000000000 ∧ lo ≤ hi ∧ hi - lo < 1000000000 ∧ ∀ r H', G.Kp H H' → Pen H' p (n + 2) → lo ≤ r → r ≤ hi → Q (.int r) H'
def spFar : Sp := fun vs H Q _ => ∃ (p : Addr) (n : Int), vs = [.ref p] ∧ Pen H p n ∧ n ≤ 10000000000 ∧ ∀ r H', G.Kp H H' → Pen H' p (n + 2000) → 0 ≤ r → r < 1000000000000000000000000000000 → Q (.int r) H'
local macro_rules | `(tactic| walk_at "dk") => `(tactic| first | exact Lw.pd_cells _ _ _ | exact Lw.pd_at _ _ _ | exact Lw.pd_left _ _ _)
theorem kp_pen {H : Hp} {p : Addr} {kvs kvs' : List (Key × V)} (h : H p = some (.dK kvs)) : G.Kp H (upd H p (.dK kvs')) := fun b u e n => by
  by_cases hb : b = p
  · subst hb
    rw [h] at e
    exact absurd (Option.some.inj e).symm (n kvs)
  · rw [upd_ne hb]
    exact e
theorem put_at {H : Hp} {p : Addr} {c : V} {s l x : Int} {f : Hp → Prop} (h : H p = some (.dK (pd c s l))) (q : ∀ H', G.Kp H H' → H' p = some (.dK (pd c x l)) → f H') : G.rDPut (.int x) (.ref p) (.str "at") H f :=
  G.dputS h (by show 3 < 100000; decide) (by rw [pd_put_at]; exact q _ (kp_pen h) upd_same)
theorem put_left {H : Hp} {p : Addr} {c : V} {s l x : Int} {f : Hp → Prop} (h : H p = some (.dK (pd c s l))) (q : ∀ H', G.Kp H H' → H' p = some (.dK (pd c s x)) → f H') : G.rDPut (.int x) (.ref p) (.str "left") H f :=
  G.dputS h (by show 3 < 100000; decide) (by rw [pd_put_left]; exact q _ (kp_pen h) upd_same)
theorem eqv_nil (cs : List Int) : PyData.eqv (.list (cs.map PyData.int)) (.list []) = decide (cs = []) := by
  cases cs with
  | nil => simp [PyData.eqv, PyData.eqvAll]
  | cons c r => simp [PyData.eqv, PyData.eqvAll]
theorem xBN_what (wh : Str) (d : Int) : (xBN wh d).lookup ("what" : Str) = some (.str wh) := by kernel_rfl
theorem xBN_number (wh : Str) (d : Int) : (xBN wh d).lookup ("number" : Str) = some (.int d) := by kernel_rfl
local macro_rules | `(tactic| walk_at "xk") => `(tactic| first | exact Lw.xBN_what _ _ | exact Lw.xBN_number _ _)
section
variable {P : Program} {w : World} {K : PySem.W.Frag} {mg : Str → Option Value} {base : Heap} {a : Ad}
theorem cut63 (ns : List Int) : cutV (ns.map V.int) none (some 63) = (ns.take 63).map V.int := by
  unfold cutV
  have e1 : HT.sIx (ns.map V.int).length (ns.map V.int).length (some 63) = min 63 (ns.map V.int).length := HT.sIx_nat _ _ 63
  have e0 : HT.sIx (ns.map V.int).length 0 none = 0 := rfl
  rw [e1, e0, List.drop_zero, Nat.sub_zero, List.map_take, ← List.take_eq_take_min]
theorem ok_pen (T : Txt P K mg a) : FnOk P w K mg base CX0 1 a.a_pen a.d_pen ["_law_script"] (spPen K) := by
  refine T.F_pen.ok sc_pen (fun vs H Q E h => ?_) (fun cdv A outer s H vs Q E hr h => ?_)
  · obtain ⟨s, ns, rfl, _⟩ := h
    rfl
  · obtain ⟨sc, ns, rfl, hs, k⟩ := h
    refine ⟨_, (pss_one (ps_ret (pe_disp (pps_cons pe_str (pe_callTy G.cListOf (by rfl) T.n_list (by decide +kernel) (pa_cons (pe_slice sl_list (pv 0) po_none (po_some pe_int)) pa_nil)) (pps_cons pe_str pe_int (pps_cons pe_str pe_int pps_nil))) (by rfl) (by rfl) (fun z => by cases z) (by decide)))), ?_⟩
    walk_at "g"
    intro p hp
    refine G.cst (G.cb (G.cons ?_))
    refine ⟨_, rfl, ?_⟩
    refine ⟨_, rfl, sc, _, rfl, (G.same_new hp).seq hs, fun l hl => ?_⟩
    walk_at "g"
    refine ⟨l, _, rfl, .inl (SqL.of upd_same), fun l2 hl2 => ?_⟩
    show tC _ _ _ _
    walk_at "g"
    show tC _ _ _ _
    walk_at "g"
    have s1 : Same (upd H p (.dK [])) (upd (upd (upd H p (.dK [])) l (.lst (cutV (ns.map V.int) none (some 63)))) l2 (.lst (cutV (ns.map V.int) none (some 63)))) := (G.same_new hl).trans (G.same_new hl2)
    refine ⟨s1 _ _ upd_same, [(Sum.inr "cells", .ref l2), (Sum.inr "at", .int 0), (Sum.inr "left", .int 0)], rfl, by show 3 ≤ 15; decide, ?_⟩
    rw [pd_new]
    walk_at "g"
    have np : l2 ≠ p := fun z => by
      rw [z] at hl2
      rw [G.same_new hl _ _ upd_same] at hl2
      cases hl2
    refine k p _ (fun b u e => ?_) ⟨l2, ns.take 63, 0, 0, upd_same, ?_, ?_, by omega, by omega, by omega⟩
    · rw [upd_ne (ne_of_none e hp)]
      exact s1 _ _ (G.same_new hp _ _ e)
    · rw [upd_ne np, upd_same, cut63]
    · rw [List.length_take]; omega
theorem ok_draw (T : Txt P K mg a) : FnOk P w K mg base CX0 1 a.a_draw a.d_draw ["_law_pen_here", "_law_many"] spDraw := by
  refine T.F_draw.ok sc_draw (fun vs H Q E h => ?_) (fun cdv A outer s H vs Q E hr h => ?_)
  · obtain ⟨p, m, n, rfl, _⟩ := h
    rfl
  · obtain ⟨p, m, n, rfl, ⟨l, cs, x, r, hp, hl, hc, hx0, hx1, hr0⟩, hn, hm, hm2, k⟩ := h
    refine ⟨_, (pss_cons (ps_if (pt_cmpR op_ge (pe_dget (hu_of hr) (pv 0) pe_str (fun _ _ => rfl)) (pv 1) (nomark _)) (pss_cons (ps_set (i := 2) sc_draw.nd rfl (Or.inl rfl) (pe_op op_mod (pe_callTy G.cInt1 (by rfl) T.n_int (by decide +kernel) (pa_cons (pe_dget (hu_of hr) (pv 0) pe_str (fun _ _ => rfl)) pa_nil)) (pv 1)))
      (pss_cons (ps_dput (hu_of hr) (pv 0) pe_str (pe_op op_fdiv (pe_dget (hu_of hr) (pv 0) pe_str (fun _ _ => rfl)) (pv 1)) rfl)
      (pss_one (ps_ret (pv 2))))) pss_nil)
      (pss_cons (ps_set (i := 3) sc_draw.nd rfl (Or.inl rfl) (pe_dget (hu_of hr) (pv 0) pe_str (fun _ _ => rfl)))
      (pss_cons (ps_dput (hu_of hr) (pv 0) pe_str (pe_op op_add (pv 3) pe_int) rfl)
      (pss_cons (ps_if (pt_cmpR (op_eqD hr.units) (pe_dget (hu_of hr) (pv 0) pe_str (fun _ _ => rfl)) (pe_lst pa_nil) (nomark _)) (pss_one (ps_ret (pe_op op_mod (pe_callTy G.cInt1 (by rfl) T.n_int (by decide +kernel) (pa_cons (pe_op op_add (pe_op op_mul pe_int (pv 3)) pe_int) pa_nil)) (pv 1)))) pss_nil)
      (pss_cons (ps_set (i := 4) sc_draw.nd rfl (Or.inl rfl) (pe_ix ix_list (pe_dget (hu_of hr) (pv 0) pe_str (fun _ _ => rfl)) (pe_op op_mod (pe_callTy G.cInt1 (by rfl) T.n_int (by decide +kernel) (pa_cons (pv 3) pa_nil)) (pe_callB G.cLenSeq (by rfl) T.n_len (by decide +kernel) (pa_cons (pe_dget (hu_of hr) (pv 0) pe_str (fun _ _ => rfl)) pa_nil))) (fun _ _ => rfl)))
      (pss_cons (ps_if (PW.pt (pw_and (pt_cmpR op_lt (pv 3) (pe_callB G.cLenSeq (by rfl) T.n_len (by decide +kernel) (pa_cons (pe_dget (hu_of hr) (pv 0) pe_str (fun _ _ => rfl)) pa_nil)) (nomark _)) (pw_and1 (pt_cmpR op_ge (pv 4) (pe_op op_pow pe_int pe_int) (nomark _))))) (pss_cons (ps_dput (hu_of hr) (pv 0) pe_str (pe_op op_fdiv (pe_op op_sub (pv 4) (pe_op op_pow pe_int pe_int)) (pv 1)) rfl)
      (pss_one (ps_ret (pe_op op_mod (pe_callTy G.cInt1 (by rfl) T.n_int (by decide +kernel) (pa_cons (pe_op op_sub (pv 4) (pe_op op_pow pe_int pe_int)) pa_nil)) (pv 1))))) pss_nil)
      (pss_cons (ps_set (i := 5) sc_draw.nd rfl (Or.inl rfl) (pe_op op_add (pe_op op_add (pe_op op_mul (pe_op op_add (pe_op op_mod (pe_callTy G.cInt1 (by rfl) T.n_int (by decide +kernel) (pa_cons (pv 4) pa_nil)) pe_int) pe_int) (pe_op op_add (pe_op op_mul pe_int (pv 3)) pe_int)) (pe_op op_mul (pe_op op_mul pe_int (pv 3)) (pv 3))) pe_int))
      (pss_cons (ps_set (i := 5) sc_draw.nd rfl (Or.inl rfl) (pe_op op_mod (pe_callTy G.cInt1 (by rfl) T.n_int (by decide +kernel) (pa_cons (pv 5) pa_nil)) pe_int))
      (pss_cons (ps_set (i := 5) sc_draw.nd rfl (Or.inl rfl) (pe_op op_mod (pe_callTy G.cInt1 (by rfl) T.n_int (by decide +kernel) (pa_cons (pe_op op_mul (pv 5) (pe_op op_add (pv 5) pe_int)) pa_nil)) pe_int))
      (pss_cons (ps_set (i := 5) sc_draw.nd rfl (Or.inl rfl) (pe_op op_mod (pe_callTy G.cInt1 (by rfl) T.n_int (by decide +kernel) (pa_cons (pe_op op_mul (pv 5) (pv 5)) pa_nil)) pe_int))
      (pss_one (ps_ret (pe_op op_mod (pe_callTy G.cInt1 (by rfl) T.n_int (by decide +kernel) (pa_cons (pe_op op_fdiv (pv 5) pe_int) pa_nil)) (pv 1)))))))))))))), ?_⟩
    walk_at "g"
    refine G.ite (fun h1 => ?_) (fun h1 => ?_)
    · walk_at "g"
      refine put_left hp fun H1 k1 hp1 => ?_
      walk_at "g"
      exact k _ _ k1 ⟨l, cs, x, r / m, hp1, by walk_at "hp", hc, hx0, by omega, Int.ediv_nonneg hr0 (by omega)⟩ (Int.emod_nonneg _ (by omega)) (Int.emod_lt_of_pos _ hm)
    · walk_at "g"
      refine put_at hp fun H1 k1 hp1 => ?_
      have hl1 : H1 l = some (.lst (cs.map V.int)) := by walk_at "hp"
      walk_at "g"
      refine G.newL (by decide) fun q H2 _ s2 hq => ?_
      have hp2 := s2 _ _ hp1
      refine G.eqD (k := decide (cs = [])) (G.dpL (by walk_at "hp") (G.dpInts cs)) (G.dpL hq .nil) (PySem.W.shaped_ints cs) (by rfl) (eqv_nil cs) ?_
      walk_at "g"
      refine G.ite (fun h2 => ?_) (fun h2 => ?_)
      · walk_at "g"
        exact k _ _ (k1.then s2) ⟨l, cs, x + 1, r, hp2, by walk_at "hp", hc, by omega, by omega, hr0⟩ (Int.emod_nonneg _ (by omega)) (Int.emod_lt_of_pos _ hm)
      · have hcl : 0 < cs.length := List.length_pos_iff.mpr h2
        walk_at "g"
        rw [List.length_map]
        walk_at "g"
        have hi0 : 0 ≤ x % (cs.length : Int) := Int.emod_nonneg _ (by omega)
        have hi1 : x % (cs.length : Int) < cs.length := Int.emod_lt_of_pos _ (by omega)
        obtain ⟨j, hj⟩ := Int.eq_ofNat_of_zero_le hi0
        have hjl : j < cs.length := by omega
        refine G.ixL (v := .int cs[j]) (by walk_at "hp") (at_of hj (by rw [List.getElem?_map, List.getElem?_eq_getElem hjl]; rfl)) ?_
        walk_at "g"
        rw [List.length_map]
        refine G.ite (fun h3 => ?_) (fun h3 => ?_)
        · walk_at "g"
          refine G.ite (fun h4 => ?_) (fun h4 => ?_)
          · walk_at "g"
            refine put_left hp2 fun H3 k3 hp3 => ?_
            walk_at "g"
            exact k _ _ ((k1.then s2).trans k3) ⟨l, cs, x + 1, _, hp3, by walk_at "hp", hc, by omega, by omega, Int.ediv_nonneg (by omega) (by omega)⟩ (Int.emod_nonneg _ (by omega)) (Int.emod_lt_of_pos _ hm)
          · walk_at "g"
            exact k _ _ (k1.then s2) ⟨l, cs, x + 1, r, hp2, by walk_at "hp", hc, by omega, by omega, hr0⟩ (Int.emod_nonneg _ (by omega)) (Int.emod_lt_of_pos _ hm)
        · walk_at "g"
          exact k _ _ (k1.then s2) ⟨l, cs, x + 1, r, hp2, by walk_at "hp", hc, by omega, by omega, hr0⟩ (Int.emod_nonneg _ (by omega)) (Int.emod_lt_of_pos _ hm)
theorem ok_big (T : Txt P K mg a) : FnOk P w K mg base CX0 2 a.a_big a.d_big ["_law_pen_here", "_law_many"] spBig := by
  refine T.F_big.ok sc_big (fun vs H Q E h => ?_) (fun cdv A outer s H vs Q E hr h => ?_)
  · obtain ⟨p, m, n, rfl, _⟩ := h
    rfl
  · obtain ⟨p, m, n, rfl, pe, hn, hm, hm2, hlen, k⟩ := h
    refine ⟨_, (pss_cons (ps_set (i := 2) sc_big.nd rfl (Or.inl rfl) pe_int)
      (pss_cons (ps_for PassesOwn.never rfl (pi_range1 (by rfl) T.n_range (pa_cons (pe_op op_add (pe_op op_fdiv (pe_callB G.cLenStr (by rfl) T.n_len (by decide +kernel) (pa_cons (pe_callTy G.cStrI (by rfl) T.n_str (by decide +kernel) (pa_cons (pv 1) pa_nil)) pa_nil)) pe_int) pe_int) pa_nil)) (pg_name (i := 3) sc_big.nd rfl (Or.inl rfl))
      (pss_one (ps_set (i := 2) sc_big.nd rfl (Or.inl rfl) (pe_op op_add (pe_op op_mul (pv 2) (pe_op op_pow pe_int pe_int)) (pe_callS (ok_draw T) (hr.mono (by decide)) rfl T.g_draw T.F_draw.kp T.b_draw pass0S (pa_cons (pv 0) (pa_cons (pe_op op_pow pe_int pe_int) pa_nil)))))))
      (pss_one (ps_ret (pe_op op_mod (pe_callTy G.cInt1 (by rfl) T.n_int (by decide +kernel) (pa_cons (pv 2) pa_nil)) (pv 1)))))), ?_⟩
    walk_at "g"
    refine G.strI hm2 ?_
    walk_at "g"
    refine G.lenS (by omega) ?_
    walk_at "g"
    refine G.forR1 (fun i σ H' => ∃ (f : Int) (v : Option V), σ = [some (.ref p), some (.int m), some (.int f), v] ∧ 0 ≤ f ∧ G.Kp H H' ∧ Pen H' p (n + i)) (by omega) ⟨0, none, rfl, by omega, G.Kp.refl H, pe.mono (by omega)⟩ ?_ ?_
    · rintro i σ H' hi ⟨f, v, rfl, hf, k1, pe1⟩
      walk_at "g"
      refine ⟨p, _, n + i, rfl, pe1, by omega, by omega, by omega, fun r H2 k2 pe2 h1 h2 => ?_⟩
      walk_at "g"
      exact ⟨_, _, rfl, by omega, k1.trans k2, pe2.mono (by omega)⟩
    · rintro σ H' ⟨f, v, rfl, hf, k1, pe1⟩
      walk_at "g"
      exact k _ _ k1 (pe1.mono (by omega)) (Int.emod_nonneg _ (by omega)) (Int.emod_lt_of_pos _ hm)
def spInteger : Sp := fun vs H Q _ => ∃ x : Int, vs = [.int x] ∧ Q (.bl true) H
theorem ok_integer (T : Txt P K mg a) : FnOk P w K mg base CX0 1 a.a_integer a.d_integer ["_law_value"] spInteger := by
  refine T.F_integer.ok sc_integer (fun vs H Q E h => ?_) (fun cdv A outer s H vs Q E hr h => ?_)
  · obtain ⟨x, rfl, _⟩ := h
    rfl
  · obtain ⟨x, rfl, k⟩ := h
    refine ⟨_, (pss_one (ps_ret (pe_and (pe_callB call_isi (by rfl) T.n_isinstance (by decide +kernel) (pa_cons (pv 0) (pa_cons (pe_bltn (v := .ty "int") (by rfl) T.n_int (by decide +kernel) rfl) pa_nil))) (pe_one (pe_not (pe_callB call_isi (by rfl) T.n_isinstance (by decide +kernel) (pa_cons (pv 0) (pa_cons (pe_bltn (v := .ty "bool") (by rfl) T.n_bool (by decide +kernel) rfl) pa_nil)))))))), ?_⟩
    walk_at "g"
    refine ⟨_, _, _, _, true, rfl, .ty _, .base (.int x), kit_ty (by decide +kernel), ?_⟩
    walk_at "g"
    refine ⟨_, _, _, _, false, rfl, .ty _, .base (.int x), kit_ty (by decide +kernel), ?_⟩
    walk_at "g"
    exact k
def spRefT (a : Ad) : Sp := fun vs H Q _ => ∃ (p : Addr) (n1 o1 d1 n2 o2 d2 st : Int) (dn : Bool) (n t : Int), vs = [.ref p, .int n, .int t] ∧ IsL a H p n1 o1 d1 n2 o2 d2 st dn ∧ Bs n1 o1 d1 n2 o2 d2 st ∧ B31 n ∧
  (t < 0 ∨ mt n1 o1 d1 n2 o2 d2 st n ≤ t) ∧ ∀ H', Same H H' → Q (.bl true) H'
theorem shapedT (y : Int) : SeqAt.shaped (.tuple [.str "turn", .int y]) = true := by kernel_rfl
theorem dpS {K : PySem.W.Frag} {H : Hp} {p : Addr} {x : Str} {y : Int} (h : H p = some (.tup [.str x, .int y])) : Dp K H (.ref p) (.tuple [.str x, .int y]) := G.dpT h (.cons (.str _) (.cons (.int _) .nil))
theorem ok_refused_turn (T : Txt P K mg a) : FnOk P w K mg base CX0 5 a.a_refused_turn a.d_refused_turn ["_law_loop", "_law_n", "_law_turn"] (spRefT a) := by
  refine T.F_refused_turn.ok sc_refused_turn (fun vs H Q E h => ?_) (fun cdv A outer s H vs Q E hr h => ?_)
  · obtain ⟨p, n1, o1, d1, n2, o2, d2, st, dn, n, t, rfl, _⟩ := h
    rfl
  · obtain ⟨p, n1, o1, d1, n2, o2, d2, st, dn, n, t, rfl, hL, b, hn, ht, k⟩ := h
    have hL0 := hL
    obtain ⟨dx, l, hi, tt, hp, hl, hh⟩ := hL
    refine ⟨_, (pss_cons (ps_set (i := 3) sc_refused_turn.nd rfl (Or.inl rfl) pe_non)
      (pss_cons (ps_try_as (i := 4)  rfl rfl sc_refused_turn.nd rfl rfl ⟨rfl, by decide, Or.inl T.g_BadNumber⟩ takes0
      (fun W pn xe tk _ => (pss_one (ps_expr (pe_methZ (pv 0) T.cl_Loop T.m_Loop_counter_of (ok_Loop_counter_of T) (hr.mono (by decide)) T.b_Loop_counter_of (fun σ => passAt tk σ) (pa_cons (pv 1) (pa_cons (pv 2) pa_nil))))))
      (fun ea oe cls dd pn hz hf => (pss_one (ps_set (i := 3) sc_refused_turn.nd rfl (Or.inl rfl) (pe_tup (pa_cons (pe_xf T.x_BadNumber (T.e_BadNumber.noF _ (by decide)) hz hf (pv 4)) (pa_cons (pe_xf T.x_BadNumber (T.e_BadNumber.noF _ (by decide)) hz hf (pv 4)) pa_nil)))))))
      (pss_one (ps_ret (pe_cmpR (op_eqD hr.units) (pv 3) (pe_tup (pa_cons pe_str (pa_cons (pv 2) pa_nil))) (nomark _)))))), ?_⟩
    walk_at "g"
    refine ⟨p, dx, _, rfl, hp, fLoop_no_counter_of .., ?_⟩
    walk_at "g"
    refine ⟨p, n1, o1, d1, n2, o2, d2, st, dn, n, t, rfl, hL0, b, hn, fun _ e H1 s1 he => ?_, fun h => by omega⟩
    refine ⟨true, T.te_BadNumber, fun _ ea _ => ?_, fun z => Bool.noConfusion z⟩
    walk_at "g"
    refine G.newT (by simp) fun q H2 _ s2 hq => ?_
    walk_at "g"
    refine G.newT (by simp) fun q2 H3 _ s3 hq2 => ?_
    refine G.eqD (k := true) (dpS (by walk_at "hp")) (dpS hq2) (shapedT ..) (shapedT ..) (by simp [PyData.eqv, PyData.eqvAll]) ?_
    walk_at "g"
    exact k H3 ((s1.trans s2).trans s3)
theorem aparts {j : Int} (h0 : 0 ≤ j) (h1 : j < 7) : ∃ b, atI [V.int 1, .int 1, .int 2, .int 3, .int 4, .int 5, .int 16] j = some (.int b) ∧ 1 ≤ b ∧ b ≤ 16 := by
  have h : j = 0 ∨ j = 1 ∨ j = 2 ∨ j = 3 ∨ j = 4 ∨ j = 5 ∨ j = 6 := by omega
  rcases h with rfl | rfl | rfl | rfl | rfl | rfl | rfl
  · exact ⟨1, rfl, by omega, by omega⟩
  · exact ⟨1, rfl, by omega, by omega⟩
  · exact ⟨2, rfl, by omega, by omega⟩
  · exact ⟨3, rfl, by omega, by omega⟩
  · exact ⟨4, rfl, by omega, by omega⟩
  · exact ⟨5, rfl, by omega, by omega⟩
  · exact ⟨16, rfl, by omega, by omega⟩
/-- a row that the law draws -/
def Row (H : Hp) (q : Addr) (n1 o1 d1 n2 o2 d2 st : Int) (dn : Bool) : Prop := ∃ l h e, H q = some (.tup [.ref l, .ref h, .int st, .bl dn, e]) ∧ H l = some (.tup [.int n1, .int o1, .int d1]) ∧ H h = some (.tup [.int n2, .int o2, .int d2])
def RB (n1 o1 d1 n2 o2 d2 st : Int) : Prop := (0 ≤ n1 ∧ n1 ≤ 1) ∧ (-8 ≤ o1 ∧ o1 ≤ 5) ∧ (1 ≤ d1 ∧ d1 ≤ 3) ∧ (0 ≤ n2 ∧ n2 ≤ 3) ∧ (-6 ≤ o2 ∧ o2 ≤ 17) ∧ (1 ≤ d2 ∧ d2 ≤ 3) ∧ (1 ≤ st ∧ st ≤ 16) ∧ (1 < st → d1 = 1)
def spRow : Sp := fun vs H Q _ => ∃ (p : Addr) (m : Int), vs = [.ref p] ∧ Pen H p m ∧ m ≤ 900000000 ∧ ∀ q n1 o1 d1 n2 o2 d2 st dn H', G.Kp H H' → Pen H' p (m + 8) → Row H' q n1 o1 d1 n2 o2 d2 st dn → RB n1 o1 d1 n2 o2 d2 st → Q (.ref q) H'
theorem ok_range_row (T : Txt P K mg a) : FnOk P w K mg base CX0 2 a.a_range_row a.d_range_row ["_law_pen_here"] spRow := by
  refine T.F_range_row.ok sc_range_row (fun vs H Q E h => ?_) (fun cdv A outer s H vs Q E hr h => ?_)
  · obtain ⟨p, m, rfl, _⟩ := h
    rfl
  · obtain ⟨p, m, rfl, pe, hm, k⟩ := h
    refine ⟨_, (pss_cons (ps_set (i := 1) sc_range_row.nd rfl (Or.inl rfl) (pe_ix ix_list (pe_lst (pa_cons pe_int (pa_cons pe_int (pa_cons pe_int (pa_cons pe_int (pa_cons pe_int (pa_cons pe_int (pa_cons pe_int pa_nil)))))))) (pe_callS (ok_draw T) (hr.mono (by decide)) rfl T.g_draw T.F_draw.kp T.b_draw pass0S (pa_cons (pv 0) (pa_cons pe_int pa_nil))) (fun _ _ => rfl)))
      (Evl.pss_cut (ps_set (i := 2) sc_range_row.nd rfl (Or.inl rfl) (pe_tup (pa_cons (pe_callS (ok_draw T) (hr.mono (by decide)) rfl T.g_draw T.F_draw.kp T.b_draw pass0S (pa_cons (pv 0) (pa_cons pe_int pa_nil))) (pa_cons (pe_op op_sub (pe_callS (ok_draw T) (hr.mono (by decide)) rfl T.g_draw T.F_draw.kp T.b_draw pass0S (pa_cons (pv 0) (pa_cons pe_int pa_nil))) pe_int) (pa_cons (pe_ifExp (pt_cmpR op_eq (pv 1) pe_int (nomark _)) (pe_op op_add pe_int (pe_callS (ok_draw T) (hr.mono (by decide)) rfl T.g_draw T.F_draw.kp T.b_draw pass0S (pa_cons (pv 0) (pa_cons pe_int pa_nil)))) pe_int) pa_nil)))))
      (pss_cons (ps_set (i := 3) sc_range_row.nd rfl (Or.inl rfl) (pe_tup (pa_cons (pe_callS (ok_draw T) (hr.mono (by decide)) rfl T.g_draw T.F_draw.kp T.b_draw pass0S (pa_cons (pv 0) (pa_cons pe_int pa_nil))) (pa_cons (pe_op op_sub (pe_callS (ok_draw T) (hr.mono (by decide)) rfl T.g_draw T.F_draw.kp T.b_draw pass0S (pa_cons (pv 0) (pa_cons pe_int pa_nil))) pe_int) (pa_cons (pe_op op_add pe_int (pe_callS (ok_draw T) (hr.mono (by decide)) rfl T.g_draw T.F_draw.kp T.b_draw pass0S (pa_cons (pv 0) (pa_cons pe_int pa_nil)))) pa_nil)))))
      (pss_one (ps_ret (pe_tup (pa_cons (pv 2) (pa_cons (pv 3) (pa_cons (pv 1) (pa_cons (pe_cmpR op_eq (pe_callS (ok_draw T) (hr.mono (by decide)) rfl T.g_draw T.F_draw.kp T.b_draw pass0S (pa_cons (pv 0) (pa_cons pe_int pa_nil))) pe_int (nomark _)) (pa_cons (pe_tup pa_nil) pa_nil))))))))))), ?_⟩
    walk_at "g"
    refine G.newL (by simp) fun l1 H1 _ s1 hl1 => ?_
    walk_at "g"
    refine ⟨p, 7, m, rfl, pe.same s1, by omega, by omega, by omega, fun j H2 k2 pe2 j0 j1 => ?_⟩
    walk_at "g"
    obtain ⟨st, hst, st1, st2⟩ := aparts j0 j1
    refine G.ixL (by walk_at "hp") hst ?_
    walk_at "g"
    refine G.cut (fun σ' H' => ∃ (l : Addr) (n1 o1 d1 : Int), σ' = [some (.ref p), some (.int st), some (.ref l), none] ∧ G.Kp H H' ∧ Pen H' p (m + 4) ∧ H' l = some (.tup [.int n1, .int o1, .int d1]) ∧ (0 ≤ n1 ∧ n1 ≤ 1) ∧ (-8 ≤ o1 ∧ o1 ≤ 5) ∧ (1 ≤ d1 ∧ d1 ≤ 3) ∧ (1 < st → d1 = 1)) ?_ ?_
    · walk_at "g"
      refine ⟨p, 2, m + 1, rfl, pe2, by omega, by omega, by omega, fun n1 H3 k3 pe3 n10 n11 => ?_⟩
      walk_at "g"
      refine ⟨p, 14, m + 2, rfl, pe3.mono (by omega), by omega, by omega, by omega, fun o1 H4 k4 pe4 o10 o11 => ?_⟩
      walk_at "g"
      refine G.ite (fun h1 => ?_) (fun h1 => ?_)
      · walk_at "g"
        refine ⟨p, 3, m + 3, rfl, pe4.mono (by omega), by omega, by omega, by omega, fun d1 H5 k5 pe5 d10 d11 => ?_⟩
        walk_at "g"
        refine G.newT (by simp) fun l H6 _ s6 hl => ?_
        walk_at "g"
        exact ⟨l, _, _, _, rfl, ((((G.Kp.of s1).trans k2).trans k3).trans k4).trans k5 |>.then s6, (pe5.mono (by omega)).same s6, hl, ⟨by omega, by omega⟩, ⟨by omega, by omega⟩, ⟨by omega, by omega⟩, fun h => by omega⟩
      · walk_at "g"
        refine G.newT (by simp) fun l H6 _ s6 hl => ?_
        walk_at "g"
        exact ⟨l, _, _, _, rfl, ((((G.Kp.of s1).trans k2).trans k3).trans k4).then s6, (pe4.mono (by omega)).same s6, hl, ⟨by omega, by omega⟩, ⟨by omega, by omega⟩, ⟨by omega, by omega⟩, fun h => rfl⟩
    rintro σ' H3 ⟨l, n1, o1, d1, rfl, k3, pe3, hl, b1, b2, b3, b4⟩
    walk_at "g"
    refine ⟨p, 4, m + 4, rfl, pe3, by omega, by omega, by omega, fun n2 H4 k4 pe4 n20 n21 => ?_⟩
    walk_at "g"
    refine ⟨p, 24, m + 5, rfl, pe4.mono (by omega), by omega, by omega, by omega, fun o2 H5 k5 pe5 o20 o21 => ?_⟩
    walk_at "g"
    refine ⟨p, 3, m + 6, rfl, pe5.mono (by omega), by omega, by omega, by omega, fun d2 H6 k6 pe6 d20 d21 => ?_⟩
    walk_at "g"
    refine G.newT (by simp) fun h H7 _ s7 hh => ?_
    walk_at "g"
    refine ⟨p, 2, m + 7, rfl, (pe6.mono (by omega)).same s7, by omega, by omega, by omega, fun r H8 k8 pe8 r0 r1 => ?_⟩
    walk_at "g"
    refine G.newT (by simp) fun e H9 _ s9 he => ?_
    walk_at "g"
    refine G.newT (by simp) fun q H10 _ s10 hq => ?_
    walk_at "g"
    have hl10 : H10 l = some (.tup [.int n1, .int o1, .int d1]) := by walk_at "hp"
    have hh10 : H10 h = some (.tup [.int n2, .int (o2 - 6), .int (1 + d2)]) := by walk_at "hp"
    exact k q n1 o1 d1 _ _ _ st _ H10 (((((((k3.trans k4).trans k5).trans k6).then s7).trans k8).then s9).then s10) (((pe8.mono (by omega)).same s9).same s10) ⟨l, h, .ref e, hq, hl10, hh10⟩ ⟨b1, b2, b3, ⟨by omega, by omega⟩, ⟨by omega, by omega⟩, ⟨by omega, by omega⟩, ⟨st1, st2⟩, b4⟩
end
end Lw
local macro_rules | `(tactic| walk_at "hp") => `(tactic| first
  | assumption
  | exact L2.upd_same
  | (refine G.sget (by assumption) ?_; walk_at "hp")
  | (refine G.kget (by assumption) ?_ ?_; (· walk_at "hp"); (· intro _ h; cases h)))
local macro_rules | `(tactic| walk_at "s") => `(tactic| first
  | (with_reducible refine G.seq ?_)
  | (with_reducible refine G.nx ?_)
  | (with_reducible refine G.rt ?_)
  | (with_reducible refine G.next ?_)
  | (with_reducible refine G.asg ?_)
  | (with_reducible refine G.asgG ?_)
  | ((with_reducible refine' G.gtup ?h ?l ?q); (case h => walk_at "hp"); (case l => rfl))
  | (with_reducible refine G.gcons ?_)
  | (with_reducible refine G.gnil ?_)
  | (with_reducible refine G.gname ?_)
  | (with_reducible refine G.inst ?_)
  | (with_reducible refine G.refV ?_)
  | (with_reducible refine G.xf ?_)
  | ((with_reducible refine' G.xfV ?h ?l ?q); (case h => walk_at "hp"); (case l => walk_at "xk"))
  | (with_reducible refine G.ret ?_)
  | (with_reducible refine G.ifS ?_)
  | (with_reducible refine G.drop ?_)
  | ((with_reducible refine' G.var ?h ?q); (case h => rfl))
  | (with_reducible refine G.cst ?_)
  | (with_reducible refine G.op ?_)
  | (with_reducible refine G.un ?_)
  | (with_reducible refine G.I0 ?_)
  | (with_reducible refine G.U1 ?_)
  | ((with_reducible refine G.fdiv ?_ ?_ ?_); (· omega); (· omega))
  | ((with_reducible refine G.md ?_ ?_); (· omega))
  | ((with_reducible refine G.mulL ?_ ?_ ?_); (· omega); (· omega))
  | ((with_reducible refine G.mulR ?_ ?_ ?_); (· omega); (· omega))
  | ((with_reducible refine G.mulW ?_ ?_ ?_ ?_ ?_); (· omega); (· omega); (· omega); (· omega))
  | (with_reducible refine G.pow18 ?_)
  | (with_reducible refine G.pow6 ?_)
  | (with_reducible refine G.pow30 ?_)
  | (with_reducible refine G.pow29 ?_)
  | (with_reducible refine G.pow3 ?_)
  | (with_reducible refine G.eqI ?_)
  | (with_reducible refine G.neI ?_)
  | ((with_reducible refine G.eq ?_ ?_); (· rfl))
  | ((with_reducible refine G.ne ?_ ?_); (· rfl))
  | (with_reducible refine G.isN ?_)
  | (with_reducible refine G.notN ?_)
  | (with_reducible refine G.test ?_)
  | (with_reducible refine G.tBv ?_)
  | (with_reducible refine G.bl ?_)
  | (with_reducible refine G.and ?_)
  | (with_reducible refine G.or ?_)
  | (with_reducible refine G.not ?_)
  | (with_reducible refine G.andV ?_)
  | (with_reducible refine G.orV ?_)
  | (with_reducible refine G.notV ?_)
  | (with_reducible refine G.ifE ?_)
  | (with_reducible refine G.nil ?_)
  | (with_reducible refine G.cons ?_)
  | (with_reducible refine G.tup ?_)
  | (with_reducible refine G.lst ?_)
  | (with_reducible refine G.fld ?_)
  | (with_reducible refine G.call ?_)
  | (with_reducible refine G.cb ?_)
  | (with_reducible refine G.make ?_)
  | (with_reducible refine G.dget ?_)
  | (with_reducible refine G.dput ?_)
  | (with_reducible refine G.fldS ?_)
  | (with_reducible refine G.abs ?_)
  | (with_reducible refine G.max2 ?_)
  | (with_reducible refine G.min2 ?_)
  | (with_reducible refine G.int1 ?_)
  | (with_reducible refine G.own ?_)
  | (with_reducible refine G.ownR ?_)
  | (with_reducible refine G.meth ?_)
  | (with_reducible refine G.par ?_)
  | (with_reducible refine G.par3 ?_)
  | (with_reducible refine G.parV ?_)
  | (with_reducible refine G.parV3 ?_)
  | (with_reducible refine G.forR ?_)
  | (with_reducible refine G.lc3 ?_)
  | (with_reducible refine G.lc1 ?_)
  | (with_reducible refine G.forZ ?_)
  | (with_reducible refine G.forT ?_)
  | (with_reducible refine G.forL ?_)
  | (with_reducible refine G.methU ?_)
  | (with_reducible refine G.sl ?_)
  | (with_reducible refine G.noPart ?_)
  | (with_reducible refine G.part ?_)
  | (with_reducible refine G.partV ?_)
  | (with_reducible refine G.raiseE ?_)
  | (with_reducible refine G.iteT' ?_)
  | (with_reducible refine G.iteNT ?_)
  | (with_reducible refine G.iteNF ?_)
  | (with_reducible refine G.iteF' ?_)
  | ((with_reducible refine' G.dgetS ?h ?l ?q); (case h => walk_at "hp"); (case l => walk_at "dk"))
  | ((with_reducible refine' G.lenL ?h ?q); (case h => walk_at "hp"))
  | ((with_reducible refine' G.lenT ?h ?q); (case h => walk_at "hp"))
  | ((with_reducible refine' G.fldV ?h ?c ?n ?l ?q); (case h => walk_at "hp"); (case c => walk_at "cls"); (case n => walk_at "na"); (case l => walk_at "lk"))
  | ((with_reducible refine' G.fldSV ?h ?c ?n ?l ?q); (case h => walk_at "hp"); (case c => walk_at "cls"); (case n => walk_at "na"); (case l => walk_at "ln")))
local macro_rules | `(tactic| walk_at "g") => `(tactic| repeat (walk_at "s"))
namespace Lw
open PySem L2
local macro_rules | `(tactic| walk_at "cls") => `(tactic| first | exact Lw.Txt.cl_Straight (by assumption) | exact Lw.Txt.cl_Place (by assumption) | exact Lw.Txt.cl_Loop (by assumption))
local macro_rules | `(tactic| walk_at "na") => `(tactic| first | exact Lw.Txt.na_Straight_i (by assumption) | exact Lw.Txt.na_Straight_n (by assumption) | exact Lw.Txt.na_Straight_one (by assumption) | exact Lw.Txt.na_Place_straight (by assumption) | exact Lw.Txt.na_Place_divisor (by assumption) | exact Lw.Txt.na_Loop_low (by assumption) | exact Lw.Txt.na_Loop_high (by assumption) | exact Lw.Txt.na_Loop_statements (by assumption) | exact Lw.Txt.na_Loop_step (by assumption) | exact Lw.Txt.na_Loop_down (by assumption))
local macro_rules | `(tactic| walk_at "lk") => `(tactic| first | exact Lw.fStraight_i _ _ _ | exact Lw.fStraight_n _ _ _ | exact Lw.fStraight_one _ _ _ | exact Lw.fPlace_straight _ _ | exact Lw.fPlace_divisor _ _ | exact Lw.fLoop_low _ _ _ _ _ | exact Lw.fLoop_high _ _ _ _ _ | exact Lw.fLoop_statements _ _ _ _ _ | exact Lw.fLoop_step _ _ _ _ _ | exact Lw.fLoop_down _ _ _ _ _)
local macro_rules | `(tactic| walk_at "ln") => `(tactic| first | (show 0 < 1000; decide) | (show 1 < 1000; decide) | (show 2 < 1000; decide) | (show 3 < 1000; decide) | (show 4 < 1000; decide))
/-- the counters in the turns' order -/
def due (lo hi st : Int) (dn : Bool) : List Int := if dn then (pre lo st (rsz lo hi st)).reverse else pre lo st (rsz lo hi st)
def spCounters : Sp := fun vs H Q _ => ∃ (q : Addr) (n n1 o1 d1 n2 o2 d2 st : Int) (dn : Bool), vs = [.ref q, .int n] ∧ Row H q n1 o1 d1 n2 o2 d2 st dn ∧ RB n1 o1 d1 n2 o2 d2 st ∧ 0 ≤ n ∧ n ≤ 8 ∧
  ∀ D H', Same H H' → H' D = some (.lst ((due ((n1 * n + o1) / d1) ((n2 * n + o2) / d2) st dn).map V.int)) → Q (.ref D) H'
theorem ediv_abs {x g B : Int} (hg : 0 < g) (h : -B ≤ x ∧ x ≤ B) (hB : 0 ≤ B) : -B ≤ x / g ∧ x / g ≤ B := by
  have h1 : x / g * g + x % g = x := Int.ediv_mul_add_emod x g
  have h2 := Int.emod_nonneg x (show g ≠ 0 by omega)
  have h3 := Int.emod_lt_of_pos x hg
  constructor
  · apply Int.le_ediv_of_mul_le hg
    have : -B * g ≤ -B * 1 := Int.mul_le_mul_of_nonpos_left (by omega) (by omega)
    omega
  · apply Int.le_of_lt_add_one
    apply Int.ediv_lt_of_lt_mul hg
    have : (B + 1) * 1 ≤ (B + 1) * g := Int.mul_le_mul_of_nonneg_left (by omega) (by omega)
    omega
section
variable {P : Program} {w : World} {K : PySem.W.Frag} {mg : Str → Option Value} {base : Heap} {a : Ad}
theorem ok_counters (T : Txt P K mg a) : FnOk P w K mg base CX0 1 a.a_counters a.d_counters ["_law_row", "_law_n"] spCounters := by
  refine T.F_counters.ok sc_counters (fun vs H Q E h => ?_) (fun cdv A outer s H vs Q E hr h => ?_)
  · obtain ⟨q, n, n1, o1, d1, n2, o2, d2, st, dn, rfl, _⟩ := h
    rfl
  · obtain ⟨q, n, n1, o1, d1, n2, o2, d2, st, dn, rfl, ⟨l, hh, e, hq, hl, hhh⟩, ⟨b1, b2, b3, b4, b5, b6, b7, b8⟩, hn0, hn1, k⟩ := h
    refine ⟨_, (pss_cons (ps_set (i := 2) sc_counters.nd rfl (Or.inl rfl) (pe_op op_fdiv (pe_op op_add (pe_op op_mul (pe_ix ix_tup (pe_ix ix_tup (pv 0) pe_int (fun _ _ => rfl)) pe_int (fun _ _ => rfl)) (pv 1)) (pe_ix ix_tup (pe_ix ix_tup (pv 0) pe_int (fun _ _ => rfl)) pe_int (fun _ _ => rfl))) (pe_ix ix_tup (pe_ix ix_tup (pv 0) pe_int (fun _ _ => rfl)) pe_int (fun _ _ => rfl))))
      (pss_cons (ps_set (i := 3) sc_counters.nd rfl (Or.inl rfl) (pe_op op_fdiv (pe_op op_add (pe_op op_mul (pe_ix ix_tup (pe_ix ix_tup (pv 0) pe_int (fun _ _ => rfl)) pe_int (fun _ _ => rfl)) (pv 1)) (pe_ix ix_tup (pe_ix ix_tup (pv 0) pe_int (fun _ _ => rfl)) pe_int (fun _ _ => rfl))) (pe_ix ix_tup (pe_ix ix_tup (pv 0) pe_int (fun _ _ => rfl)) pe_int (fun _ _ => rfl))))
      (pss_cons (ps_setLc (i := 4) (own := [("_law_counter", 5)]) (by rfl) sc_counters.nd rfl rfl (sw_true rfl rfl rfl (by decide +kernel)) (pi_range3 (by rfl) T.n_range (pa_cons (pv 2) (pa_cons (pv 3) (pa_cons (pe_ix ix_tup (pv 0) pe_int (fun _ _ => rfl)) pa_nil)))) (blkOk_by (own := [("_law_counter", 5)]) (N := ["_law_row", "_law_n", "_law_low", "_law_high", "_law_found", "_law_counter"]) (sc := defScope s_counters) (by decide +kernel)) (fun _ _ _ _ _ => (pg_name (i := 5) sc_counters.nd rfl (Or.inl rfl))) (fun _ _ _ _ _ => (pts_one (pt_cmpR op_ge (pv 5) pe_int (nomark _)))) (fun _ _ _ _ _ => (pv 5)))
      (pss_one (ps_ret (pe_ifExp (pt_val (pe_ix ix_tup (pv 0) pe_int (fun _ _ => rfl))) (pe_revL (pv 4)) (pv 4))))))), ?_⟩
    walk_at "g"
    refine G.ixT hq (rfl : atI _ 0 = some (.ref l)) ?_
    walk_at "g"
    refine G.ixT hl (rfl : atI _ 0 = some (.int n1)) ?_
    walk_at "g"
    refine G.ixT hq (rfl : atI _ 0 = some (.ref l)) ?_
    walk_at "g"
    refine G.ixT hl (rfl : atI _ 1 = some (.int o1)) ?_
    walk_at "g"
    refine G.ixT hq (rfl : atI _ 0 = some (.ref l)) ?_
    walk_at "g"
    refine G.ixT hl (rfl : atI _ 2 = some (.int d1)) ?_
    walk_at "g"
    refine G.ixT hq (rfl : atI _ 1 = some (.ref hh)) ?_
    walk_at "g"
    refine G.ixT hhh (rfl : atI _ 0 = some (.int n2)) ?_
    walk_at "g"
    refine G.ixT hq (rfl : atI _ 1 = some (.ref hh)) ?_
    walk_at "g"
    refine G.ixT hhh (rfl : atI _ 1 = some (.int o2)) ?_
    walk_at "g"
    refine G.ixT hq (rfl : atI _ 1 = some (.ref hh)) ?_
    walk_at "g"
    refine G.ixT hhh (rfl : atI _ 2 = some (.int d2)) ?_
    walk_at "g"
    refine G.ixT hq (rfl : atI _ 2 = some (.int st)) ?_
    walk_at "g"
    have bl : -1000 ≤ (n1 * n + o1) / d1 ∧ (n1 * n + o1) / d1 ≤ 1000 := by
      have : 0 ≤ n1 * n ∧ n1 * n ≤ 8 := by
        have h : n1 = 0 ∨ n1 = 1 := by omega
        rcases h with rfl | rfl <;> constructor <;> omega
      exact ediv_abs (by omega) ⟨by omega, by omega⟩ (by omega)
    have bh : -1000 ≤ (n2 * n + o2) / d2 ∧ (n2 * n + o2) / d2 ≤ 1000 := by
      have : 0 ≤ n2 * n ∧ n2 * n ≤ 24 := by
        have h : n2 = 0 ∨ n2 = 1 ∨ n2 = 2 ∨ n2 = 3 := by omega
        rcases h with rfl | rfl | rfl | rfl <;> constructor <;> omega
      exact ediv_abs (by omega) ⟨by omega, by omega⟩ (by omega)
    generalize (n1 * n + o1) / d1 = lo at *
    generalize (n2 * n + o2) / d2 = hi at *
    refine ⟨lo, hi, st, rsz lo hi st, rfl, rgc b7 bl bh, ?_⟩
    refine G.lcW walk_rangeC (fun D i H' => H' = upd H D (.lst ((pre lo st i).map V.int))) (fun D _ => by rw [pre_zero]; rfl) (fun _ _ _ _ _ => trivial) ?_ ?_
    · rintro D i x H' H'' hi' rfl ⟨rfl, rfl⟩
      walk_at "g"
      refine ⟨rfl, ?_⟩
      walk_at "g"
      refine G.ite (fun h1 => ?_) (fun h1 => ?_)
      · have h2 := (below b7.1 i).mp h1
        walk_at "g"
        refine ⟨_, upd_same, ?_, ?_⟩
        · rw [List.length_map]
          unfold pre
          rw [List.length_map, List.length_range]
          have : rsz lo hi st ≤ 2001 := by
            unfold rsz
            split
            · have : (hi - lo - 1) / st ≤ hi - lo - 1 := Int.ediv_le_self _ (by omega)
              omega
            · omega
          have : (3000 : Nat) < sizeLine := by decide
          omega
        · rw [G.upd_upd, pre_take b7.1 h2, List.map_append]
          rfl
      · have h2 : ¬ c0 lo st ≤ i := fun z => h1 ((below b7.1 i).mpr z)
        rw [pre_skip h2]
    · rintro D H' hD rfl
      have s1 : Same H (upd H D (.lst ((pre lo st (rsz lo hi st)).map V.int))) := G.same_new hD
      have hq1 := s1 _ _ hq
      walk_at "g"
      refine G.ixT hq1 (rfl : atI _ 3 = some (.bl dn)) ?_
      refine ⟨dn, rfl, ?_⟩
      cases dn with
      | true =>
        walk_at "g"
        refine ⟨_, rfl, D, _, rfl, SqL.of upd_same, fun r hr' => ?_⟩
        walk_at "g"
        refine k r _ (s1.trans (G.same_new hr')) ?_
        rw [upd_same]
        show _ = some (HO.lst ((pre lo st (rsz lo hi st)).reverse.map V.int))
        rw [List.map_reverse]
      | false =>
        walk_at "g"
        exact k D _ s1 upd_same
end
end Lw
namespace Lw
open PySem L2
/-- the number of turns -/
def nt (lo hi st : Int) : Nat := rsz lo hi st - c0 lo st
/-- the counter of a turn -/
def ctr (lo hi st : Int) (dn : Bool) (k : Int) : Int := lcv lo st + st * (if dn then mtv lo hi st - 1 - k else k)
theorem nt_mtv {lo hi st : Int} (hs : 1 ≤ st) : (nt lo hi st : Int) = mtv lo hi st := rsz_c0 hs
theorem due_eq {lo hi st : Int} {dn : Bool} (hs : 1 ≤ st) : due lo hi st dn = (List.range (nt lo hi st)).map fun k => ctr lo hi st dn (k : Nat) := by
  have hm := nt_mtv (lo := lo) (hi := hi) hs
  unfold due
  cases dn with
  | false => rfl
  | true =>
    rw [if_pos rfl]
    apply List.ext_getElem?
    intro k
    by_cases hk : k < nt lo hi st
    · have e1 : (pre lo st (rsz lo hi st)).length = nt lo hi st := by unfold pre; rw [List.length_map, List.length_range]; rfl
      rw [List.getElem?_reverse (by rw [e1]; exact hk), e1]
      unfold pre
      rw [List.getElem?_map, List.getElem?_map, List.getElem?_range (by show nt lo hi st - 1 - k < nt lo hi st; omega), List.getElem?_range hk]
      simp only [Option.map_some]
      unfold ctr
      rw [if_pos rfl]
      have : ((nt lo hi st - 1 - k : Nat) : Int) = mtv lo hi st - 1 - k := by omega
      rw [this]
    · have e1 : (pre lo st (rsz lo hi st)).length = nt lo hi st := by unfold pre; rw [List.length_map, List.length_range]; rfl
      rw [List.getElem?_eq_none (by rw [List.length_reverse, e1]; omega), List.getElem?_eq_none (by rw [List.length_map, List.length_range]; omega)]
theorem due_len {lo hi st : Int} {dn : Bool} (hs : 1 ≤ st) : ((due lo hi st dn).length : Int) = mtv lo hi st := by
  rw [due_eq hs, List.length_map, List.length_range, nt_mtv hs]
theorem due_get {lo hi st : Int} {dn : Bool} (hs : 1 ≤ st) {k : Nat} (hk : (k : Int) < mtv lo hi st) : (due lo hi st dn)[k]? = some (ctr lo hi st dn k) := by
  have hm := nt_mtv (lo := lo) (hi := hi) hs
  rw [due_eq hs, List.getElem?_map, List.getElem?_range (by omega)]
  rfl
theorem mtv_nonneg {lo hi st : Int} (hs : 1 ≤ st) : 0 ≤ mtv lo hi st := by
  have hm := nt_mtv (lo := lo) (hi := hi) hs
  omega
/-- c is no counter -/
def Off (lo hi st c : Int) : Prop := c - lcv lo st < 0 ∨ (c - lcv lo st) % st ≠ 0 ∨ mtv lo hi st ≤ (c - lcv lo st) / st
theorem ctr_turn {lo hi st c : Int} {dn : Bool} (hs : 1 ≤ st) (h : ¬ Off lo hi st c) :
    0 ≤ (if dn then mtv lo hi st - 1 - (c - lcv lo st) / st else (c - lcv lo st) / st) ∧ (if dn then mtv lo hi st - 1 - (c - lcv lo st) / st else (c - lcv lo st) / st) < mtv lo hi st ∧
    ctr lo hi st dn (if dn then mtv lo hi st - 1 - (c - lcv lo st) / st else (c - lcv lo st) / st) = c := by
  unfold Off at h
  have h1 : 0 ≤ c - lcv lo st := by omega
  have h2 : (c - lcv lo st) % st = 0 := Classical.byContradiction fun z => h (.inr (.inl z))
  have h3 : (c - lcv lo st) / st < mtv lo hi st := by omega
  have h4 : 0 ≤ (c - lcv lo st) / st := Int.ediv_nonneg h1 (by omega)
  have h5 := Int.emod_add_mul_ediv (c - lcv lo st) st
  unfold ctr
  cases dn with
  | true =>
    simp only [if_true]
    refine ⟨by omega, by omega, ?_⟩
    rw [show mtv lo hi st - 1 - (mtv lo hi st - 1 - (c - lcv lo st) / st) = (c - lcv lo st) / st by omega]
    omega
  | false =>
    simp only [Bool.false_eq_true, if_false]
    exact ⟨h4, h3, by omega⟩
theorem ctr_on {lo hi st k : Int} {dn : Bool} (hs : 1 ≤ st) (h0 : 0 ≤ k) (h1 : k < mtv lo hi st) : ¬ Off lo hi st (ctr lo hi st dn k) := by
  unfold Off ctr
  have hj : 0 ≤ (if dn then mtv lo hi st - 1 - k else k) ∧ (if dn then mtv lo hi st - 1 - k else k) < mtv lo hi st := by
    cases dn <;> simp <;> omega
  generalize (if dn then mtv lo hi st - 1 - k else k) = j at *
  have hp : 0 ≤ st * j := Int.mul_nonneg (by omega) hj.1
  rw [show lcv lo st + st * j - lcv lo st = st * j by omega, Int.mul_emod_right, Int.mul_ediv_cancel_left _ (by omega)]
  omega
theorem ctr_inj {lo hi st k j : Int} {dn : Bool} (hs : 1 ≤ st) (h : ctr lo hi st dn k = ctr lo hi st dn j) : k = j := by
  unfold ctr at h
  have h' : st * (if dn then mtv lo hi st - 1 - k else k) = st * (if dn then mtv lo hi st - 1 - j else j) := by omega
  have := Int.eq_of_mul_eq_mul_left (by omega) h'
  cases dn <;> simp at this <;> omega
end Lw
local macro_rules | `(tactic| walk_at "hp") => `(tactic| first
  | assumption
  | exact L2.upd_same
  | (refine G.sget (by assumption) ?_; walk_at "hp")
  | (refine G.kget (by assumption) ?_ ?_; (· walk_at "hp"); (· intro _ h; cases h)))
local macro_rules | `(tactic| walk_at "s") => `(tactic| first
  | (with_reducible refine G.seq ?_)
  | (with_reducible refine G.nx ?_)
  | (with_reducible refine G.rt ?_)
  | (with_reducible refine G.next ?_)
  | (with_reducible refine G.asg ?_)
  | (with_reducible refine G.asgG ?_)
  | ((with_reducible refine' G.gtup ?h ?l ?q); (case h => walk_at "hp"); (case l => rfl))
  | (with_reducible refine G.gcons ?_)
  | (with_reducible refine G.gnil ?_)
  | (with_reducible refine G.gname ?_)
  | (with_reducible refine G.inst ?_)
  | (with_reducible refine G.refV ?_)
  | (with_reducible refine G.xf ?_)
  | ((with_reducible refine' G.xfV ?h ?l ?q); (case h => walk_at "hp"); (case l => walk_at "xk"))
  | (with_reducible refine G.ret ?_)
  | (with_reducible refine G.ifS ?_)
  | (with_reducible refine G.drop ?_)
  | ((with_reducible refine' G.var ?h ?q); (case h => rfl))
  | (with_reducible refine G.cst ?_)
  | (with_reducible refine G.op ?_)
  | (with_reducible refine G.un ?_)
  | (with_reducible refine G.I0 ?_)
  | (with_reducible refine G.U1 ?_)
  | ((with_reducible refine G.fdiv ?_ ?_ ?_); (· omega); (· omega))
  | ((with_reducible refine G.md ?_ ?_); (· omega))
  | ((with_reducible refine G.mulL ?_ ?_ ?_); (· omega); (· omega))
  | ((with_reducible refine G.mulR ?_ ?_ ?_); (· omega); (· omega))
  | ((with_reducible refine G.mulW ?_ ?_ ?_ ?_ ?_); (· omega); (· omega); (· omega); (· omega))
  | (with_reducible refine G.pow18 ?_)
  | (with_reducible refine G.pow6 ?_)
  | (with_reducible refine G.pow30 ?_)
  | (with_reducible refine G.pow29 ?_)
  | (with_reducible refine G.pow3 ?_)
  | (with_reducible refine G.eqI ?_)
  | (with_reducible refine G.neI ?_)
  | ((with_reducible refine G.eq ?_ ?_); (· rfl))
  | ((with_reducible refine G.ne ?_ ?_); (· rfl))
  | (with_reducible refine G.isN ?_)
  | (with_reducible refine G.notN ?_)
  | (with_reducible refine G.test ?_)
  | (with_reducible refine G.tBv ?_)
  | (with_reducible refine G.bl ?_)
  | (with_reducible refine G.and ?_)
  | (with_reducible refine G.or ?_)
  | (with_reducible refine G.not ?_)
  | (with_reducible refine G.andV ?_)
  | (with_reducible refine G.orV ?_)
  | (with_reducible refine G.notV ?_)
  | (with_reducible refine G.ifE ?_)
  | (with_reducible refine G.nil ?_)
  | (with_reducible refine G.cons ?_)
  | (with_reducible refine G.tup ?_)
  | (with_reducible refine G.lst ?_)
  | (with_reducible refine G.fld ?_)
  | (with_reducible refine G.call ?_)
  | (with_reducible refine G.cb ?_)
  | (with_reducible refine G.make ?_)
  | (with_reducible refine G.dget ?_)
  | (with_reducible refine G.dput ?_)
  | (with_reducible refine G.fldS ?_)
  | (with_reducible refine G.abs ?_)
  | (with_reducible refine G.max2 ?_)
  | (with_reducible refine G.min2 ?_)
  | (with_reducible refine G.int1 ?_)
  | (with_reducible refine G.own ?_)
  | (with_reducible refine G.ownR ?_)
  | (with_reducible refine G.meth ?_)
  | (with_reducible refine G.par ?_)
  | (with_reducible refine G.par3 ?_)
  | (with_reducible refine G.parV ?_)
  | (with_reducible refine G.parV3 ?_)
  | (with_reducible refine G.forR ?_)
  | (with_reducible refine G.lc3 ?_)
  | (with_reducible refine G.lc1 ?_)
  | (with_reducible refine G.forZ ?_)
  | (with_reducible refine G.forT ?_)
  | (with_reducible refine G.forL ?_)
  | (with_reducible refine G.methU ?_)
  | (with_reducible refine G.sl ?_)
  | (with_reducible refine G.noPart ?_)
  | (with_reducible refine G.part ?_)
  | (with_reducible refine G.partV ?_)
  | (with_reducible refine G.raiseE ?_)
  | (with_reducible refine G.iteT' ?_)
  | (with_reducible refine G.iteNT ?_)
  | (with_reducible refine G.iteNF ?_)
  | (with_reducible refine G.iteF' ?_)
  | ((with_reducible refine' G.dgetS ?h ?l ?q); (case h => walk_at "hp"); (case l => walk_at "dk"))
  | ((with_reducible refine' G.lenL ?h ?q); (case h => walk_at "hp"))
  | ((with_reducible refine' G.lenT ?h ?q); (case h => walk_at "hp"))
  | ((with_reducible refine' G.fldV ?h ?c ?n ?l ?q); (case h => walk_at "hp"); (case c => walk_at "cls"); (case n => walk_at "na"); (case l => walk_at "lk"))
  | ((with_reducible refine' G.fldSV ?h ?c ?n ?l ?q); (case h => walk_at "hp"); (case c => walk_at "cls"); (case n => walk_at "na"); (case l => walk_at "ln")))
local macro_rules | `(tactic| walk_at "g") => `(tactic| repeat (walk_at "s"))
namespace Lw
open PySem L2
local macro_rules | `(tactic| walk_at "cls") => `(tactic| first | exact Lw.Txt.cl_Straight (by assumption) | exact Lw.Txt.cl_Place (by assumption) | exact Lw.Txt.cl_Loop (by assumption))
local macro_rules | `(tactic| walk_at "na") => `(tactic| first | exact Lw.Txt.na_Straight_i (by assumption) | exact Lw.Txt.na_Straight_n (by assumption) | exact Lw.Txt.na_Straight_one (by assumption) | exact Lw.Txt.na_Place_straight (by assumption) | exact Lw.Txt.na_Place_divisor (by assumption) | exact Lw.Txt.na_Loop_low (by assumption) | exact Lw.Txt.na_Loop_high (by assumption) | exact Lw.Txt.na_Loop_statements (by assumption) | exact Lw.Txt.na_Loop_step (by assumption) | exact Lw.Txt.na_Loop_down (by assumption))
local macro_rules | `(tactic| walk_at "lk") => `(tactic| first | exact Lw.fStraight_i _ _ _ | exact Lw.fStraight_n _ _ _ | exact Lw.fStraight_one _ _ _ | exact Lw.fPlace_straight _ _ | exact Lw.fPlace_divisor _ _ | exact Lw.fLoop_low _ _ _ _ _ | exact Lw.fLoop_high _ _ _ _ _ | exact Lw.fLoop_statements _ _ _ _ _ | exact Lw.fLoop_step _ _ _ _ _ | exact Lw.fLoop_down _ _ _ _ _)
local macro_rules | `(tactic| walk_at "ln") => `(tactic| first | (show 0 < 1000; decide) | (show 1 < 1000; decide) | (show 2 < 1000; decide) | (show 3 < 1000; decide) | (show 4 < 1000; decide))
def rForR2 (D : Ends) (j : Nat) (tb : TS) (σ : L2.St) (vs : List V) (H : Hp) : Prop := ∃ lo n : Int, vs = [.int lo, .int n] ∧ (-(2 ^ 62) ≤ lo ∧ lo < 2 ^ 62 ∧ -(2 ^ 62) ≤ n ∧ n < 2 ^ 62) ∧ ∃ W : Nat → Nat → L2.St → Hp → Prop, (∃ m, W 0 m σ H) ∧ ∀ i m σ H, W i m σ H →
  ((Itr lo (n - lo).toNat).stop i H ∧ D.nx σ H) ∨ ((Itr lo (n - lo).toNat).go i H ∧ ∃ N : L2.St → Hp → Prop, (∀ σ' H', N σ' H' → ∃ m', m' < m ∧ W (i + 1) m' σ' H') ∧ ∀ x H', (Itr lo (n - lo).toNat).yld i H x H' → gName j x σ H' fun σ2 H2 => tb { D with nx := N, ct := N, bk := D.nx } σ2 H2)
theorem forR2 {D : Ends} {j : Nat} {t : TS} {tr : TA} {σ : L2.St} {H : Hp} (q : tr σ H fun vs H1 => rForR2 D j t σ vs H1) : tFor (iRng2 tr) (gName j) t D σ H := q
theorem forR2V {D : Ends} {j : Nat} {t : TS} {lo n : Int} {σ : L2.St} {H : Hp} (Pv : Nat → L2.St → Hp → Prop) (hb : -(2 ^ 62) ≤ lo ∧ lo < 2 ^ 62 ∧ -(2 ^ 62) ≤ n ∧ n < 2 ^ 62) (h0 : Pv 0 σ H)
    (hs : ∀ (i : Nat) σ H, i < (n - lo).toNat → Pv i σ H → t { D with nx := Pv (i + 1), ct := Pv (i + 1), bk := D.nx } (σ.set j (some (.int (lo + i)))) H) (hd : ∀ σ H, Pv (n - lo).toNat σ H → D.nx σ H) : rForR2 D j t σ [.int lo, .int n] H :=
  ⟨lo, n, rfl, hb, for_it walk_range Pv h0 (fun _ _ _ _ _ => trivial) (fun i x σ H H' hi p y => by obtain ⟨rfl, rfl⟩ := y; exact hs i σ H' hi p) hd⟩
def rLcT (K : PySem.W.Frag) (g : TG) (tt : TT) (te : TE) (vs : List Nat) (σ : L2.St) (Q : VK) (v : V) (H1 : Hp) : Prop := ∃ a, v = .ref a ∧ (∃ xs, SqT K H1 a xs) ∧ G.LcW (Itt K a) g tt te vs σ H1 Q
theorem lcT {K : PySem.W.Frag} {g : TG} {tt : TT} {te t0 : TE} {vs : List Nat} {σ : L2.St} {H : Hp} {Q : VK} (q : t0 σ H fun v H1 => rLcT K g tt te vs σ Q v H1) : tLc (iTup K t0) g tt te vs σ H Q := q
theorem tyes {σ : L2.St} {H : Hp} {Q : Bool → Hp → Prop} (q : Q true H) : tYes σ H Q := q
theorem eqv_self : ∀ ns : List Int, PyData.eqvAll (ns.map PyData.int) (ns.map PyData.int) = true
  | [] => by simp [PyData.eqvAll]
  | n :: ns => by
    have := eqv_self ns
    simp [PyData.eqvAll, PyData.eqv, this]
theorem eqv_list (ns : List Int) : PyData.eqv (.list (ns.map PyData.int)) (.list (ns.map PyData.int)) = true := by
  have := eqv_self ns
  simp [PyData.eqv, this]
theorem flats (ns : List Int) : (ns.map V.int).all flatV = true := by
  rw [List.all_eq_true]
  intro x hx
  obtain ⟨n, _, rfl⟩ := List.mem_map.mp hx
  rfl
theorem eqV_int (x y : Int) : eqV (.int x) (.int y) = (x == y) := rfl
theorem inV_ints (c : Int) (ns : List Int) : inV (.int c) (ns.map V.int) = decide (c ∈ ns) := by
  unfold inV
  rw [Bool.eq_iff_iff, List.any_eq_true, decide_eq_true_iff]
  constructor
  · rintro ⟨x, hx, e⟩
    obtain ⟨n, hn, rfl⟩ := List.mem_map.mp hx
    rw [eqV_int, beq_iff_eq] at e
    subst e
    exact hn
  · intro h
    exact ⟨.int c, List.mem_map.mpr ⟨c, h, rfl⟩, by rw [eqV_int, beq_iff_eq]⟩
/-- a loop and the row it is made of -/
def LR (a : Ad) (H : Hp) (p q : Addr) (n1 o1 d1 n2 o2 d2 st : Int) (dn : Bool) : Prop := Row H q n1 o1 d1 n2 o2 d2 st dn ∧ RB n1 o1 d1 n2 o2 d2 st ∧
  ∃ m1 u1 e1 m2 u2 e2, IsL a H p m1 u1 e1 m2 u2 e2 st dn ∧ Bs m1 u1 e1 m2 u2 e2 st ∧ (∀ n, (m1 * n + u1) / e1 = (n1 * n + o1) / d1) ∧ (∀ n, (m2 * n + u2) / e2 = (n2 * n + o2) / d2)
theorem isL_same {a : Ad} {H H' : Hp} {p : Addr} {n1 o1 d1 n2 o2 d2 st : Int} {dn : Bool} (h : IsL a H p n1 o1 d1 n2 o2 d2 st dn) (s : Same H H') : IsL a H' p n1 o1 d1 n2 o2 d2 st dn := by
  obtain ⟨dx, l, h', t, h1, h2, h3⟩ := h
  exact ⟨dx, l, h', t, s _ _ h1, isP_same h2 s, isP_same h3 s⟩
def spSmall (a : Ad) : Sp := fun vs H Q _ => ∃ (p q : Addr) (n n1 o1 d1 n2 o2 d2 st : Int) (dn : Bool), vs = [.ref p, .ref q, .int n] ∧ LR a H p q n1 o1 d1 n2 o2 d2 st dn ∧ 0 ≤ n ∧ n ≤ 8 ∧ ∀ H', Same H H' → Q (.bl true) H'
theorem rsz_le {lo hi st : Int} (hs : 1 ≤ st) (hl : -1000 ≤ lo ∧ lo ≤ 1000) (hh : -1000 ≤ hi ∧ hi ≤ 1000) : rsz lo hi st ≤ 2001 := by
  unfold rsz
  split
  · have : (hi - lo - 1) / st ≤ hi - lo - 1 := Int.ediv_le_self _ (by omega)
    omega
  · omega
theorem due_bd {lo hi st c : Int} {dn : Bool} (hs : 1 ≤ st ∧ st ≤ 16) (hm : 0 ≤ mtv lo hi st ∧ mtv lo hi st ≤ 2001) (hl : -1000 ≤ lo ∧ lo ≤ 1000) (h : c ∈ due lo hi st dn) : 0 ≤ c ∧ c ≤ 100000 := by
  rw [due_eq hs.1] at h
  obtain ⟨k, hk, rfl⟩ := List.mem_map.mp h
  have hk' := List.mem_range.mp hk
  have h2 := nt_mtv (lo := lo) (hi := hi) hs.1
  unfold ctr
  have hj : 0 ≤ (if dn then mtv lo hi st - 1 - (k : Int) else k) ∧ (if dn then mtv lo hi st - 1 - (k : Int) else k) ≤ 2001 := by
    cases dn <;> simp <;> omega
  generalize (if dn then mtv lo hi st - 1 - (k : Int) else k) = j at *
  have hp : 0 ≤ st * j := Int.mul_nonneg (by omega) hj.1
  have hq : st * j ≤ 16 * 2001 := Int.mul_le_mul hs.2 hj.2 hj.1 (by omega)
  have h3 := lcv_nonneg (lo := lo) hs.1
  have h4 : lcv lo st ≤ 1016 := by
    unfold lcv
    split
    · omega
    · have := Int.emod_lt_of_pos lo (show 0 < st by omega)
      omega
  omega
section
variable {P : Program} {w : World} {K : PySem.W.Frag} {mg : Str → Option Value} {base : Heap} {a : Ad}
theorem ok_small_right (T : Txt P K mg a) : FnOk P w K mg base CX0 6 a.a_small_right a.d_small_right ["_law_loop", "_law_row", "_law_n"] (spSmall a) := by
  refine T.F_small_right.ok sc_small_right (fun vs H Q E h => ?_) (fun cdv A outer s H vs Q E hr h => ?_)
  · obtain ⟨p, q, n, n1, o1, d1, n2, o2, d2, st, dn, rfl, _⟩ := h
    rfl
  · obtain ⟨p, q, n, n1, o1, d1, n2, o2, d2, st, dn, rfl, ⟨hrow, rb, m1, u1, e1, m2, u2, e2, hL, bs, el, eh⟩, hn0, hn1, k⟩ := h
    have b7 := bs.2.2.2.2.2.2
    have hB : B31 n := ⟨hn0, by omega⟩
    have bl : -1000 ≤ (n1 * n + o1) / d1 ∧ (n1 * n + o1) / d1 ≤ 1000 := by
      obtain ⟨b1, b2, b3, b4, b5, b6, b7, b8⟩ := rb
      have : 0 ≤ n1 * n ∧ n1 * n ≤ 8 := by
        have h : n1 = 0 ∨ n1 = 1 := by omega
        rcases h with rfl | rfl <;> constructor <;> omega
      exact ediv_abs (by omega) ⟨by omega, by omega⟩ (by omega)
    have bh : -1000 ≤ (n2 * n + o2) / d2 ∧ (n2 * n + o2) / d2 ≤ 1000 := by
      obtain ⟨b1, b2, b3, b4, b5, b6, b7, b8⟩ := rb
      have : 0 ≤ n2 * n ∧ n2 * n ≤ 24 := by
        have h : n2 = 0 ∨ n2 = 1 ∨ n2 = 2 ∨ n2 = 3 := by omega
        rcases h with rfl | rfl | rfl | rfl <;> constructor <;> omega
      exact ediv_abs (by omega) ⟨by omega, by omega⟩ (by omega)
    have eC : lc m1 u1 e1 st n = lcv ((n1 * n + o1) / d1) st := by unfold lc lcv; rw [el]
    have eM : mt m1 u1 e1 m2 u2 e2 st n = mtv ((n1 * n + o1) / d1) ((n2 * n + o2) / d2) st := by unfold mt mtv; rw [eC, eh]
    refine ⟨_, (pss_cons (ps_set (i := 3) sc_small_right.nd rfl (Or.inl rfl) (pe_callS (ok_counters T) (hr.mono (by decide)) rfl T.g_counters T.F_counters.kp T.b_counters pass0S (pa_cons (pv 1) (pa_cons (pv 2) pa_nil))))
      (pss_cons (ps_if (PW.pt (pw_or (pt_cmpR op_ne (pe_methZ (pv 0) T.cl_Loop T.m_Loop_many_turns (ok_Loop_many_turns T) (hr.mono (by decide)) T.b_Loop_many_turns pass0S (pa_cons (pv 2) pa_nil)) (pe_callB G.cLenSeq (by rfl) T.n_len (by decide +kernel) (pa_cons (pv 3) pa_nil)) (nomark _)) (pw_or1 (pt_not (pt_val (pe_callS (ok_integer T) (hr.mono (by decide)) rfl T.g_integer T.F_integer.kp T.b_integer pass0S (pa_cons (pe_methZ (pv 0) T.cl_Loop T.m_Loop_many_turns (ok_Loop_many_turns T) (hr.mono (by decide)) T.b_Loop_many_turns pass0S (pa_cons (pv 2) pa_nil)) pa_nil))))))) (pss_one (ps_ret pe_bl)) pss_nil)
      (pss_cons (ps_if (pt_cmpR (op_neD hr.units) (pe_lc (own := [("_law_k", 4)]) (by rfl) sc_small_right.nd (pi_range1 (by rfl) T.n_range (pa_cons (pe_callB G.cLenSeq (by rfl) T.n_len (by decide +kernel) (pa_cons (pv 3) pa_nil)) pa_nil)) (blkOk_by (own := [("_law_k", 4)]) (N := ["_law_loop", "_law_row", "_law_n", "_law_due", "_law_k", "_law_counter", "_law_told"]) (sc := defScope s_small_right) (by decide +kernel)) (fun _ _ _ _ _ => (pg_name (i := 4) sc_small_right.nd rfl (Or.inl rfl))) (fun _ _ _ _ _ => pts_nil) (fun _ _ _ _ _ => (pe_methZ (pv 0) T.cl_Loop T.m_Loop_counter_of (ok_Loop_counter_of T) (hr.mono (by decide)) T.b_Loop_counter_of passLS (pa_cons (pv 2) (pa_cons (pv 4) pa_nil))))) (pv 3) (nomark _)) (pss_one (ps_ret pe_bl)) pss_nil)
      (pss_cons (ps_for PassesOwn.never rfl (pi_range2 (by rfl) T.n_range (pa_cons (pe_un un_neg pe_int) (pa_cons (pe_op op_add (pe_callB (cr_max rfl) (by rfl) T.n_max (by decide +kernel) (pa_cons (pe_op op_cat (pv 3) (pe_lst (pa_cons pe_int pa_nil))) pa_nil)) pe_int) pa_nil))) (pg_name (i := 5) sc_small_right.nd rfl (Or.inl rfl))
      (pss_cons (ps_set (i := 6) sc_small_right.nd rfl (Or.inl rfl) (pe_methZ (pv 0) T.cl_Loop T.m_Loop_turn_of (ok_Loop_turn_of T) (hr.mono (by decide)) T.b_Loop_turn_of pass0S (pa_cons (pv 2) (pa_cons (pv 5) pa_nil))))
      (pss_one (ps_if (pt_cmpR op_in_seq (pv 5) (pv 3) (by with_unfolding_all rfl)) (pss_one (ps_if (PW.pt (pw_or (pt_cmpR op_ne (pv 6) (pe_bm PySem.F.plainAttrs_list PySem.F.slot_list_index PySem.F.type_list_index mt_index (pv 3) (pa_cons (pv 5) pa_nil)) (nomark _)) (pw_or1 (pt_not (pt_val (pe_callS (ok_integer T) (hr.mono (by decide)) rfl T.g_integer T.F_integer.kp T.b_integer pass0S (pa_cons (pv 6) pa_nil))))))) (pss_one (ps_ret pe_bl)) pss_nil)) (pss_one (ps_if (pt_cmpR G.oNotN (pv 6) pe_non (nomark _)) (pss_one (ps_ret pe_bl)) pss_nil))))))
      (pss_one (ps_ret (pe_callB (cr_all rfl) (by rfl) T.n_all (by decide +kernel) (pa_cons (pe_lc (own := [("_law_k", 4)]) (by rfl) sc_small_right.nd (pi_tup (pe_tup (pa_cons (pe_un un_neg pe_int) (pa_cons (pe_callB G.cLenSeq (by rfl) T.n_len (by decide +kernel) (pa_cons (pv 3) pa_nil)) (pa_cons (pe_op op_add (pe_callB G.cLenSeq (by rfl) T.n_len (by decide +kernel) (pa_cons (pv 3) pa_nil)) pe_int) (pa_cons (pe_op op_sub (pe_un un_neg (pe_callB G.cLenSeq (by rfl) T.n_len (by decide +kernel) (pa_cons (pv 3) pa_nil))) pe_int) pa_nil)))))) (blkOk_by (own := [("_law_k", 4)]) (N := ["_law_loop", "_law_row", "_law_n", "_law_due", "_law_k", "_law_counter", "_law_told"]) (sc := defScope s_small_right) (by decide +kernel)) (fun _ _ _ _ _ => (pg_name (i := 4) sc_small_right.nd rfl (Or.inl rfl))) (fun _ _ _ _ _ => pts_nil) (fun _ _ _ _ _ => (pe_callS (ok_refused_turn T) (hr.mono (by decide)) rfl T.g_refused_turn T.F_refused_turn.kp T.b_refused_turn pass0S (pa_cons (pv 0) (pa_cons (pv 2) (pa_cons (pv 4) pa_nil)))))) pa_nil)))))))), ?_⟩
    walk_at "g"
    refine ⟨q, n, n1, o1, d1, n2, o2, d2, st, dn, rfl, hrow, rb, hn0, hn1, fun D H1 s1 hD => ?_⟩
    generalize (n1 * n + o1) / d1 = lo at *
    generalize (n2 * n + o2) / d2 = hi at *
    have hm0 := mtv_nonneg (lo := lo) (hi := hi) b7.1
    have hlen := due_len (lo := lo) (hi := hi) (dn := dn) b7.1
    have hlm : (((due lo hi st dn).map V.int).length : Int) = mtv lo hi st := by rw [List.length_map]; exact hlen
    have hL1 := isL_same hL s1
    have hL1' := hL1
    obtain ⟨dx, l, hh, tt, hp, hl, hhh⟩ := hL1'
    walk_at "g"
    refine ⟨p, dx, _, rfl, hp, fLoop_no_many_turns .., ?_⟩
    walk_at "g"
    refine ⟨p, m1, u1, e1, m2, u2, e2, st, dn, n, rfl, hL1, bs, hB, ?_⟩
    rw [eM]
    walk_at "g"
    refine G.iteNY hlm.symm ?_
    walk_at "g"
    refine ⟨p, dx, _, rfl, hp, fLoop_no_many_turns .., ?_⟩
    walk_at "g"
    refine ⟨p, m1, u1, e1, m2, u2, e2, st, dn, n, rfl, hL1, bs, hB, ?_⟩
    walk_at "g"
    refine ⟨_, rfl, ?_⟩
    walk_at "g"
    rw [hlm]
    have hmU : mtv lo hi st ≤ 2001 := by
      have h1 := rsz_le b7.1 bl bh
      have h2 := nt_mtv (lo := lo) (hi := hi) b7.1
      unfold nt at h2
      omega
    have hz : (3000 : Nat) < sizeLine := by decide
    refine ⟨_, rfl, by omega, by omega, ?_⟩
    refine G.lcW walk_range (fun D' i H' => H1 D' = none ∧ H' = upd H1 D' (.lst (((List.range i).map fun k => ctr lo hi st dn (k : Nat)).map V.int))) (fun D' h => ⟨h, rfl⟩) (fun _ _ _ _ _ => trivial) ?_ ?_
    · rintro D' i x H' H'' hi' ⟨hD', rfl⟩ ⟨rfl, rfl⟩
      have sD := G.same_new (o := .lst (((List.range i).map fun k => ctr lo hi st dn (k : Nat)).map V.int)) hD'
      have hp' := sD _ _ hp
      have hL' := isL_same hL1 sD
      walk_at "g"
      refine ⟨rfl, ?_⟩
      refine tyes ?_
      walk_at "g"
      refine ⟨p, dx, _, rfl, hp', fLoop_no_counter_of .., ?_⟩
      walk_at "g"
      refine ⟨p, m1, u1, e1, m2, u2, e2, st, dn, n, 0 + (i : Int), rfl, hL', bs, hB, fun h => by rw [eM] at h; omega, fun _ => ?_⟩
      rw [eC, eM]
      refine ⟨_, upd_same, ?_, hD', ?_⟩
      · rw [List.length_map, List.length_map, List.length_range]
        omega
      · rw [G.upd_upd, List.range_succ, List.map_append, List.map_append]
        simp [ctr]
    rintro D' H' hD' ⟨_, rfl⟩
    have eN : (List.range (mtv lo hi st).toNat).map (fun k => ctr lo hi st dn (k : Nat)) = due lo hi st dn := by
      have h2 := nt_mtv (lo := lo) (hi := hi) b7.1
      rw [show (mtv lo hi st).toNat = nt lo hi st by omega, due_eq b7.1]
    rw [eN]
    have sD := G.same_new (o := .lst ((due lo hi st dn).map V.int)) hD'
    walk_at "g"
    refine G.neD (k := true) (G.dpL upd_same (G.dpInts _)) (G.dpL (sD _ _ hD) (G.dpInts _)) (PySem.W.shaped_ints _) (PySem.W.shaped_ints _) (eqv_list _) ?_
    have hL2 := isL_same hL1 sD
    have hD2 := sD _ _ hD
    have hp2 := sD _ _ hp
    have S2 := s1.trans sD
    generalize upd H1 D' (.lst ((due lo hi st dn).map V.int)) = H2 at *
    walk_at "g"
    refine forR2 ?_
    walk_at "g"
    refine G.newL (by simp) fun z0 H3 _ s3 hz0 => ?_
    have hD3 := s3 _ _ hD2
    refine ⟨D, z0, _, _, rfl, rfl, hD3, hz0, by simp; omega, fun r hr' => ?_⟩
    walk_at "g"
    refine ⟨r, due lo hi st dn ++ [0], rfl, SqL.of (by rw [upd_same, List.map_append]; rfl), by simp, fun mx hmx hle => ?_⟩
    have hmb : 0 ≤ mx ∧ mx ≤ 100000 := by
      rcases List.mem_append.mp hmx with h | h
      · exact due_bd b7 ⟨hm0, hmU⟩ bl h
      · rw [List.mem_singleton.mp h]; omega
    have s5 := s3.trans (G.same_new (o := .lst ((due lo hi st dn).map V.int ++ [V.int 0])) hr')
    have hL5 := isL_same hL2 s5
    have hD5 := s5 _ _ hD2
    have hp5 := s5 _ _ hp2
    have S5 := S2.trans s5
    generalize upd H3 r (.lst ((due lo hi st dn).map V.int ++ [V.int 0])) = H5 at *
    walk_at "g"
    refine forR2V (fun i σ' H' => ∃ v w : Option V, σ' = [some (.ref p), some (.ref q), some (.int n), some (.ref D), none, v, w] ∧ H' = H5) (by omega) ⟨none, none, rfl, rfl⟩ ?_ ?_
    · rintro i σ' H' hi' ⟨v, w, rfl, rfl⟩
      generalize (-20 + (i : Int)) = c
      walk_at "g"
      refine ⟨p, dx, _, rfl, hp5, fLoop_no_turn_of .., ?_⟩
      walk_at "g"
      refine ⟨p, m1, u1, e1, m2, u2, e2, st, dn, n, c, rfl, hL5, bs, hB, ?_⟩
      rw [eC, eM]
      by_cases hoff : c - lcv lo st < 0 ∨ (c - lcv lo st) % st ≠ 0 ∨ mtv lo hi st ≤ (c - lcv lo st) / st
      · rw [if_pos hoff]
        have hn : c ∉ due lo hi st dn := fun h => by
          rw [due_eq b7.1] at h
          obtain ⟨k', hk, rfl⟩ := List.mem_map.mp h
          have hk' := List.mem_range.mp hk
          have h2 := nt_mtv (lo := lo) (hi := hi) b7.1
          exact ctr_on (dn := dn) b7.1 (by omega) (by omega) hoff
        walk_at "g"
        refine ⟨D, _, rfl, .inl (SqL.of hD5), rfl, flats _, ?_⟩
        simp only [Bool.false_eq_true, if_false, inV_ints]
        walk_at "g"
        refine G.iteZ hn ?_
        walk_at "g"
        exact ⟨_, _, rfl, rfl⟩
      · rw [if_neg hoff]
        obtain ⟨j0, j1, j2⟩ := ctr_turn (lo := lo) (hi := hi) (c := c) (dn := dn) b7.1 hoff
        generalize (if dn = true then mtv lo hi st - 1 - (c - lcv lo st) / st else (c - lcv lo st) / st) = j at *
        obtain ⟨j, rfl⟩ := Int.eq_ofNat_of_zero_le j0
        have hg := due_get (dn := dn) b7.1 j1
        rw [j2] at hg
        have hy : c ∈ due lo hi st dn := List.mem_of_getElem? hg
        walk_at "g"
        refine ⟨D, _, rfl, .inl (SqL.of hD5), rfl, flats _, ?_⟩
        simp only [Bool.false_eq_true, if_false, inV_ints]
        walk_at "g"
        refine G.iteY hy ?_
        walk_at "g"
        refine ⟨_, rfl, .inl ⟨rfl, _, SqL.of hD5⟩, ?_⟩
        walk_at "g"
        refine ⟨D, _, .int c, j, .int c, rfl, rfl, SqL.of hD5, rfl, flats _, by rw [List.getElem?_map, hg]; rfl, by rw [eqV_int, beq_iff_eq], fun m' z' hm' hz' => ?_, ?_⟩
        · rw [List.getElem?_map, due_get (dn := dn) b7.1 (by omega)] at hz'
          cases hz'
          rw [eqV_int, beq_eq_false_iff_ne, ← j2]
          intro h
          have := ctr_inj b7.1 h
          omega
        walk_at "g"
        refine G.iteNY rfl ?_
        walk_at "g"
        refine ⟨_, rfl, ?_⟩
        walk_at "g"
        exact ⟨_, _, rfl, rfl⟩
    rintro σ' H' ⟨v, w, rfl, rfl⟩
    walk_at "g"
    refine lcT ?_
    walk_at "g"
    rw [hlm]
    walk_at "g"
    refine G.newT (by simp) fun tq H6 _ s6 htq => ?_
    have hL6 := isL_same hL5 s6
    have S6 := S5.trans s6
    refine ⟨tq, rfl, ⟨_, SqT.of htq⟩, ?_⟩
    refine G.lcW walk_tup (fun D2 i H'' => H6 D2 = none ∧ Same H6 H'' ∧ H'' D2 = some (.lst ((List.replicate i true).map V.bl))) (fun D2 h => ⟨h, G.same_new h, upd_same⟩) (fun _ _ _ _ h => SqT.of (h.2.1 _ _ htq)) ?_ ?_
    · rintro D2 i x Ha Hb hi2 ⟨hn2, sa, ha⟩ ⟨rfl, hx⟩
      have key : ∃ t : Int, x = .int t ∧ (t < 0 ∨ mtv lo hi st ≤ t) := by
        match i with
        | 0 => cases hx; exact ⟨_, rfl, by omega⟩
        | 1 => cases hx; exact ⟨_, rfl, by omega⟩
        | 2 => cases hx; exact ⟨_, rfl, by omega⟩
        | 3 => cases hx; exact ⟨_, rfl, by omega⟩
        | i + 4 => cases hx
      obtain ⟨t, rfl, ht⟩ := key
      walk_at "g"
      refine ⟨rfl, ?_⟩
      refine tyes ?_
      walk_at "g"
      refine ⟨p, m1, u1, e1, m2, u2, e2, st, dn, n, t, rfl, isL_same hL6 sa, bs, hB, by rw [eM]; exact ht, fun Hc sc => ?_⟩
      refine ⟨_, sc _ _ ha, ?_, hn2, ?_, ?_⟩
      · rw [List.length_map, List.length_replicate]
        have : i < 4 := hi2
        omega
      · intro b u hb
        rw [upd_ne (fun e => by rw [e, hn2] at hb; cases hb)]
        exact sc _ _ (sa _ _ hb)
      · rw [upd_same, List.replicate_succ', List.map_append]
        rfl
    · rintro D2 Ha hn2 ⟨_, sa, ha⟩
      walk_at "g"
      refine ⟨D2, _, rfl, SqL.of ha, ?_⟩
      walk_at "g"
      exact k Ha (S6.trans sa)
end
end Lw
namespace Lw
open PySem L2
theorem many_eq {f hi st : Int} (hs : 1 ≤ st) : max 0 (-((f - hi) / st)) = if hi - f ≤ 0 then 0 else (hi - f + st - 1) / st := by
  have key : ∀ x : Int, (x + st - 1) / st = -((-x) / st) := fun x => by
    have h1 := Int.emod_add_mul_ediv (x + st - 1) st
    have h2 := Int.emod_add_mul_ediv (-x) st
    have h3 := Int.emod_nonneg (x + st - 1) (show st ≠ 0 by omega)
    have h4 := Int.emod_lt_of_pos (x + st - 1) (show 0 < st by omega)
    have h5 := Int.emod_nonneg (-x) (show st ≠ 0 by omega)
    have h6 := Int.emod_lt_of_pos (-x) (show 0 < st by omega)
    generalize (x + st - 1) / st = A at *
    generalize (-x) / st = B at *
    have h7 : st * (A + B) < st * 1 := by rw [Int.mul_add]; omega
    have h8 : st * (-1) < st * (A + B) := by rw [Int.mul_add]; omega
    have h9 := Int.lt_of_mul_lt_mul_left h7 (by omega)
    have h10 := Int.lt_of_mul_lt_mul_left h8 (by omega)
    omega
  have e : (f - hi) / st = (-(hi - f)) / st := by rw [Int.neg_sub]
  rw [e]
  split
  · rename_i h
    have : 0 ≤ (-(hi - f)) / st := Int.ediv_nonneg (by omega) (by omega)
    omega
  · rename_i h
    rw [key]
    have : (-(hi - f)) / st < 0 := Int.ediv_neg_of_neg_of_pos (by omega) (by omega)
    omega
theorem len40 {m : Int} (h0 : 0 ≤ m) (h1 : m < 10 ^ 40) : (Str.ofString (toString m)).length ≤ 600 := Nat.le_trans (PyProof.Rows.toString_length_le h0 (k := 40) (by decide) h1) (by decide)
end Lw
local macro_rules | `(tactic| walk_at "hp") => `(tactic| first
  | assumption
  | exact L2.upd_same
  | (refine G.sget (by assumption) ?_; walk_at "hp")
  | (refine G.kget (by assumption) ?_ ?_; (· walk_at "hp"); (· intro _ h; cases h)))
local macro_rules | `(tactic| walk_at "s") => `(tactic| first
  | (with_reducible refine G.seq ?_)
  | (with_reducible refine G.nx ?_)
  | (with_reducible refine G.rt ?_)
  | (with_reducible refine G.next ?_)
  | (with_reducible refine G.asg ?_)
  | (with_reducible refine G.asgG ?_)
  | ((with_reducible refine' G.gtup ?h ?l ?q); (case h => walk_at "hp"); (case l => rfl))
  | (with_reducible refine G.gcons ?_)
  | (with_reducible refine G.gnil ?_)
  | (with_reducible refine G.gname ?_)
  | (with_reducible refine G.inst ?_)
  | (with_reducible refine G.refV ?_)
  | (with_reducible refine G.xf ?_)
  | ((with_reducible refine' G.xfV ?h ?l ?q); (case h => walk_at "hp"); (case l => walk_at "xk"))
  | (with_reducible refine G.ret ?_)
  | (with_reducible refine G.ifS ?_)
  | (with_reducible refine G.drop ?_)
  | ((with_reducible refine' G.var ?h ?q); (case h => rfl))
  | (with_reducible refine G.cst ?_)
  | (with_reducible refine G.op ?_)
  | (with_reducible refine G.un ?_)
  | (with_reducible refine G.I0 ?_)
  | (with_reducible refine G.U1 ?_)
  | ((with_reducible refine G.fdiv ?_ ?_ ?_); (· omega); (· omega))
  | ((with_reducible refine G.md ?_ ?_); (· omega))
  | ((with_reducible refine G.mulL ?_ ?_ ?_); (· omega); (· omega))
  | ((with_reducible refine G.mulR ?_ ?_ ?_); (· omega); (· omega))
  | ((with_reducible refine G.mulW ?_ ?_ ?_ ?_ ?_); (· omega); (· omega); (· omega); (· omega))
  | (with_reducible refine G.pow18 ?_)
  | (with_reducible refine G.pow6 ?_)
  | (with_reducible refine G.pow30 ?_)
  | (with_reducible refine G.pow29 ?_)
  | (with_reducible refine G.pow3 ?_)
  | (with_reducible refine G.eqI ?_)
  | (with_reducible refine G.neI ?_)
  | ((with_reducible refine G.eq ?_ ?_); (· rfl))
  | ((with_reducible refine G.ne ?_ ?_); (· rfl))
  | (with_reducible refine G.isN ?_)
  | (with_reducible refine G.notN ?_)
  | (with_reducible refine G.test ?_)
  | (with_reducible refine G.tBv ?_)
  | (with_reducible refine G.bl ?_)
  | (with_reducible refine G.and ?_)
  | (with_reducible refine G.or ?_)
  | (with_reducible refine G.not ?_)
  | (with_reducible refine G.andV ?_)
  | (with_reducible refine G.orV ?_)
  | (with_reducible refine G.notV ?_)
  | (with_reducible refine G.ifE ?_)
  | (with_reducible refine G.nil ?_)
  | (with_reducible refine G.cons ?_)
  | (with_reducible refine G.tup ?_)
  | (with_reducible refine G.lst ?_)
  | (with_reducible refine G.fld ?_)
  | (with_reducible refine G.call ?_)
  | (with_reducible refine G.cb ?_)
  | (with_reducible refine G.make ?_)
  | (with_reducible refine G.dget ?_)
  | (with_reducible refine G.dput ?_)
  | (with_reducible refine G.fldS ?_)
  | (with_reducible refine G.abs ?_)
  | (with_reducible refine G.max2 ?_)
  | (with_reducible refine G.min2 ?_)
  | (with_reducible refine G.int1 ?_)
  | (with_reducible refine G.own ?_)
  | (with_reducible refine G.ownR ?_)
  | (with_reducible refine G.meth ?_)
  | (with_reducible refine G.par ?_)
  | (with_reducible refine G.par3 ?_)
  | (with_reducible refine G.parV ?_)
  | (with_reducible refine G.parV3 ?_)
  | (with_reducible refine G.forR ?_)
  | (with_reducible refine G.lc3 ?_)
  | (with_reducible refine G.lc1 ?_)
  | (with_reducible refine G.forZ ?_)
  | (with_reducible refine G.forT ?_)
  | (with_reducible refine G.forL ?_)
  | (with_reducible refine G.methU ?_)
  | (with_reducible refine G.sl ?_)
  | (with_reducible refine G.noPart ?_)
  | (with_reducible refine G.part ?_)
  | (with_reducible refine G.partV ?_)
  | (with_reducible refine G.raiseE ?_)
  | (with_reducible refine G.iteT' ?_)
  | (with_reducible refine G.iteNT ?_)
  | (with_reducible refine G.iteNF ?_)
  | (with_reducible refine G.iteF' ?_)
  | ((with_reducible refine' G.dgetS ?h ?l ?q); (case h => walk_at "hp"); (case l => walk_at "dk"))
  | ((with_reducible refine' G.lenL ?h ?q); (case h => walk_at "hp"))
  | ((with_reducible refine' G.lenT ?h ?q); (case h => walk_at "hp"))
  | ((with_reducible refine' G.fldV ?h ?c ?n ?l ?q); (case h => walk_at "hp"); (case c => walk_at "cls"); (case n => walk_at "na"); (case l => walk_at "lk"))
  | ((with_reducible refine' G.fldSV ?h ?c ?n ?l ?q); (case h => walk_at "hp"); (case c => walk_at "cls"); (case n => walk_at "na"); (case l => walk_at "ln")))
local macro_rules | `(tactic| walk_at "g") => `(tactic| repeat (walk_at "s"))
namespace Lw
open PySem L2
local macro_rules | `(tactic| walk_at "cls") => `(tactic| first | exact Lw.Txt.cl_Straight (by assumption) | exact Lw.Txt.cl_Place (by assumption) | exact Lw.Txt.cl_Loop (by assumption))
local macro_rules | `(tactic| walk_at "na") => `(tactic| first | exact Lw.Txt.na_Straight_i (by assumption) | exact Lw.Txt.na_Straight_n (by assumption) | exact Lw.Txt.na_Straight_one (by assumption) | exact Lw.Txt.na_Place_straight (by assumption) | exact Lw.Txt.na_Place_divisor (by assumption) | exact Lw.Txt.na_Loop_low (by assumption) | exact Lw.Txt.na_Loop_high (by assumption) | exact Lw.Txt.na_Loop_statements (by assumption) | exact Lw.Txt.na_Loop_step (by assumption) | exact Lw.Txt.na_Loop_down (by assumption))
local macro_rules | `(tactic| walk_at "lk") => `(tactic| first | exact Lw.fStraight_i _ _ _ | exact Lw.fStraight_n _ _ _ | exact Lw.fStraight_one _ _ _ | exact Lw.fPlace_straight _ _ | exact Lw.fPlace_divisor _ _ | exact Lw.fLoop_low _ _ _ _ _ | exact Lw.fLoop_high _ _ _ _ _ | exact Lw.fLoop_statements _ _ _ _ _ | exact Lw.fLoop_step _ _ _ _ _ | exact Lw.fLoop_down _ _ _ _ _)
local macro_rules | `(tactic| walk_at "ln") => `(tactic| first | (show 0 < 1000; decide) | (show 1 < 1000; decide) | (show 2 < 1000; decide) | (show 3 < 1000; decide) | (show 4 < 1000; decide))
def spFarR (a : Ad) : Sp := fun vs H Q _ => ∃ (p lp q : Addr) (m n1 o1 d1 n2 o2 d2 st : Int) (dn : Bool), vs = [.ref p, .ref lp, .ref q] ∧ Pen H p m ∧ m ≤ 900000000 ∧ LR a H lp q n1 o1 d1 n2 o2 d2 st dn ∧ ∀ H', G.Kp H H' → Pen H' p (m + 2000) → Q (.bl true) H'
theorem isP_kp {a : Ad} {H H' : Hp} {q : Addr} {i n o d : Int} (h : IsP a H q i n o d) (s : G.Kp H H') : IsP a H' q i n o d := by
  obtain ⟨dq, s', ds, hq, hs⟩ := h
  exact ⟨dq, s', ds, s _ _ hq (by intro _ h; cases h), s _ _ hs (by intro _ h; cases h)⟩
theorem isL_kp {a : Ad} {H H' : Hp} {p : Addr} {n1 o1 d1 n2 o2 d2 st : Int} {dn : Bool} (h : IsL a H p n1 o1 d1 n2 o2 d2 st dn) (s : G.Kp H H') : IsL a H' p n1 o1 d1 n2 o2 d2 st dn := by
  obtain ⟨dx, l, h', t, h1, h2, h3⟩ := h
  exact ⟨dx, l, h', t, s _ _ h1 (by intro _ h; cases h), isP_kp h2 s, isP_kp h3 s⟩
theorem row_kp {H H' : Hp} {q : Addr} {n1 o1 d1 n2 o2 d2 st : Int} {dn : Bool} (h : Row H q n1 o1 d1 n2 o2 d2 st dn) (s : G.Kp H H') : Row H' q n1 o1 d1 n2 o2 d2 st dn := by
  obtain ⟨l, h', e, h1, h2, h3⟩ := h
  exact ⟨l, h', e, s _ _ h1 (by intro _ h; cases h), s _ _ h2 (by intro _ h; cases h), s _ _ h3 (by intro _ h; cases h)⟩
section
variable {P : Program} {w : World} {K : PySem.W.Frag} {mg : Str → Option Value} {base : Heap} {a : Ad}
theorem ok_far_right (T : Txt P K mg a) : FnOk P w K mg base CX0 6 a.a_far_right a.d_far_right ["_law_pen_here", "_law_loop", "_law_row"] (spFarR a) := by
  refine T.F_far_right.ok sc_far_right (fun vs H Q E h => ?_) (fun cdv A outer s H vs Q E hr h => ?_)
  · obtain ⟨p, lp, q, m, n1, o1, d1, n2, o2, d2, st, dn, rfl, _⟩ := h
    rfl
  · obtain ⟨p, lp, q, m, n1, o1, d1, n2, o2, d2, st, dn, rfl, pe, hm, ⟨hrow, rb, m1, u1, e1, m2, u2, e2, hL, bs, el, eh⟩, k⟩ := h
    have b7 := bs.2.2.2.2.2.2
    refine ⟨_, (pss_cons (ps_set (i := 3) sc_far_right.nd rfl (Or.inl rfl) (pe_op op_add (pe_callS (ok_big T) (hr.mono (by decide)) rfl T.g_big T.F_big.kp T.b_big pass0S (pa_cons (pv 0) (pa_cons (pe_op op_sub (pe_op op_pow pe_int pe_int) (pe_op op_pow pe_int pe_int)) pa_nil))) (pe_op op_pow pe_int pe_int)))
      (pss_cons (ps_set (i := 4) sc_far_right.nd rfl (Or.inl rfl) (pe_op op_fdiv (pe_op op_add (pe_op op_mul (pe_ix ix_tup (pe_ix ix_tup (pv 2) pe_int (fun _ _ => rfl)) pe_int (fun _ _ => rfl)) (pv 3)) (pe_ix ix_tup (pe_ix ix_tup (pv 2) pe_int (fun _ _ => rfl)) pe_int (fun _ _ => rfl))) (pe_ix ix_tup (pe_ix ix_tup (pv 2) pe_int (fun _ _ => rfl)) pe_int (fun _ _ => rfl))))
      (pss_cons (ps_set (i := 5) sc_far_right.nd rfl (Or.inl rfl) (pe_op op_fdiv (pe_op op_add (pe_op op_mul (pe_ix ix_tup (pe_ix ix_tup (pv 2) pe_int (fun _ _ => rfl)) pe_int (fun _ _ => rfl)) (pv 3)) (pe_ix ix_tup (pe_ix ix_tup (pv 2) pe_int (fun _ _ => rfl)) pe_int (fun _ _ => rfl))) (pe_ix ix_tup (pe_ix ix_tup (pv 2) pe_int (fun _ _ => rfl)) pe_int (fun _ _ => rfl))))
      (Evl.pss_cut (ps_set (i := 6) sc_far_right.nd rfl (Or.inl rfl) (pe_ifExp (pt_cmpR op_ge (pv 4) pe_int (nomark _)) (pv 4) (pe_op op_mod (pe_callTy G.cInt1 (by rfl) T.n_int (by decide +kernel) (pa_cons (pv 4) pa_nil)) (pe_ix ix_tup (pv 2) pe_int (fun _ _ => rfl)))))
      (pss_cons (ps_set (i := 7) sc_far_right.nd rfl (Or.inl rfl) (pe_callB (G.cMax2 rfl) (by rfl) T.n_max (by decide +kernel) (pa_cons pe_int (pa_cons (pe_un un_neg (pe_op op_fdiv (pe_op op_sub (pv 6) (pv 5)) (pe_ix ix_tup (pv 2) pe_int (fun _ _ => rfl)))) pa_nil))))
      (pss_cons (ps_if (PW.pt (pw_or (pt_cmpR op_ne (pe_methZ (pv 1) T.cl_Loop T.m_Loop_many_turns (ok_Loop_many_turns T) (hr.mono (by decide)) T.b_Loop_many_turns pass0S (pa_cons (pv 3) pa_nil)) (pv 7) (nomark _)) (pw_or1 (pt_cmpR op_ne (pe_methZ (pv 1) T.cl_Loop T.m_Loop_least_counter (ok_Loop_least_counter T) (hr.mono (by decide)) T.b_Loop_least_counter pass0S (pa_cons (pv 3) pa_nil)) (pv 6) (nomark _))))) (pss_one (ps_ret pe_bl)) pss_nil)
      (pss_cons (ps_if (PW.pt (pw_or (pt_cmpR G.oNotN (pe_methZ (pv 1) T.cl_Loop T.m_Loop_turn_of (ok_Loop_turn_of T) (hr.mono (by decide)) T.b_Loop_turn_of pass0S (pa_cons (pv 3) (pa_cons (pe_op op_sub (pv 6) (pe_ix ix_tup (pv 2) pe_int (fun _ _ => rfl))) pa_nil))) pe_non (nomark _)) (pw_or1 (pt_cmpR G.oNotN (pe_methZ (pv 1) T.cl_Loop T.m_Loop_turn_of (ok_Loop_turn_of T) (hr.mono (by decide)) T.b_Loop_turn_of pass0S (pa_cons (pv 3) (pa_cons (pe_op op_add (pv 6) (pe_op op_mul (pe_ix ix_tup (pv 2) pe_int (fun _ _ => rfl)) (pv 7))) pa_nil))) pe_non (nomark _))))) (pss_one (ps_ret pe_bl)) pss_nil)
      (pss_cons (ps_if (PW.pt (pw_or (pt_not (pt_val (pe_callS (ok_refused_turn T) (hr.mono (by decide)) rfl T.g_refused_turn T.F_refused_turn.kp T.b_refused_turn pass0S (pa_cons (pv 1) (pa_cons (pv 3) (pa_cons (pv 7) pa_nil)))))) (pw_or1 (pt_not (pt_val (pe_callS (ok_refused_turn T) (hr.mono (by decide)) rfl T.g_refused_turn T.F_refused_turn.kp T.b_refused_turn pass0S (pa_cons (pv 1) (pa_cons (pv 3) (pa_cons (pe_un un_neg pe_int) pa_nil))))))))) (pss_one (ps_ret pe_bl)) pss_nil)
      (pss_cons (ps_if (pt_cmpR op_eq (pv 7) pe_int (nomark _)) (pss_one (ps_ret pe_bl)) pss_nil)
      (pss_cons (ps_for PassesOwn.never rfl (pi_tup (pe_tup (pa_cons pe_int (pa_cons (pe_op op_sub (pv 7) pe_int) (pa_cons (pe_callS (ok_big T) (hr.mono (by decide)) rfl T.g_big T.F_big.kp T.b_big pass0S (pa_cons (pv 0) (pa_cons (pv 7) pa_nil))) pa_nil))))) (pg_name (i := 8) sc_far_right.nd rfl (Or.inl rfl))
      (pss_cons (ps_set (i := 9) sc_far_right.nd rfl (Or.inl rfl) (pe_op op_add (pv 6) (pe_op op_mul (pe_ix ix_tup (pv 2) pe_int (fun _ _ => rfl)) (pe_ifExp (pt_val (pe_ix ix_tup (pv 2) pe_int (fun _ _ => rfl))) (pe_op op_sub (pe_op op_sub (pv 7) pe_int) (pv 8)) (pv 8)))))
      (pss_cons (ps_if (PW.pt (pw_or (pt_cmpR op_ne (pe_methZ (pv 1) T.cl_Loop T.m_Loop_counter_of (ok_Loop_counter_of T) (hr.mono (by decide)) T.b_Loop_counter_of passLS (pa_cons (pv 3) (pa_cons (pv 8) pa_nil))) (pv 9) (nomark _)) (pw_or1 (pt_cmpR op_ne (pe_methZ (pv 1) T.cl_Loop T.m_Loop_turn_of (ok_Loop_turn_of T) (hr.mono (by decide)) T.b_Loop_turn_of pass0S (pa_cons (pv 3) (pa_cons (pv 9) pa_nil))) (pv 8) (nomark _))))) (pss_one (ps_ret pe_bl)) pss_nil)
      (pss_one (ps_if (PW.pt (pw_and (pt_cmpR op_gt (pe_ix ix_tup (pv 2) pe_int (fun _ _ => rfl)) pe_int (nomark _)) (pw_and1 (pt_cmpR G.oNotN (pe_methZ (pv 1) T.cl_Loop T.m_Loop_turn_of (ok_Loop_turn_of T) (hr.mono (by decide)) T.b_Loop_turn_of pass0S (pa_cons (pv 3) (pa_cons (pe_op op_add (pv 9) pe_int) pa_nil))) pe_non (nomark _))))) (pss_one (ps_ret pe_bl)) pss_nil)))))
      (pss_one (ps_ret pe_bl)))))))))))), ?_⟩
    walk_at "g"
    refine ⟨p, _, m, rfl, pe, by omega, by decide +kernel, by decide +kernel, by decide +kernel, fun r H1 k1 pe1 r0 r1 => ?_⟩
    obtain ⟨n, rfl⟩ : ∃ n, r = n - 1000 := ⟨r + 1000, by omega⟩
    have hL1 := isL_kp hL k1
    obtain ⟨l, hh, ee, hq, hl, hhh⟩ := row_kp hrow k1
    obtain ⟨b1, b2, b3, b4, b5, b6, b7', b8⟩ := rb
    have en : n - 1000 + 1000 = n := by omega
    walk_at "g"
    rw [en]
    have hB : B31 n := ⟨by omega, by omega⟩
    walk_at "g"
    refine G.ixT hq (rfl : atI _ 0 = some (.ref l)) ?_
    walk_at "g"
    refine G.ixT hl (rfl : atI _ 0 = some (.int n1)) ?_
    walk_at "g"
    refine G.ixT hq (rfl : atI _ 0 = some (.ref l)) ?_
    walk_at "g"
    refine G.ixT hl (rfl : atI _ 1 = some (.int o1)) ?_
    walk_at "g"
    refine G.ixT hq (rfl : atI _ 0 = some (.ref l)) ?_
    walk_at "g"
    refine G.ixT hl (rfl : atI _ 2 = some (.int d1)) ?_
    walk_at "g"
    refine G.ixT hq (rfl : atI _ 1 = some (.ref hh)) ?_
    walk_at "g"
    refine G.ixT hhh (rfl : atI _ 0 = some (.int n2)) ?_
    walk_at "g"
    refine G.ixT hq (rfl : atI _ 1 = some (.ref hh)) ?_
    walk_at "g"
    refine G.ixT hhh (rfl : atI _ 1 = some (.int o2)) ?_
    walk_at "g"
    refine G.ixT hq (rfl : atI _ 1 = some (.ref hh)) ?_
    walk_at "g"
    refine G.ixT hhh (rfl : atI _ 2 = some (.int d2)) ?_
    walk_at "g"
    have eC : lc m1 u1 e1 st n = lcv ((n1 * n + o1) / d1) st := by unfold lc lcv; rw [el]
    have eM : mt m1 u1 e1 m2 u2 e2 st n = mtv ((n1 * n + o1) / d1) ((n2 * n + o2) / d2) st := by unfold mt mtv; rw [eC, eh]
    have bl : -4000000000000000000000000000000 ≤ (n1 * n + o1) / d1 ∧ (n1 * n + o1) / d1 ≤ 4000000000000000000000000000000 := by
      have : 0 ≤ n1 * n ∧ n1 * n ≤ 1000000000000000000000000000000 := by
        have h : n1 = 0 ∨ n1 = 1 := by omega
        rcases h with rfl | rfl <;> constructor <;> omega
      exact ediv_abs (by omega) ⟨by omega, by omega⟩ (by omega)
    have bh : -4000000000000000000000000000000 ≤ (n2 * n + o2) / d2 ∧ (n2 * n + o2) / d2 ≤ 4000000000000000000000000000000 := by
      have : 0 ≤ n2 * n ∧ n2 * n ≤ 3000000000000000000000000000000 := by
        have h : n2 = 0 ∨ n2 = 1 ∨ n2 = 2 ∨ n2 = 3 := by omega
        rcases h with rfl | rfl | rfl | rfl <;> constructor <;> omega
      exact ediv_abs (by omega) ⟨by omega, by omega⟩ (by omega)
    generalize (n1 * n + o1) / d1 = lo at *
    generalize (n2 * n + o2) / d2 = hi at *
    refine G.cut (fun σ' H' => σ' = [some (.ref p), some (.ref lp), some (.ref q), some (.int n), some (.int lo), some (.int hi), some (.int (lcv lo st)), none, none, none] ∧ H' = H1) ?_ ?_
    · walk_at "g"
      unfold lcv
      refine G.ite (fun h1 => ?_) (fun h1 => ?_)
      · rw [if_pos h1]
        walk_at "g"
        exact ⟨rfl, rfl⟩
      · rw [if_neg h1]
        walk_at "g"
        refine G.ixT hq (rfl : atI _ 2 = some (.int st)) ?_
        walk_at "g"
        exact ⟨rfl, rfl⟩
    rintro σ' H' ⟨rfl, rfl⟩
    walk_at "g"
    refine G.ixT hq (rfl : atI _ 2 = some (.int st)) ?_
    walk_at "g"
    have eMv : max 0 (-((lcv lo st - hi) / st)) = mtv lo hi st := many_eq b7.1
    rw [eMv]
    have hL0 := hL1
    obtain ⟨dx, l', hi', tt, hp, hl', hhh'⟩ := hL1
    have hm0 := mtv_nonneg (lo := lo) (hi := hi) b7.1
    refine ⟨lp, dx, _, rfl, hp, fLoop_no_many_turns .., ?_⟩
    walk_at "g"
    refine ⟨lp, m1, u1, e1, m2, u2, e2, st, dn, n, rfl, hL0, bs, hB, ?_⟩
    rw [eM]
    walk_at "g"
    refine G.iteNY rfl ?_
    walk_at "g"
    refine ⟨lp, dx, _, rfl, hp, fLoop_no_least_counter .., ?_⟩
    walk_at "g"
    refine ⟨lp, m1, u1, e1, m2, u2, e2, st, dn, n, rfl, hL0, bs, hB, ?_⟩
    rw [eC]
    walk_at "g"
    refine G.iteNY rfl ?_
    walk_at "g"
    refine ⟨lp, dx, _, rfl, hp, fLoop_no_turn_of .., ?_⟩
    walk_at "g"
    refine G.ixT hq (rfl : atI _ 2 = some (.int st)) ?_
    walk_at "g"
    refine ⟨lp, m1, u1, e1, m2, u2, e2, st, dn, n, _, rfl, hL0, bs, hB, ?_⟩
    rw [eC, eM, if_pos (.inl (by omega))]
    walk_at "g"
    refine G.iteNY rfl ?_
    walk_at "g"
    refine ⟨lp, dx, _, rfl, hp, fLoop_no_turn_of .., ?_⟩
    walk_at "g"
    refine G.ixT hq (rfl : atI _ 2 = some (.int st)) ?_
    walk_at "g"
    refine ⟨lp, m1, u1, e1, m2, u2, e2, st, dn, n, _, rfl, hL0, bs, hB, ?_⟩
    rw [eC, eM, if_pos (.inr (.inr (by rw [show lcv lo st + st * mtv lo hi st - lcv lo st = st * mtv lo hi st by omega, Int.mul_ediv_cancel_left _ (by omega)]; omega)))]
    walk_at "g"
    refine G.iteNY rfl ?_
    walk_at "g"
    refine ⟨lp, m1, u1, e1, m2, u2, e2, st, dn, n, _, rfl, hL0, bs, hB, .inr (by rw [eM]; omega), fun H2 s2 => ?_⟩
    have hL2 := isL_same hL0 s2
    walk_at "g"
    refine ⟨lp, m1, u1, e1, m2, u2, e2, st, dn, n, _, rfl, hL2, bs, hB, .inl (by omega), fun H3 s3 => ?_⟩
    have hL3 := isL_same hL2 s3
    have hq3 := s3 _ _ (s2 _ _ hq)
    have K3 := (k1.then s2).then s3
    have pe3 := (pe1.same s2).same s3
    walk_at "g"
    refine G.ite (fun h0 => ?_) (fun h0 => ?_)
    · walk_at "g"
      exact k H3 K3 (pe3.mono (by omega))
    walk_at "g"
    have hmU : mtv lo hi st ≤ 5000000000000000000000000000000 := by
      have h3 := lcv_nonneg (lo := lo) b7.1
      unfold mtv
      split
      · omega
      · have : (hi - lcv lo st + st - 1) / st ≤ hi - lcv lo st + st - 1 := Int.ediv_le_self _ (by omega)
        omega
    have hlog : (mtv lo hi st).natAbs.log2 < 1920 := by
      rw [Nat.log2_lt (by omega)]
      have : (5000000000000000000000000000000 : Nat) < 2 ^ 1920 := by decide +kernel
      omega
    refine ⟨p, _, m + 1000, rfl, pe3, by omega, by omega, hlog, len40 hm0 (by omega), fun r2 H4 k4 pe4 r20 r21 => ?_⟩
    have hL4 := isL_kp hL3 k4
    have hq4 := k4 _ _ hq3 (by intro _ h; cases h)
    have K4 := K3.trans k4
    walk_at "g"
    refine G.newT (by simp) fun tq H5 _ s5 htq => ?_
    have hL5 := isL_same hL4 s5
    have hL5' := hL5
    obtain ⟨dx5, l5, hi5, tt5, hp5, hl5, hhh5⟩ := hL5'
    have hq5 := s5 _ _ hq4
    have key : ∀ (j : Nat) (x : V), [V.int 0, .int (mtv lo hi st - 1), .int r2][j]? = some x → ∃ kk : Int, x = .int kk ∧ 0 ≤ kk ∧ kk < mtv lo hi st := by
      intro j x hx
      match j with
      | 0 => cases hx; exact ⟨_, rfl, by omega, by omega⟩
      | 1 => cases hx; exact ⟨_, rfl, by omega, by omega⟩
      | 2 => cases hx; exact ⟨_, rfl, by omega, by omega⟩
      | j + 3 => cases hx
    walk_at "g"
    refine G.forT1 (fun j σ' H' => ∃ u v : Option V, σ' = [some (.ref p), some (.ref lp), some (.ref q), some (.int n), some (.int lo), some (.int hi), some (.int (lcv lo st)), some (.int (mtv lo hi st)), u, v] ∧ H' = H5) htq ⟨none, none, rfl, rfl⟩ (fun j σ' H' ⟨u, v, _, e⟩ => e ▸ htq) ?_ ?_
    · rintro j x σ' H' gx ⟨u, v, rfl, rfl⟩
      obtain ⟨kk, rfl, k0, k1'⟩ := key j x gx
      walk_at "g"
      refine G.ixT hq5 (rfl : atI _ 2 = some (.int st)) ?_
      walk_at "g"
      refine G.ixT hq5 (rfl : atI _ 3 = some (.bl dn)) ?_
      refine ⟨dn, rfl, ?_⟩
      have on := ctr_on (dn := dn) b7.1 k0 k1'
      obtain ⟨t0, t1, t2⟩ := ctr_turn (dn := dn) b7.1 on
      have t3 := ctr_inj b7.1 t2
      have off1 : 1 < st → Off lo hi st (ctr lo hi st dn kk + 1) := fun h1 => by
        refine .inr (.inl ?_)
        unfold ctr
        generalize (if dn = true then mtv lo hi st - 1 - kk else kk) = jj
        rw [show lcv lo st + st * jj + 1 - lcv lo st = 1 + st * jj by omega, Int.add_mul_emod_self_left, Int.emod_eq_of_lt (by omega) h1]
        omega
      unfold Off at on off1
      cases dn with
      | true =>
        walk_at "g"
        refine ⟨lp, dx5, _, rfl, hp5, fLoop_no_counter_of .., ?_⟩
        walk_at "g"
        refine ⟨lp, m1, u1, e1, m2, u2, e2, st, true, n, _, rfl, hL5, bs, hB, fun h => by rw [eM] at h; omega, fun _ => ?_⟩
        rw [eC, eM]
        walk_at "g"
        refine G.iteNY rfl ?_
        walk_at "g"
        refine ⟨lp, dx5, _, rfl, hp5, fLoop_no_turn_of .., ?_⟩
        walk_at "g"
        refine ⟨lp, m1, u1, e1, m2, u2, e2, st, true, n, ctr lo hi st true kk, rfl, hL5, bs, hB, ?_⟩
        rw [eC, eM, if_neg on, t3]
        walk_at "g"
        refine G.iteNY rfl ?_
        walk_at "g"
        refine G.ixT hq5 (rfl : atI _ 2 = some (.int st)) ?_
        walk_at "g"
        refine G.ite (fun h1 => ?_) (fun h1 => ?_)
        · walk_at "g"
          refine ⟨lp, dx5, _, rfl, hp5, fLoop_no_turn_of .., ?_⟩
          walk_at "g"
          refine ⟨lp, m1, u1, e1, m2, u2, e2, st, true, n, ctr lo hi st true kk + 1, rfl, hL5, bs, hB, ?_⟩
          rw [eC, eM, if_pos (off1 h1)]
          walk_at "g"
          refine G.iteNY rfl ?_
          walk_at "g"
          exact ⟨_, _, rfl, rfl⟩
        · walk_at "g"
          exact ⟨_, _, rfl, rfl⟩
      | false =>
        walk_at "g"
        refine ⟨lp, dx5, _, rfl, hp5, fLoop_no_counter_of .., ?_⟩
        walk_at "g"
        refine ⟨lp, m1, u1, e1, m2, u2, e2, st, false, n, _, rfl, hL5, bs, hB, fun h => by rw [eM] at h; omega, fun _ => ?_⟩
        rw [eC, eM]
        walk_at "g"
        refine G.iteNY rfl ?_
        walk_at "g"
        refine ⟨lp, dx5, _, rfl, hp5, fLoop_no_turn_of .., ?_⟩
        walk_at "g"
        refine ⟨lp, m1, u1, e1, m2, u2, e2, st, false, n, ctr lo hi st false kk, rfl, hL5, bs, hB, ?_⟩
        rw [eC, eM, if_neg on, t3]
        walk_at "g"
        refine G.iteNY rfl ?_
        walk_at "g"
        refine G.ixT hq5 (rfl : atI _ 2 = some (.int st)) ?_
        walk_at "g"
        refine G.ite (fun h1 => ?_) (fun h1 => ?_)
        · walk_at "g"
          refine ⟨lp, dx5, _, rfl, hp5, fLoop_no_turn_of .., ?_⟩
          walk_at "g"
          refine ⟨lp, m1, u1, e1, m2, u2, e2, st, false, n, ctr lo hi st false kk + 1, rfl, hL5, bs, hB, ?_⟩
          rw [eC, eM, if_pos (off1 h1)]
          walk_at "g"
          refine G.iteNY rfl ?_
          walk_at "g"
          exact ⟨_, _, rfl, rfl⟩
        · walk_at "g"
          exact ⟨_, _, rfl, rfl⟩
    · rintro σ' H' ⟨u, v, rfl, rfl⟩
      walk_at "g"
      exact k H' (K4.then s5) ((pe4.same s5).mono (by omega))
end
end Lw
local macro_rules | `(tactic| walk_at "hp") => `(tactic| first
  | assumption
  | exact L2.upd_same
  | (refine G.sget (by assumption) ?_; walk_at "hp")
  | (refine G.kget (by assumption) ?_ ?_; (· walk_at "hp"); (· intro _ h; cases h)))
local macro_rules | `(tactic| walk_at "s") => `(tactic| first
  | (with_reducible refine G.seq ?_)
  | (with_reducible refine G.nx ?_)
  | (with_reducible refine G.rt ?_)
  | (with_reducible refine G.next ?_)
  | (with_reducible refine G.asg ?_)
  | (with_reducible refine G.asgG ?_)
  | ((with_reducible refine' G.gtup ?h ?l ?q); (case h => walk_at "hp"); (case l => rfl))
  | (with_reducible refine G.gcons ?_)
  | (with_reducible refine G.gnil ?_)
  | (with_reducible refine G.gname ?_)
  | (with_reducible refine G.inst ?_)
  | (with_reducible refine G.refV ?_)
  | (with_reducible refine G.xf ?_)
  | ((with_reducible refine' G.xfV ?h ?l ?q); (case h => walk_at "hp"); (case l => walk_at "xk"))
  | (with_reducible refine G.ret ?_)
  | (with_reducible refine G.ifS ?_)
  | (with_reducible refine G.drop ?_)
  | ((with_reducible refine' G.var ?h ?q); (case h => rfl))
  | (with_reducible refine G.cst ?_)
  | (with_reducible refine G.op ?_)
  | (with_reducible refine G.un ?_)
  | (with_reducible refine G.I0 ?_)
  | (with_reducible refine G.U1 ?_)
  | ((with_reducible refine G.fdiv ?_ ?_ ?_); (· omega); (· omega))
  | ((with_reducible refine G.md ?_ ?_); (· omega))
  | ((with_reducible refine G.mulL ?_ ?_ ?_); (· omega); (· omega))
  | ((with_reducible refine G.mulR ?_ ?_ ?_); (· omega); (· omega))
  | ((with_reducible refine G.mulW ?_ ?_ ?_ ?_ ?_); (· omega); (· omega); (· omega); (· omega))
  | (with_reducible refine G.pow18 ?_)
  | (with_reducible refine G.pow6 ?_)
  | (with_reducible refine G.pow30 ?_)
  | (with_reducible refine G.pow29 ?_)
  | (with_reducible refine G.pow3 ?_)
  | (with_reducible refine G.eqI ?_)
  | (with_reducible refine G.neI ?_)
  | ((with_reducible refine G.eq ?_ ?_); (· rfl))
  | ((with_reducible refine G.ne ?_ ?_); (· rfl))
  | (with_reducible refine G.isN ?_)
  | (with_reducible refine G.notN ?_)
  | (with_reducible refine G.test ?_)
  | (with_reducible refine G.tBv ?_)
  | (with_reducible refine G.bl ?_)
  | (with_reducible refine G.and ?_)
  | (with_reducible refine G.or ?_)
  | (with_reducible refine G.not ?_)
  | (with_reducible refine G.andV ?_)
  | (with_reducible refine G.orV ?_)
  | (with_reducible refine G.notV ?_)
  | (with_reducible refine G.ifE ?_)
  | (with_reducible refine G.nil ?_)
  | (with_reducible refine G.cons ?_)
  | (with_reducible refine G.tup ?_)
  | (with_reducible refine G.lst ?_)
  | (with_reducible refine G.fld ?_)
  | (with_reducible refine G.call ?_)
  | (with_reducible refine G.cb ?_)
  | (with_reducible refine G.make ?_)
  | (with_reducible refine G.dget ?_)
  | (with_reducible refine G.dput ?_)
  | (with_reducible refine G.fldS ?_)
  | (with_reducible refine G.abs ?_)
  | (with_reducible refine G.max2 ?_)
  | (with_reducible refine G.min2 ?_)
  | (with_reducible refine G.int1 ?_)
  | (with_reducible refine G.own ?_)
  | (with_reducible refine G.ownR ?_)
  | (with_reducible refine G.meth ?_)
  | (with_reducible refine G.par ?_)
  | (with_reducible refine G.par3 ?_)
  | (with_reducible refine G.parV ?_)
  | (with_reducible refine G.parV3 ?_)
  | (with_reducible refine G.forR ?_)
  | (with_reducible refine G.lc3 ?_)
  | (with_reducible refine G.lc1 ?_)
  | (with_reducible refine G.forZ ?_)
  | (with_reducible refine G.forT ?_)
  | (with_reducible refine G.forL ?_)
  | (with_reducible refine G.methU ?_)
  | (with_reducible refine G.sl ?_)
  | (with_reducible refine G.noPart ?_)
  | (with_reducible refine G.part ?_)
  | (with_reducible refine G.partV ?_)
  | (with_reducible refine G.raiseE ?_)
  | (with_reducible refine G.iteT' ?_)
  | (with_reducible refine G.iteNT ?_)
  | (with_reducible refine G.iteNF ?_)
  | (with_reducible refine G.iteF' ?_)
  | ((with_reducible refine' G.dgetS ?h ?l ?q); (case h => walk_at "hp"); (case l => walk_at "dk"))
  | ((with_reducible refine' G.lenL ?h ?q); (case h => walk_at "hp"))
  | ((with_reducible refine' G.lenT ?h ?q); (case h => walk_at "hp"))
  | ((with_reducible refine' G.fldV ?h ?c ?n ?l ?q); (case h => walk_at "hp"); (case c => walk_at "cls"); (case n => walk_at "na"); (case l => walk_at "lk"))
  | ((with_reducible refine' G.fldSV ?h ?c ?n ?l ?q); (case h => walk_at "hp"); (case c => walk_at "cls"); (case n => walk_at "na"); (case l => walk_at "ln")))
local macro_rules | `(tactic| walk_at "g") => `(tactic| repeat (walk_at "s"))
namespace Lw
open PySem L2
local macro_rules | `(tactic| walk_at "cls") => `(tactic| first | exact Lw.Txt.cl_Straight (by assumption) | exact Lw.Txt.cl_Place (by assumption) | exact Lw.Txt.cl_Loop (by assumption))
local macro_rules | `(tactic| walk_at "na") => `(tactic| first | exact Lw.Txt.na_Straight_i (by assumption) | exact Lw.Txt.na_Straight_n (by assumption) | exact Lw.Txt.na_Straight_one (by assumption) | exact Lw.Txt.na_Place_straight (by assumption) | exact Lw.Txt.na_Place_divisor (by assumption) | exact Lw.Txt.na_Loop_low (by assumption) | exact Lw.Txt.na_Loop_high (by assumption) | exact Lw.Txt.na_Loop_statements (by assumption) | exact Lw.Txt.na_Loop_step (by assumption) | exact Lw.Txt.na_Loop_down (by assumption))
local macro_rules | `(tactic| walk_at "lk") => `(tactic| first | exact Lw.fStraight_i _ _ _ | exact Lw.fStraight_n _ _ _ | exact Lw.fStraight_one _ _ _ | exact Lw.fPlace_straight _ _ | exact Lw.fPlace_divisor _ _ | exact Lw.fLoop_low _ _ _ _ _ | exact Lw.fLoop_high _ _ _ _ _ | exact Lw.fLoop_statements _ _ _ _ _ | exact Lw.fLoop_step _ _ _ _ _ | exact Lw.fLoop_down _ _ _ _ _)
local macro_rules | `(tactic| walk_at "ln") => `(tactic| first | (show 0 < 1000; decide) | (show 1 < 1000; decide) | (show 2 < 1000; decide) | (show 3 < 1000; decide) | (show 4 < 1000; decide))
theorem gP_dvd_i {i n d : Int} : gP i n d ∣ i := Int.dvd_trans (Int.gcd_dvd_right ..) (Int.gcd_dvd_left ..)
theorem gP_dvd_n {i n d : Int} : gP i n d ∣ n := Int.dvd_trans (Int.gcd_dvd_right ..) (Int.gcd_dvd_right ..)
theorem ediv_add {g q o : Int} (hg : 0 < g) : (g * q + o) / g = q + o / g := by
  rw [Int.add_comm, Int.add_mul_ediv_left _ _ (by omega), Int.add_comm]
theorem val_least {i n o d x y : Int} (hd : 1 ≤ d) : (i / gP i n d * x + n / gP i n d * y + o / gP i n d) / (d / gP i n d) = (i * x + n * y + o) / d := by
  have hg := gP_pos (i := i) (n := n) hd
  obtain ⟨i', hi⟩ := gP_dvd_i (i := i) (n := n) (d := d)
  obtain ⟨n', hn⟩ := gP_dvd_n (i := i) (n := n) (d := d)
  obtain ⟨d', hd'⟩ := gP_dvd (i := i) (n := n) (d := d)
  generalize hgg : gP i n d = g at *
  have e1 : i / g = i' := by rw [hi, Int.mul_ediv_cancel_left _ (by omega)]
  have e2 : n / g = n' := by rw [hn, Int.mul_ediv_cancel_left _ (by omega)]
  have e3 : d / g = d' := by rw [hd', Int.mul_ediv_cancel_left _ (by omega)]
  rw [e1, e2, e3]
  have e4 : (i * x + n * y + o) / d = (i * x + n * y + o) / g / d' := by rw [hd', Int.ediv_ediv_of_nonneg (by omega)]
  have e5 : i * x + n * y + o = g * (i' * x + n' * y) + o := by rw [hi, hn, Int.mul_add, Int.mul_assoc, Int.mul_assoc]
  rw [e4, e5, ediv_add hg]
section
variable {P : Program} {w : World} {K : PySem.W.Frag} {mg : Str → Option Value} {base : Heap} {a : Ad}
/-- a new loop -/
theorem mkL {E : XK} {H : Hp} {Q : VK} {yl yh : V} {t : Addr} {st : Int} {dn : Bool} {n1 o1 d1 n2 o2 d2 : Int} (hl : PVal a H yl n1 o1 d1) (hh : PVal a H yh n2 o2 d2) (ht : NoSt H t)
    (b : Bs n1 o1 d1 n2 o2 d2 st) (b8 : 1 < st → d1 = 1) (k : ∀ p H', Same H H' → IsL a H' p n1 o1 d1 n2 o2 d2 st dn → Q (.ref p) H') (x dx : Addr) (hx : H x = none) (hdx : H dx = none) :
    spLInit a [.ref x, yl, yh, .ref t, .int st, .bl dn] (upd (upd H dx (.own x)) x (.ins a.C_Loop dx [])) (fun v H3 => v = .non ∧ Q (.ref x) H3) E := by
  have s0 := same_made0 (C := a.C_Loop) hx hdx
  obtain ⟨b1, b2, b3, b4, b5, b6, b7⟩ := b
  refine ⟨x, dx, yl, yh, t, st, dn, n1, o1, d1, n2, o2, d2, rfl, upd_same, pval_same hl s0, pval_same hh s0, nost_same ht s0, b1, b2, b3, b4, b5, b6, b7, b8, fun H' e hL => ⟨rfl, k x H' (fun c u hc => ?_) hL⟩⟩
  exact e _ _ (s0 _ _ hc) (ne_of_none hc hx)
def rMK (C : Addr) (n m : Nat) (sp : Sp) (gV : List V → List V → List V) (E : XK) (vs zs : List V) (H2 : Hp) (Q : VK) : Prop := vs.length = n ∧ zs.length = m ∧ ∀ x dx, H2 x = none → H2 dx = none → dx ≠ x →
  sp (gV (.ref x :: vs) zs) (upd (upd H2 dx (.own x)) x (.ins C dx [])) (fun v H3 => v = .non ∧ Q (.ref x) H3) E
theorem makeK {C : Addr} {n m : Nat} {sp : Sp} {gV : List V → List V → List V} {E : L2.St → XK} {t tk : TA} {σ : L2.St} {H : Hp} {Q : VK} (q : t σ H fun vs H1 => tk σ H1 fun zs H2 => rMK C n m sp gV (E σ) vs zs H2 Q) : tMakeKS C n m sp gV E t tk σ H Q := q
theorem mkLK {n m : Nat} {gV : List V → List V → List V} {vs zs : List V} {E : XK} {H : Hp} {Q : VK} {yl yh : V} {t : Addr} {st : Int} {dn : Bool} {n1 o1 d1 n2 o2 d2 : Int} (hg : ∀ x, gV (.ref x :: vs) zs = [.ref x, yl, yh, .ref t, .int st, .bl dn]) (e1 : vs.length = n) (e2 : zs.length = m)
    (hl : PVal a H yl n1 o1 d1) (hh : PVal a H yh n2 o2 d2) (ht : NoSt H t) (b : Bs n1 o1 d1 n2 o2 d2 st) (b8 : 1 < st → d1 = 1) (k : ∀ p H', Same H H' → IsL a H' p n1 o1 d1 n2 o2 d2 st dn → Q (.ref p) H') : rMK a.C_Loop n m (spLInit a) gV E vs zs H Q :=
  ⟨e1, e2, fun x dx hx hdx _ => by rw [hg]; exact mkL hl hh ht b b8 k x dx hx hdx⟩
theorem gP0_le {n d : Int} (hd : 1 ≤ d) : 1 ≤ gP 0 n d ∧ gP 0 n d ≤ d := ⟨gP_pos hd, gP_le hd⟩
theorem red {n1 o1 d1 n : Int} (hd : 1 ≤ d1) : (n1 / gP 0 n1 d1 * n + o1 / gP 0 n1 d1) / (d1 / gP 0 n1 d1) = (n1 * n + o1) / d1 := by
  have := val_least (i := 0) (n := n1) (o := o1) (d := d1) (x := 0) (y := n) hd
  rw [Int.mul_zero, Int.zero_add, Int.mul_zero, Int.zero_add] at this
  exact this
theorem zdiv {g : Int} : 0 / g = 0 := Int.zero_ediv g
theorem redB {n o d g : Int} (hg : 1 ≤ g ∧ g ≤ d) (hn : 0 ≤ n ∧ n ≤ 3) (ho : -999 ≤ o ∧ o ≤ 999) (hd : 1 ≤ d ∧ d ≤ 3) : (0 ≤ n / g ∧ n / g ≤ 3) ∧ (-999 ≤ o / g ∧ o / g ≤ 999) ∧ (1 ≤ d / g ∧ d / g ≤ 3) := by
  have h : g = 1 ∨ g = 2 ∨ g = 3 := by omega
  rcases h with rfl | rfl | rfl <;> omega
theorem lr_kp {H H' : Hp} {p q : Addr} {n1 o1 d1 n2 o2 d2 st : Int} {dn : Bool} (h : LR a H p q n1 o1 d1 n2 o2 d2 st dn) (s : G.Kp H H') : LR a H' p q n1 o1 d1 n2 o2 d2 st dn := by
  obtain ⟨h1, h2, m1, u1, e1, m2, u2, e2, h3, h4, h5, h6⟩ := h
  exact ⟨row_kp h1 s, h2, m1, u1, e1, m2, u2, e2, isL_kp h3 s, h4, h5, h6⟩
def spLaw (K : PySem.W.Frag) : Sp := fun vs H Q _ => ∃ (s : Addr) (ns : List Int), vs = [.ref s] ∧ SqL K H s (ns.map V.int) ∧ ∀ H', Q (.bl true) H'
theorem ok_law (T : Txt P K mg a) : FnOk P w K mg base CX0 9 a.a_law a.d_law ["_law_script"] (spLaw K) := by
  refine T.F_law.ok sc_law (fun vs H Q E h => ?_) (fun cdv A outer s H vs Q E hr h => ?_)
  · obtain ⟨s, ns, rfl, _⟩ := h
    rfl
  · obtain ⟨sc, ns, rfl, hs, k⟩ := h
    refine ⟨_, (pss_cons (ps_set (i := 1) sc_law.nd rfl (Or.inl rfl) (pe_callS (ok_pen T) (hr.mono (by decide)) rfl T.g_pen T.F_pen.kp T.b_pen pass0S (pa_cons (pv 0) pa_nil)))
      (pss_cons (ps_for PassesOwn.never rfl (pi_range1 (by rfl) T.n_range (pa_cons (pe_op op_add pe_int (pe_callS (ok_draw T) (hr.mono (by decide)) rfl T.g_draw T.F_draw.kp T.b_draw pass0S (pa_cons (pv 1) (pa_cons pe_int pa_nil)))) pa_nil)) (pg_name (i := 2) sc_law.nd rfl (Or.inl rfl))
      (pss_cons (ps_set (i := 3) sc_law.nd rfl (Or.inl rfl) (pe_callS (ok_range_row T) (hr.mono (by decide)) rfl T.g_range_row T.F_range_row.kp T.b_range_row pass0S (pa_cons (pv 1) pa_nil)))
      (pss_cons (ps_set (i := 4) sc_law.nd rfl (Or.inl rfl) (pe_makeS T.mk_Place (ok_Place_init T) (hr.mono (by decide)) rfl T.g_Place T.b_Place_init passLS (pa_cons (pe_makeS T.mk_Straight (ok_Straight_init T) (hr.mono (by decide)) rfl T.g_Straight T.b_Straight_init pass0S (pa_cons pe_int (pa_cons (pe_ix ix_tup (pe_ix ix_tup (pv 3) pe_int (fun _ _ => rfl)) pe_int (fun _ _ => rfl)) (pa_cons (pe_ix ix_tup (pe_ix ix_tup (pv 3) pe_int (fun _ _ => rfl)) pe_int (fun _ _ => rfl)) pa_nil)))) (pa_cons (pe_ix ix_tup (pe_ix ix_tup (pv 3) pe_int (fun _ _ => rfl)) pe_int (fun _ _ => rfl)) pa_nil))))
      (pss_cons (ps_set (i := 5) sc_law.nd rfl (Or.inl rfl) (pe_makeKS T.mk_Loop (ok_Loop_init T) (hr.mono (by decide)) rfl T.g_Loop T.kb_Loop_init_4_step_down.choose_spec passLS (pa_cons (pv 4) (pa_cons (pe_makeS T.mk_Place (ok_Place_init T) (hr.mono (by decide)) rfl T.g_Place T.b_Place_init passLS (pa_cons (pe_makeS T.mk_Straight (ok_Straight_init T) (hr.mono (by decide)) rfl T.g_Straight T.b_Straight_init pass0S (pa_cons pe_int (pa_cons (pe_ix ix_tup (pe_ix ix_tup (pv 3) pe_int (fun _ _ => rfl)) pe_int (fun _ _ => rfl)) (pa_cons (pe_ix ix_tup (pe_ix ix_tup (pv 3) pe_int (fun _ _ => rfl)) pe_int (fun _ _ => rfl)) pa_nil)))) (pa_cons (pe_ix ix_tup (pe_ix ix_tup (pv 3) pe_int (fun _ _ => rfl)) pe_int (fun _ _ => rfl)) pa_nil))) (pa_cons (pe_lst pa_nil) pa_nil))) (pk_cons (pe_ix ix_tup (pv 3) pe_int (fun _ _ => rfl)) (pk_cons (pe_ix ix_tup (pv 3) pe_int (fun _ _ => rfl)) pk_nil))))
      (pss_cons (ps_for PassesOwn.never rfl (pi_tup (pe_tup (pa_cons pe_int (pa_cons pe_int (pa_cons (pe_callS (ok_draw T) (hr.mono (by decide)) rfl T.g_draw T.F_draw.kp T.b_draw pass0S (pa_cons (pv 1) (pa_cons pe_int pa_nil))) pa_nil))))) (pg_name (i := 6) sc_law.nd rfl (Or.inl rfl))
      (pss_one (ps_if (pt_not (pt_val (pe_callS (ok_small_right T) (hr.mono (by decide)) rfl T.g_small_right T.F_small_right.kp T.b_small_right pass0S (pa_cons (pv 5) (pa_cons (pv 3) (pa_cons (pv 6) pa_nil)))))) (pss_one (ps_ret pe_bl)) pss_nil)))
      (pss_one (ps_if (pt_not (pt_val (pe_callS (ok_far_right T) (hr.mono (by decide)) rfl T.g_far_right T.F_far_right.kp T.b_far_right pass0S (pa_cons (pv 1) (pa_cons (pv 5) (pa_cons (pv 3) pa_nil)))))) (pss_one (ps_ret pe_bl)) pss_nil)))))))
      (pss_one (ps_ret (pe_cmpR op_eq (pe_methZ (pe_makeKS T.mk_Loop (ok_Loop_init T) (hr.mono (by decide)) rfl T.g_Loop T.kb_Loop_init_4_.choose_spec passLS (pa_cons pe_int (pa_cons pe_int (pa_cons (pe_tup pa_nil) pa_nil))) pk_nil) T.cl_Loop T.m_Loop_counter_of (ok_Loop_counter_of T) (hr.mono (by decide)) T.b_Loop_counter_of passLS (pa_cons pe_int (pa_cons pe_int pa_nil))) pe_int (nomark _)))))), ?_⟩
    walk_at "g"
    refine ⟨sc, ns, rfl, hs, fun p H1 s1 pe1 => ?_⟩
    walk_at "g"
    refine ⟨p, 3, 0, rfl, pe1, by omega, by omega, by omega, fun r H2 k2 pe2 r0 r1 => ?_⟩
    walk_at "g"
    refine G.forR1 (fun i σ H' => ∃ v1 v2 v3 v4 v5 : Option V, σ = [some (.ref sc), some (.ref p), v1, v2, v3, v4, v5] ∧ Pen H' p (1 + 3000 * i)) (by omega) ⟨none, none, none, none, none, rfl, pe2.mono (by omega)⟩ ?_ ?_
    · rintro i σ H' hi ⟨v1, v2, v3, v4, v5, rfl, pe3⟩
      walk_at "g"
      refine ⟨p, _, rfl, pe3, by omega, fun q n1 o1 d1 n2 o2 d2 st dn H4 k4 pe4 hrow rb => ?_⟩
      have hrow0 := hrow
      obtain ⟨l, hh, e, hq, hl, hhh⟩ := hrow
      have rb0 := rb
      obtain ⟨b1, b2, b3, b4, b5, b6, b7, b8⟩ := rb
      walk_at "g"
      refine G.ixT hq (rfl : atI _ 0 = some (.ref l)) ?_
      walk_at "g"
      refine G.ixT hl (rfl : atI _ 0 = some (.int n1)) ?_
      walk_at "g"
      refine G.ixT hq (rfl : atI _ 0 = some (.ref l)) ?_
      walk_at "g"
      refine G.ixT hl (rfl : atI _ 1 = some (.int o1)) ?_
      walk_at "g"
      refine mkS fun sa da H5 _ s5 hsa => ?_
      have hq5 := s5 _ _ hq
      have hl5 := s5 _ _ hl
      have hhh5 := s5 _ _ hhh
      walk_at "g"
      refine G.ixT hq5 (rfl : atI _ 0 = some (.ref l)) ?_
      walk_at "g"
      refine G.ixT hl5 (rfl : atI _ 2 = some (.int d1)) ?_
      walk_at "g"
      refine mkP (.inl ⟨sa, rfl, da, hsa⟩) (by omega) (fun h => by omega) fun _ lo dlo slo dslo H6 s6 hlo hslo => ?_
      have hq6 := s6 _ _ hq5
      have hhh6 := s6 _ _ hhh5
      walk_at "g"
      refine makeK ?_
      walk_at "g"
      refine G.ixT hq6 (rfl : atI _ 1 = some (.ref hh)) ?_
      walk_at "g"
      refine G.ixT hhh6 (rfl : atI _ 0 = some (.int n2)) ?_
      walk_at "g"
      refine G.ixT hq6 (rfl : atI _ 1 = some (.ref hh)) ?_
      walk_at "g"
      refine G.ixT hhh6 (rfl : atI _ 1 = some (.int o2)) ?_
      walk_at "g"
      refine mkS fun sb db H7 _ s7 hsb => ?_
      have hq7 := s7 _ _ hq6
      have hhh7 := s7 _ _ hhh6
      walk_at "g"
      refine G.ixT hq7 (rfl : atI _ 1 = some (.ref hh)) ?_
      walk_at "g"
      refine G.ixT hhh7 (rfl : atI _ 2 = some (.int d2)) ?_
      walk_at "g"
      refine mkP (.inl ⟨sb, rfl, db, hsb⟩) (by omega) (fun h => by omega) fun _ hg dhg shg dshg H8 s8 hhg hshg => ?_
      have hq8 := s8 _ _ hq7
      walk_at "g"
      refine G.newL (by simp) fun em H9 _ s9 hem => ?_
      have hq9 := s9 _ _ hq8
      walk_at "g"
      refine G.ixT hq9 (rfl : atI _ 2 = some (.int st)) ?_
      walk_at "g"
      refine G.ixT hq9 (rfl : atI _ 3 = some (.bl dn)) ?_
      walk_at "g"
      rw [zdiv] at hslo hshg
      have hlo9 : IsP a H9 lo 0 (n1 / gP 0 n1 d1) (o1 / gP 0 n1 d1) (d1 / gP 0 n1 d1) := ⟨dlo, slo, dslo, by walk_at "hp", by walk_at "hp"⟩
      have hhg9 : IsP a H9 hg 0 (n2 / gP 0 n2 d2) (o2 / gP 0 n2 d2) (d2 / gP 0 n2 d2) := ⟨dhg, shg, dshg, by walk_at "hp", by walk_at "hp"⟩
      have pe9 := (((((pe4.same s5).same s6).same s7).same s8).same s9)
      have g1 := gP0_le (n := n1) b3.1
      have g2 := gP0_le (n := n2) b6.1
      have rb1 := redB (o := o1) g1 (by omega) (by omega) b3 (n := n1)
      have rb2 := redB (o := o2) g2 b4 (by omega) b6 (n := n2)
      have bs : Bs (n1 / gP 0 n1 d1) (o1 / gP 0 n1 d1) (d1 / gP 0 n1 d1) (n2 / gP 0 n2 d2) (o2 / gP 0 n2 d2) (d2 / gP 0 n2 d2) st := ⟨rb1.1, rb1.2.1, rb1.2.2, rb2.1, rb2.2.1, rb2.2.2, b7⟩
      have row9 : Row H9 q n1 o1 d1 n2 o2 d2 st dn := ⟨l, hh, e, hq9, by walk_at "hp", by walk_at "hp"⟩
      refine mkLK (fun _ => rfl) rfl rfl (.inl ⟨lo, rfl, hlo9⟩) (.inl ⟨hg, rfl, hhg9⟩) (.inl hem) bs (fun h => ?_) (fun lp H10 s10 hL => ?_)
      · have e1 : gP 0 n1 d1 = 1 := by have := b8 h; omega
        rw [e1, b8 h]; rfl
      have lr10 : LR a H10 lp q n1 o1 d1 n2 o2 d2 st dn := ⟨row_kp row9 (G.Kp.of s10), rb0, _, _, _, _, _, _, hL, bs, fun n => red b3.1, fun n => red b6.1⟩
      have pe10 := pe9.same s10
      walk_at "g"
      refine ⟨p, 9, _, rfl, pe10, by omega, by omega, by omega, fun r H11 k11 pe11 r0 r1 => ?_⟩
      walk_at "g"
      refine G.newT (by simp) fun tq H12 _ s12 htq => ?_
      have lr12 := lr_kp (lr_kp lr10 k11) (G.Kp.of s12)
      have pe12 := pe11.same s12
      walk_at "g"
      refine G.forT1 (fun j σ' H' => ∃ u : Option V, σ' = [some (.ref sc), some (.ref p), some (.int i), some (.ref q), some (.ref lo), some (.ref lp), u] ∧ Same H12 H') htq ⟨_, rfl, Same.refl _⟩ (fun j σ' H' ⟨_, _, s⟩ => s _ _ htq) ?_ ?_
      · rintro j x σ' H' hx ⟨u, rfl, s13⟩
        obtain ⟨n, rfl, n0, n8⟩ : ∃ n : Int, x = .int n ∧ 0 ≤ n ∧ n ≤ 8 := by
          rcases j with _ | _ | _ | j
          · exact ⟨_, (Option.some.inj hx).symm, by omega, by omega⟩
          · exact ⟨_, (Option.some.inj hx).symm, by omega, by omega⟩
          · exact ⟨_, (Option.some.inj hx).symm, by omega, by omega⟩
          · simp at hx
        walk_at "g"
        refine ⟨lp, q, n, n1, o1, d1, n2, o2, d2, st, dn, rfl, lr_kp lr12 (G.Kp.of s13), n0, n8, fun H14 s14 => ?_⟩
        walk_at "g"
        exact ⟨_, rfl, s13.trans s14⟩
      · rintro σ' H' ⟨u, rfl, s13⟩
        walk_at "g"
        refine ⟨p, lp, q, _, n1, o1, d1, n2, o2, d2, st, dn, rfl, pe12.same s13, by omega, lr_kp lr12 (G.Kp.of s13), fun H14 k14 pe14 => ?_⟩
        walk_at "g"
        exact ⟨_, _, _, _, _, rfl, pe14.mono (by omega)⟩
    · rintro σ H' ⟨v1, v2, v3, v4, v5, rfl, pe3⟩
      walk_at "g"
      refine makeK ?_
      walk_at "g"
      refine G.newT (by simp) fun em H9 _ s9 hem => ?_
      walk_at "g"
      refine mkLK (yl := .int 2) (yh := .int 5) (t := em) (st := 1) (dn := false) (n1 := 0) (o1 := 2) (d1 := 1) (n2 := 0) (o2 := 5) (d2 := 1) (fun _ => rfl) rfl rfl (.inr ⟨rfl, rfl, rfl⟩) (.inr ⟨rfl, rfl, rfl⟩) (.inr hem) ⟨by omega, by omega, by omega, by omega, by omega, by omega, by omega⟩ (fun h => by omega) (fun lp H10 s10 hL => ?_)
      have hL0 := hL
      obtain ⟨dq, ll, hl, tt, hp, _, _⟩ := hL
      walk_at "g"
      refine ⟨lp, dq, _, rfl, hp, fLoop_no_counter_of .., ?_⟩
      walk_at "g"
      have e1 : mt 0 2 1 0 5 1 1 0 = 3 := by decide +kernel
      refine ⟨lp, 0, 2, 1, 0, 5, 1, 1, false, 0, 1, rfl, hL0, ⟨by omega, by omega, by omega, by omega, by omega, by omega, by omega⟩, ⟨by omega, by omega⟩, fun h => by omega, fun _ => ?_⟩
      have e2 : lc 0 2 1 1 0 + 1 * (if false then mt 0 2 1 0 5 1 1 0 - 1 - 1 else 1) = 3 := by decide +kernel
      walk_at "g"
      rw [e2]
      exact k H10
end
end Lw
namespace Lw
open PySem L2
theorem sup_BadNumber : PySem.ErrX.SupBody ["what", "number"] (defBody s_BadNumber_init) := ⟨_, _, _, _, _, _, _, _, _, rfl, (.cons (.cons .nil)), fun _ => _, fun env => rfl⟩
theorem sup_TooMany : PySem.ErrX.SupBody ["what", "many", "limit"] (defBody s_TooMany_init) := ⟨_, _, _, _, _, _, _, _, _, rfl, (.cons (.cons (.cons .nil))), fun _ => _, fun env => rfl⟩
theorem all_mk {w : World} {K : PySem.W.Frag} {h : Heap} {mg : Str → Option Value} {fa a_common_divisor a_Straight_init a_Place_init a_Place_call a_straight_of a_place_of a_Loop_init a_Loop_least_counter a_Loop_many_turns a_Loop_counter_of a_Loop_turn_of a_check_number a_check_formula a_pen a_draw a_big a_integer a_counters a_range_row a_refused_turn a_small_right a_far_right a_law C_LoopError C_BadNumber a_BadNumber_init C_TooMany a_TooMany_init C_Straight C_Place C_Loop : Addr} (X : K.In h) (G : h.Ns mainGlobals mg) (hfa : mg "law" = some (.ref fa))
    {od_common_divisor an_common_divisor : Option Addr} {sl_common_divisor : Array (Option Value)} {oc_common_divisor kV_common_divisor dc_common_divisor pm_common_divisor cd_common_divisor ct_common_divisor : Value}
    {od_Straight_init an_Straight_init : Option Addr} {sl_Straight_init : Array (Option Value)} {oc_Straight_init kV_Straight_init dc_Straight_init pm_Straight_init cd_Straight_init ct_Straight_init : Value}
    {od_Place_init an_Place_init : Option Addr} {sl_Place_init : Array (Option Value)} {oc_Place_init kV_Place_init dc_Place_init pm_Place_init cd_Place_init ct_Place_init : Value}
    {od_Place_call an_Place_call : Option Addr} {sl_Place_call : Array (Option Value)} {oc_Place_call kV_Place_call dc_Place_call pm_Place_call cd_Place_call ct_Place_call : Value}
    {od_straight_of an_straight_of : Option Addr} {sl_straight_of : Array (Option Value)} {oc_straight_of kV_straight_of dc_straight_of pm_straight_of cd_straight_of ct_straight_of : Value}
    {od_place_of an_place_of : Option Addr} {sl_place_of : Array (Option Value)} {oc_place_of kV_place_of dc_place_of pm_place_of cd_place_of ct_place_of : Value}
    {od_Loop_init an_Loop_init : Option Addr} {sl_Loop_init : Array (Option Value)} {oc_Loop_init dc_Loop_init pm_Loop_init cd_Loop_init ct_Loop_init : Value}
    {D_Loop_init : Addr} {ku_Loop_init_step ku_Loop_init_down : Value}
    {od_Loop_least_counter an_Loop_least_counter : Option Addr} {sl_Loop_least_counter : Array (Option Value)} {oc_Loop_least_counter kV_Loop_least_counter dc_Loop_least_counter pm_Loop_least_counter cd_Loop_least_counter ct_Loop_least_counter : Value}
    {od_Loop_many_turns an_Loop_many_turns : Option Addr} {sl_Loop_many_turns : Array (Option Value)} {oc_Loop_many_turns kV_Loop_many_turns dc_Loop_many_turns pm_Loop_many_turns cd_Loop_many_turns ct_Loop_many_turns : Value}
    {od_Loop_counter_of an_Loop_counter_of : Option Addr} {sl_Loop_counter_of : Array (Option Value)} {oc_Loop_counter_of kV_Loop_counter_of dc_Loop_counter_of pm_Loop_counter_of cd_Loop_counter_of ct_Loop_counter_of : Value}
    {od_Loop_turn_of an_Loop_turn_of : Option Addr} {sl_Loop_turn_of : Array (Option Value)} {oc_Loop_turn_of kV_Loop_turn_of dc_Loop_turn_of pm_Loop_turn_of cd_Loop_turn_of ct_Loop_turn_of : Value}
    {od_check_number an_check_number : Option Addr} {sl_check_number : Array (Option Value)} {oc_check_number kV_check_number dc_check_number pm_check_number cd_check_number ct_check_number : Value}
    {od_check_formula an_check_formula : Option Addr} {sl_check_formula : Array (Option Value)} {oc_check_formula kV_check_formula dc_check_formula pm_check_formula cd_check_formula ct_check_formula : Value}
    {od_pen an_pen : Option Addr} {sl_pen : Array (Option Value)} {oc_pen kV_pen dc_pen pm_pen cd_pen ct_pen : Value}
    {od_draw an_draw : Option Addr} {sl_draw : Array (Option Value)} {oc_draw kV_draw dc_draw pm_draw cd_draw ct_draw : Value}
    {od_big an_big : Option Addr} {sl_big : Array (Option Value)} {oc_big kV_big dc_big pm_big cd_big ct_big : Value}
    {od_integer an_integer : Option Addr} {sl_integer : Array (Option Value)} {oc_integer kV_integer dc_integer pm_integer cd_integer ct_integer : Value}
    {od_counters an_counters : Option Addr} {sl_counters : Array (Option Value)} {oc_counters kV_counters dc_counters pm_counters cd_counters ct_counters : Value}
    {od_range_row an_range_row : Option Addr} {sl_range_row : Array (Option Value)} {oc_range_row kV_range_row dc_range_row pm_range_row cd_range_row ct_range_row : Value}
    {od_refused_turn an_refused_turn : Option Addr} {sl_refused_turn : Array (Option Value)} {oc_refused_turn kV_refused_turn dc_refused_turn pm_refused_turn cd_refused_turn ct_refused_turn : Value}
    {od_small_right an_small_right : Option Addr} {sl_small_right : Array (Option Value)} {oc_small_right kV_small_right dc_small_right pm_small_right cd_small_right ct_small_right : Value}
    {od_far_right an_far_right : Option Addr} {sl_far_right : Array (Option Value)} {oc_far_right kV_far_right dc_far_right pm_far_right cd_far_right ct_far_right : Value}
    {od_law an_law : Option Addr} {sl_law : Array (Option Value)} {oc_law kV_law dc_law pm_law cd_law ct_law : Value}
    {nm_BadNumber q_BadNumber : Str} {N_BadNumber : Addr} {bs_BadNumber bm_BadNumber : List Value} {sn_BadNumber : List Str} {sub_BadNumber : List Value} {ab_BadNumber : Bool} {col_BadNumber : Option Bool} {dd_BadNumber : Option Addr} {k0_BadNumber k1_BadNumber k2_BadNumber k3_BadNumber k5_BadNumber : Option Value}
    {oc_BadNumber kV_BadNumber dc_BadNumber pm_BadNumber ct_BadNumber : Value} {od_BadNumber an_BadNumber : Option Addr} {sl_BadNumber : Array (Option Value)} {cc_BadNumber cda_BadNumber : Addr} {ccl_BadNumber cl_BadNumber : Value} {cdd_BadNumber cld_BadNumber : Option Addr} {ccs_BadNumber csl_BadNumber : Array (Option Value)} {vs_BadNumber : Array Value} {fl_BadNumber : Str} {tok_BadNumber : Tok}
    {nm_TooMany q_TooMany : Str} {N_TooMany : Addr} {bs_TooMany bm_TooMany : List Value} {sn_TooMany : List Str} {sub_TooMany : List Value} {ab_TooMany : Bool} {col_TooMany : Option Bool} {dd_TooMany : Option Addr} {k0_TooMany k1_TooMany k2_TooMany k3_TooMany k5_TooMany : Option Value}
    {oc_TooMany kV_TooMany dc_TooMany pm_TooMany ct_TooMany : Value} {od_TooMany an_TooMany : Option Addr} {sl_TooMany : Array (Option Value)} {cc_TooMany cda_TooMany : Addr} {ccl_TooMany cl_TooMany : Value} {cdd_TooMany cld_TooMany : Option Addr} {ccs_TooMany csl_TooMany : Array (Option Value)} {vs_TooMany : Array Value} {fl_TooMany : Str} {tok_TooMany : Tok}
    {u_MOST_STATEMENTS : Value}
    (n_LoopError : PySem.W.nsIn K mainGlobals "LoopError" = some (some (.ref C_LoopError)))
    (n_BadNumber : PySem.W.nsIn K mainGlobals "BadNumber" = some (some (.ref C_BadNumber)))
    (n_TooMany : PySem.W.nsIn K mainGlobals "TooMany" = some (some (.ref C_TooMany)))
    (n_Straight : PySem.W.nsIn K mainGlobals "Straight" = some (some (.ref C_Straight)))
    (n_Place : PySem.W.nsIn K mainGlobals "Place" = some (some (.ref C_Place)))
    (n_Loop : PySem.W.nsIn K mainGlobals "Loop" = some (some (.ref C_Loop)))
    (n_common_divisor : PySem.W.nsIn K mainGlobals "common_divisor" = some (some (.ref a_common_divisor)))
    (l_common_divisor : K.lookup a_common_divisor = some ⟨oc_common_divisor, od_common_divisor, .func (PySem.W.fnOf "common_divisor" "common_divisor" (defArgs s_common_divisor) (defBody s_common_divisor) (defScope s_common_divisor) .none kV_common_divisor dc_common_divisor pm_common_divisor an_common_divisor cd_common_divisor ct_common_divisor), sl_common_divisor⟩)
    (c_common_divisor : PySem.W.codeIn K cd_common_divisor "common_divisor" = true)
    (k_common_divisor : PySem.W.keepIn K (.ref a_common_divisor) = true)
    (n_Straight_init : PySem.W.findIn K (.ref C_Straight) "__init__" = some (some (.ref a_Straight_init)))
    (i_Straight_init : PySem.W.isFn K (.ref a_Straight_init) = true)
    (l_Straight_init : K.lookup a_Straight_init = some ⟨oc_Straight_init, od_Straight_init, .func (PySem.W.fnOf "__init__" "Straight.__init__" (defArgs s_Straight_init) (defBody s_Straight_init) (defScope s_Straight_init) .none kV_Straight_init dc_Straight_init pm_Straight_init an_Straight_init cd_Straight_init ct_Straight_init), sl_Straight_init⟩)
    (c_Straight_init : PySem.W.codeIn K cd_Straight_init "Straight.__init__" = true)
    (k_Straight_init : PySem.W.keepIn K (.ref a_Straight_init) = true)
    (n_Place_init : PySem.W.findIn K (.ref C_Place) "__init__" = some (some (.ref a_Place_init)))
    (i_Place_init : PySem.W.isFn K (.ref a_Place_init) = true)
    (l_Place_init : K.lookup a_Place_init = some ⟨oc_Place_init, od_Place_init, .func (PySem.W.fnOf "__init__" "Place.__init__" (defArgs s_Place_init) (defBody s_Place_init) (defScope s_Place_init) .none kV_Place_init dc_Place_init pm_Place_init an_Place_init cd_Place_init ct_Place_init), sl_Place_init⟩)
    (c_Place_init : PySem.W.codeIn K cd_Place_init "Place.__init__" = true)
    (k_Place_init : PySem.W.keepIn K (.ref a_Place_init) = true)
    (n_Place_call : PySem.W.findIn K (.ref C_Place) "__call__" = some (some (.ref a_Place_call)))
    (i_Place_call : PySem.W.isFn K (.ref a_Place_call) = true)
    (fi_Place_call : PySem.W.fnIn K a_Place_call = true)
    (l_Place_call : K.lookup a_Place_call = some ⟨oc_Place_call, od_Place_call, .func (PySem.W.fnOf "__call__" "Place.__call__" (defArgs s_Place_call) (defBody s_Place_call) (defScope s_Place_call) .none kV_Place_call dc_Place_call pm_Place_call an_Place_call cd_Place_call ct_Place_call), sl_Place_call⟩)
    (c_Place_call : PySem.W.codeIn K cd_Place_call "Place.__call__" = true)
    (k_Place_call : PySem.W.keepIn K (.ref a_Place_call) = true)
    (n_straight_of : PySem.W.nsIn K mainGlobals "straight_of" = some (some (.ref a_straight_of)))
    (l_straight_of : K.lookup a_straight_of = some ⟨oc_straight_of, od_straight_of, .func (PySem.W.fnOf "straight_of" "straight_of" (defArgs s_straight_of) (defBody s_straight_of) (defScope s_straight_of) .none kV_straight_of dc_straight_of pm_straight_of an_straight_of cd_straight_of ct_straight_of), sl_straight_of⟩)
    (c_straight_of : PySem.W.codeIn K cd_straight_of "straight_of" = true)
    (k_straight_of : PySem.W.keepIn K (.ref a_straight_of) = true)
    (n_place_of : PySem.W.nsIn K mainGlobals "place_of" = some (some (.ref a_place_of)))
    (l_place_of : K.lookup a_place_of = some ⟨oc_place_of, od_place_of, .func (PySem.W.fnOf "place_of" "place_of" (defArgs s_place_of) (defBody s_place_of) (defScope s_place_of) .none kV_place_of dc_place_of pm_place_of an_place_of cd_place_of ct_place_of), sl_place_of⟩)
    (c_place_of : PySem.W.codeIn K cd_place_of "place_of" = true)
    (k_place_of : PySem.W.keepIn K (.ref a_place_of) = true)
    (n_Loop_init : PySem.W.findIn K (.ref C_Loop) "__init__" = some (some (.ref a_Loop_init)))
    (i_Loop_init : PySem.W.isFn K (.ref a_Loop_init) = true)
    (l_Loop_init : K.lookup a_Loop_init = some ⟨oc_Loop_init, od_Loop_init, .func (PySem.W.fnOf "__init__" "Loop.__init__" (defArgs s_Loop_init) (defBody s_Loop_init) (defScope s_Loop_init) .none (.ref D_Loop_init) dc_Loop_init pm_Loop_init an_Loop_init cd_Loop_init ct_Loop_init), sl_Loop_init⟩)
    (kd_Loop_init_step : PySem.W.nsIn K D_Loop_init "step" = some (some ku_Loop_init_step))
    (kr_Loop_init_step : RelV (.int 1) ku_Loop_init_step)
    (kd_Loop_init_down : PySem.W.nsIn K D_Loop_init "down" = some (some ku_Loop_init_down))
    (kr_Loop_init_down : RelV (.bl false) ku_Loop_init_down)
    (c_Loop_init : PySem.W.codeIn K cd_Loop_init "Loop.__init__" = true)
    (k_Loop_init : PySem.W.keepIn K (.ref a_Loop_init) = true)
    (n_Loop_least_counter : PySem.W.findIn K (.ref C_Loop) "least_counter" = some (some (.ref a_Loop_least_counter)))
    (i_Loop_least_counter : PySem.W.isFn K (.ref a_Loop_least_counter) = true)
    (l_Loop_least_counter : K.lookup a_Loop_least_counter = some ⟨oc_Loop_least_counter, od_Loop_least_counter, .func (PySem.W.fnOf "least_counter" "Loop.least_counter" (defArgs s_Loop_least_counter) (defBody s_Loop_least_counter) (defScope s_Loop_least_counter) .none kV_Loop_least_counter dc_Loop_least_counter pm_Loop_least_counter an_Loop_least_counter cd_Loop_least_counter ct_Loop_least_counter), sl_Loop_least_counter⟩)
    (c_Loop_least_counter : PySem.W.codeIn K cd_Loop_least_counter "Loop.least_counter" = true)
    (k_Loop_least_counter : PySem.W.keepIn K (.ref a_Loop_least_counter) = true)
    (n_Loop_many_turns : PySem.W.findIn K (.ref C_Loop) "many_turns" = some (some (.ref a_Loop_many_turns)))
    (i_Loop_many_turns : PySem.W.isFn K (.ref a_Loop_many_turns) = true)
    (l_Loop_many_turns : K.lookup a_Loop_many_turns = some ⟨oc_Loop_many_turns, od_Loop_many_turns, .func (PySem.W.fnOf "many_turns" "Loop.many_turns" (defArgs s_Loop_many_turns) (defBody s_Loop_many_turns) (defScope s_Loop_many_turns) .none kV_Loop_many_turns dc_Loop_many_turns pm_Loop_many_turns an_Loop_many_turns cd_Loop_many_turns ct_Loop_many_turns), sl_Loop_many_turns⟩)
    (c_Loop_many_turns : PySem.W.codeIn K cd_Loop_many_turns "Loop.many_turns" = true)
    (k_Loop_many_turns : PySem.W.keepIn K (.ref a_Loop_many_turns) = true)
    (n_Loop_counter_of : PySem.W.findIn K (.ref C_Loop) "counter_of" = some (some (.ref a_Loop_counter_of)))
    (i_Loop_counter_of : PySem.W.isFn K (.ref a_Loop_counter_of) = true)
    (l_Loop_counter_of : K.lookup a_Loop_counter_of = some ⟨oc_Loop_counter_of, od_Loop_counter_of, .func (PySem.W.fnOf "counter_of" "Loop.counter_of" (defArgs s_Loop_counter_of) (defBody s_Loop_counter_of) (defScope s_Loop_counter_of) .none kV_Loop_counter_of dc_Loop_counter_of pm_Loop_counter_of an_Loop_counter_of cd_Loop_counter_of ct_Loop_counter_of), sl_Loop_counter_of⟩)
    (c_Loop_counter_of : PySem.W.codeIn K cd_Loop_counter_of "Loop.counter_of" = true)
    (k_Loop_counter_of : PySem.W.keepIn K (.ref a_Loop_counter_of) = true)
    (n_Loop_turn_of : PySem.W.findIn K (.ref C_Loop) "turn_of" = some (some (.ref a_Loop_turn_of)))
    (i_Loop_turn_of : PySem.W.isFn K (.ref a_Loop_turn_of) = true)
    (l_Loop_turn_of : K.lookup a_Loop_turn_of = some ⟨oc_Loop_turn_of, od_Loop_turn_of, .func (PySem.W.fnOf "turn_of" "Loop.turn_of" (defArgs s_Loop_turn_of) (defBody s_Loop_turn_of) (defScope s_Loop_turn_of) .none kV_Loop_turn_of dc_Loop_turn_of pm_Loop_turn_of an_Loop_turn_of cd_Loop_turn_of ct_Loop_turn_of), sl_Loop_turn_of⟩)
    (c_Loop_turn_of : PySem.W.codeIn K cd_Loop_turn_of "Loop.turn_of" = true)
    (k_Loop_turn_of : PySem.W.keepIn K (.ref a_Loop_turn_of) = true)
    (n_check_number : PySem.W.nsIn K mainGlobals "check_number" = some (some (.ref a_check_number)))
    (l_check_number : K.lookup a_check_number = some ⟨oc_check_number, od_check_number, .func (PySem.W.fnOf "check_number" "check_number" (defArgs s_check_number) (defBody s_check_number) (defScope s_check_number) .none kV_check_number dc_check_number pm_check_number an_check_number cd_check_number ct_check_number), sl_check_number⟩)
    (c_check_number : PySem.W.codeIn K cd_check_number "check_number" = true)
    (k_check_number : PySem.W.keepIn K (.ref a_check_number) = true)
    (n_check_formula : PySem.W.nsIn K mainGlobals "check_formula" = some (some (.ref a_check_formula)))
    (l_check_formula : K.lookup a_check_formula = some ⟨oc_check_formula, od_check_formula, .func (PySem.W.fnOf "check_formula" "check_formula" (defArgs s_check_formula) (defBody s_check_formula) (defScope s_check_formula) .none kV_check_formula dc_check_formula pm_check_formula an_check_formula cd_check_formula ct_check_formula), sl_check_formula⟩)
    (c_check_formula : PySem.W.codeIn K cd_check_formula "check_formula" = true)
    (k_check_formula : PySem.W.keepIn K (.ref a_check_formula) = true)
    (n_pen : PySem.W.nsIn K mainGlobals "_law_pen" = some (some (.ref a_pen)))
    (l_pen : K.lookup a_pen = some ⟨oc_pen, od_pen, .func (PySem.W.fnOf "_law_pen" "_law_pen" (defArgs s_pen) (defBody s_pen) (defScope s_pen) .none kV_pen dc_pen pm_pen an_pen cd_pen ct_pen), sl_pen⟩)
    (c_pen : PySem.W.codeIn K cd_pen "_law_pen" = true)
    (k_pen : PySem.W.keepIn K (.ref a_pen) = true)
    (n_draw : PySem.W.nsIn K mainGlobals "_law_draw" = some (some (.ref a_draw)))
    (l_draw : K.lookup a_draw = some ⟨oc_draw, od_draw, .func (PySem.W.fnOf "_law_draw" "_law_draw" (defArgs s_draw) (defBody s_draw) (defScope s_draw) .none kV_draw dc_draw pm_draw an_draw cd_draw ct_draw), sl_draw⟩)
    (c_draw : PySem.W.codeIn K cd_draw "_law_draw" = true)
    (k_draw : PySem.W.keepIn K (.ref a_draw) = true)
    (n_big : PySem.W.nsIn K mainGlobals "_law_big" = some (some (.ref a_big)))
    (l_big : K.lookup a_big = some ⟨oc_big, od_big, .func (PySem.W.fnOf "_law_big" "_law_big" (defArgs s_big) (defBody s_big) (defScope s_big) .none kV_big dc_big pm_big an_big cd_big ct_big), sl_big⟩)
    (c_big : PySem.W.codeIn K cd_big "_law_big" = true)
    (k_big : PySem.W.keepIn K (.ref a_big) = true)
    (n_integer : PySem.W.nsIn K mainGlobals "_law_integer" = some (some (.ref a_integer)))
    (l_integer : K.lookup a_integer = some ⟨oc_integer, od_integer, .func (PySem.W.fnOf "_law_integer" "_law_integer" (defArgs s_integer) (defBody s_integer) (defScope s_integer) .none kV_integer dc_integer pm_integer an_integer cd_integer ct_integer), sl_integer⟩)
    (c_integer : PySem.W.codeIn K cd_integer "_law_integer" = true)
    (k_integer : PySem.W.keepIn K (.ref a_integer) = true)
    (n_counters : PySem.W.nsIn K mainGlobals "_law_counters" = some (some (.ref a_counters)))
    (l_counters : K.lookup a_counters = some ⟨oc_counters, od_counters, .func (PySem.W.fnOf "_law_counters" "_law_counters" (defArgs s_counters) (defBody s_counters) (defScope s_counters) .none kV_counters dc_counters pm_counters an_counters cd_counters ct_counters), sl_counters⟩)
    (c_counters : PySem.W.codeIn K cd_counters "_law_counters" = true)
    (k_counters : PySem.W.keepIn K (.ref a_counters) = true)
    (n_range_row : PySem.W.nsIn K mainGlobals "_law_range_row" = some (some (.ref a_range_row)))
    (l_range_row : K.lookup a_range_row = some ⟨oc_range_row, od_range_row, .func (PySem.W.fnOf "_law_range_row" "_law_range_row" (defArgs s_range_row) (defBody s_range_row) (defScope s_range_row) .none kV_range_row dc_range_row pm_range_row an_range_row cd_range_row ct_range_row), sl_range_row⟩)
    (c_range_row : PySem.W.codeIn K cd_range_row "_law_range_row" = true)
    (k_range_row : PySem.W.keepIn K (.ref a_range_row) = true)
    (n_refused_turn : PySem.W.nsIn K mainGlobals "_law_refused_turn" = some (some (.ref a_refused_turn)))
    (l_refused_turn : K.lookup a_refused_turn = some ⟨oc_refused_turn, od_refused_turn, .func (PySem.W.fnOf "_law_refused_turn" "_law_refused_turn" (defArgs s_refused_turn) (defBody s_refused_turn) (defScope s_refused_turn) .none kV_refused_turn dc_refused_turn pm_refused_turn an_refused_turn cd_refused_turn ct_refused_turn), sl_refused_turn⟩)
    (c_refused_turn : PySem.W.codeIn K cd_refused_turn "_law_refused_turn" = true)
    (k_refused_turn : PySem.W.keepIn K (.ref a_refused_turn) = true)
    (n_small_right : PySem.W.nsIn K mainGlobals "_law_small_right" = some (some (.ref a_small_right)))
    (l_small_right : K.lookup a_small_right = some ⟨oc_small_right, od_small_right, .func (PySem.W.fnOf "_law_small_right" "_law_small_right" (defArgs s_small_right) (defBody s_small_right) (defScope s_small_right) .none kV_small_right dc_small_right pm_small_right an_small_right cd_small_right ct_small_right), sl_small_right⟩)
    (c_small_right : PySem.W.codeIn K cd_small_right "_law_small_right" = true)
    (k_small_right : PySem.W.keepIn K (.ref a_small_right) = true)
    (n_far_right : PySem.W.nsIn K mainGlobals "_law_far_right" = some (some (.ref a_far_right)))
    (l_far_right : K.lookup a_far_right = some ⟨oc_far_right, od_far_right, .func (PySem.W.fnOf "_law_far_right" "_law_far_right" (defArgs s_far_right) (defBody s_far_right) (defScope s_far_right) .none kV_far_right dc_far_right pm_far_right an_far_right cd_far_right ct_far_right), sl_far_right⟩)
    (c_far_right : PySem.W.codeIn K cd_far_right "_law_far_right" = true)
    (k_far_right : PySem.W.keepIn K (.ref a_far_right) = true)
    (n_law : PySem.W.nsIn K mainGlobals "law" = some (some (.ref a_law)))
    (l_law : K.lookup a_law = some ⟨oc_law, od_law, .func (PySem.W.fnOf "law" "law" (defArgs s_law) (defBody s_law) (defScope s_law) .none kV_law dc_law pm_law an_law cd_law ct_law), sl_law⟩)
    (c_law : PySem.W.codeIn K cd_law "law" = true)
    (k_law : PySem.W.keepIn K (.ref a_law) = true)
    (xl_BadNumber : K.lookup C_BadNumber = some (excClassObj nm_BadNumber q_BadNumber C_BadNumber N_BadNumber bs_BadNumber bm_BadNumber true sn_BadNumber sub_BadNumber ab_BadNumber col_BadNumber dd_BadNumber k0_BadNumber k1_BadNumber k2_BadNumber k3_BadNumber k5_BadNumber "ValueError.__new__"))
    (rb_BadNumber : PySem.HandSPX.refsVE bm_BadNumber = true)
    (sa_BadNumber : PySem.W.findIn K (.ref C_BadNumber) "__setattr__" = some (some (.builtin "object.__setattr__")))
    (nf_BadNumber_what : PySem.W.findIn K (.ref C_BadNumber) "what" = some none)
    (nf_BadNumber_number : PySem.W.findIn K (.ref C_BadNumber) "number" = some none)
    (n_BadNumber_init : PySem.W.findIn K (.ref C_BadNumber) "__init__" = some (some (.ref a_BadNumber_init)))
    (tf_BadNumber : PySem.W.typeIn K (.ref a_BadNumber_init) = some (.type "function"))
    (kc_BadNumber : PySem.W.keepIn K (.ref C_BadNumber) = true)
    (ex_BadNumber : PySem.W.subIn K (.ref C_BadNumber) (.type "BaseException") = some true)
    (ve_BadNumber : PySem.W.subIn K (.ref C_BadNumber) (.type "ValueError") = some true)
    (ty_BadNumber : PySem.W.typeIn K (.ref C_BadNumber) = some (.type "type"))
    (sp_BadNumber : PySem.W.ks_superIn K C_BadNumber C_BadNumber "__init__" = some (some (.builtin "ValueError.__init__")))
    (mr_BadNumber : PySem.W.mroIn K C_BadNumber (.ref C_BadNumber) = some true)
    (l_BadNumber : K.lookup a_BadNumber_init = some ⟨oc_BadNumber, od_BadNumber, .func (PySem.W.ksFn "__init__" "BadNumber.__init__" (defArgs s_BadNumber_init) (defBody s_BadNumber_init) (defScope s_BadNumber_init) .none kV_BadNumber dc_BadNumber pm_BadNumber an_BadNumber (.ref cda_BadNumber) ct_BadNumber cc_BadNumber), sl_BadNumber⟩)
    (c_BadNumber : PySem.W.codeIn K (.ref cda_BadNumber) "BadNumber.__init__" = true)
    (hc_BadNumber : K.lookup cda_BadNumber = some ⟨ccl_BadNumber, cdd_BadNumber, .fields vs_BadNumber, ccs_BadNumber⟩)
    (hv_BadNumber : vs_BadNumber[2]? = some (.str fl_BadNumber tok_BadNumber))
    (hf_BadNumber : ((PySem.Challenge.pw_loopsize_k22_turns_of_loops.main.file : Str) == fl_BadNumber) = true)
    (hl_BadNumber : K.lookup cc_BadNumber = some ⟨cl_BadNumber, cld_BadNumber, .cell (some (.ref C_BadNumber)), csl_BadNumber⟩)
    (ga_BadNumber : PySem.W.findIn K (.ref C_BadNumber) "__getattribute__" = some (some (.builtin "BaseException.__getattribute__")))
    (gg_BadNumber : PySem.W.findIn K (.ref C_BadNumber) "__getattr__" = some none)
    (hd_BadNumber : PySem.W.hasDictIn K C_BadNumber = true)
    (te_BadNumber : PySem.W.exmOne K (.ref C_BadNumber) (.ref C_BadNumber) = some true)
    (xl_TooMany : K.lookup C_TooMany = some (excClassObj nm_TooMany q_TooMany C_TooMany N_TooMany bs_TooMany bm_TooMany true sn_TooMany sub_TooMany ab_TooMany col_TooMany dd_TooMany k0_TooMany k1_TooMany k2_TooMany k3_TooMany k5_TooMany "ValueError.__new__"))
    (rb_TooMany : PySem.HandSPX.refsVE bm_TooMany = true)
    (sa_TooMany : PySem.W.findIn K (.ref C_TooMany) "__setattr__" = some (some (.builtin "object.__setattr__")))
    (nf_TooMany_what : PySem.W.findIn K (.ref C_TooMany) "what" = some none)
    (nf_TooMany_many : PySem.W.findIn K (.ref C_TooMany) "many" = some none)
    (nf_TooMany_limit : PySem.W.findIn K (.ref C_TooMany) "limit" = some none)
    (n_TooMany_init : PySem.W.findIn K (.ref C_TooMany) "__init__" = some (some (.ref a_TooMany_init)))
    (tf_TooMany : PySem.W.typeIn K (.ref a_TooMany_init) = some (.type "function"))
    (kc_TooMany : PySem.W.keepIn K (.ref C_TooMany) = true)
    (ex_TooMany : PySem.W.subIn K (.ref C_TooMany) (.type "BaseException") = some true)
    (ve_TooMany : PySem.W.subIn K (.ref C_TooMany) (.type "ValueError") = some true)
    (ty_TooMany : PySem.W.typeIn K (.ref C_TooMany) = some (.type "type"))
    (sp_TooMany : PySem.W.ks_superIn K C_TooMany C_TooMany "__init__" = some (some (.builtin "ValueError.__init__")))
    (mr_TooMany : PySem.W.mroIn K C_TooMany (.ref C_TooMany) = some true)
    (l_TooMany : K.lookup a_TooMany_init = some ⟨oc_TooMany, od_TooMany, .func (PySem.W.ksFn "__init__" "TooMany.__init__" (defArgs s_TooMany_init) (defBody s_TooMany_init) (defScope s_TooMany_init) .none kV_TooMany dc_TooMany pm_TooMany an_TooMany (.ref cda_TooMany) ct_TooMany cc_TooMany), sl_TooMany⟩)
    (c_TooMany : PySem.W.codeIn K (.ref cda_TooMany) "TooMany.__init__" = true)
    (hc_TooMany : K.lookup cda_TooMany = some ⟨ccl_TooMany, cdd_TooMany, .fields vs_TooMany, ccs_TooMany⟩)
    (hv_TooMany : vs_TooMany[2]? = some (.str fl_TooMany tok_TooMany))
    (hf_TooMany : ((PySem.Challenge.pw_loopsize_k22_turns_of_loops.main.file : Str) == fl_TooMany) = true)
    (hl_TooMany : K.lookup cc_TooMany = some ⟨cl_TooMany, cld_TooMany, .cell (some (.ref C_TooMany)), csl_TooMany⟩)
    (ga_TooMany : PySem.W.findIn K (.ref C_TooMany) "__getattribute__" = some (some (.builtin "BaseException.__getattribute__")))
    (gg_TooMany : PySem.W.findIn K (.ref C_TooMany) "__getattr__" = some none)
    (hd_TooMany : PySem.W.hasDictIn K C_TooMany = true)
    (te_TooMany : PySem.W.exmOne K (.ref C_TooMany) (.ref C_TooMany) = some true)
    (pg_Straight : PySem.W.plainGet K C_Straight Str.empty = true)
    (hd_Straight : PySem.W.hasDictIn K C_Straight = true)
    (po_Straight : PySem.W.plainOver K C_Straight = true)
    (sa_Straight : PySem.W.findIn K (.ref C_Straight) "__setattr__" = some (some (.builtin "object.__setattr__")))
    (mk_Straight : PySem.W.makesIn K C_Straight = true)
    (kc_Straight : PySem.W.keepIn K (.ref C_Straight) = true)
    (na_Straight_i : PySem.W.findIn K (.ref C_Straight) "i" = some none)
    (na_Straight_n : PySem.W.findIn K (.ref C_Straight) "n" = some none)
    (na_Straight_one : PySem.W.findIn K (.ref C_Straight) "one" = some none)
    (ca_Straight : PySem.W.findIn K (.ref C_Straight) "__class__" = some (some (.builtin "object.__class__")))
    (mo_Straight : PySem.W.mroIn K C_Straight (.type "object") = some true)
    (pg_Place : PySem.W.plainGet K C_Place Str.empty = true)
    (hd_Place : PySem.W.hasDictIn K C_Place = true)
    (po_Place : PySem.W.plainOver K C_Place = true)
    (sa_Place : PySem.W.findIn K (.ref C_Place) "__setattr__" = some (some (.builtin "object.__setattr__")))
    (mk_Place : PySem.W.makesIn K C_Place = true)
    (kc_Place : PySem.W.keepIn K (.ref C_Place) = true)
    (na_Place_straight : PySem.W.findIn K (.ref C_Place) "straight" = some none)
    (na_Place_divisor : PySem.W.findIn K (.ref C_Place) "divisor" = some none)
    (ca_Place : PySem.W.findIn K (.ref C_Place) "__class__" = some (some (.builtin "object.__class__")))
    (mo_Place : PySem.W.mroIn K C_Place (.type "object") = some true)
    (pg_Loop : PySem.W.plainGet K C_Loop Str.empty = true)
    (hd_Loop : PySem.W.hasDictIn K C_Loop = true)
    (po_Loop : PySem.W.plainOver K C_Loop = true)
    (sa_Loop : PySem.W.findIn K (.ref C_Loop) "__setattr__" = some (some (.builtin "object.__setattr__")))
    (mk_Loop : PySem.W.makesIn K C_Loop = true)
    (kc_Loop : PySem.W.keepIn K (.ref C_Loop) = true)
    (na_Loop_low : PySem.W.findIn K (.ref C_Loop) "low" = some none)
    (na_Loop_high : PySem.W.findIn K (.ref C_Loop) "high" = some none)
    (na_Loop_statements : PySem.W.findIn K (.ref C_Loop) "statements" = some none)
    (na_Loop_step : PySem.W.findIn K (.ref C_Loop) "step" = some none)
    (na_Loop_down : PySem.W.findIn K (.ref C_Loop) "down" = some none)
    (ca_Loop : PySem.W.findIn K (.ref C_Loop) "__class__" = some (some (.builtin "object.__class__")))
    (mo_Loop : PySem.W.mroIn K C_Loop (.type "object") = some true)
    (cg : PySem.W.specialIn K (.builtin "object.__class__") "__get__" = some (some (.builtin "getset_descriptor.__get__")))
    (ct : PySem.W.takesIn K (.builtin "object.__class__") = some true)
    (sup_ : PySem.W.nsIn K mainGlobals "super" = some none)
    (opq_ : PySem.W.nsIn K cStatics "thirdparty.any" = some none)
    (ki_S_S : PySem.W.kitOne K (.ref C_Straight) (.ref C_Straight) = some true)
    (ki_int_S : PySem.W.kitOne K (.type "int") (.ref C_Straight) = some false)
    (ki_P_P : PySem.W.kitOne K (.ref C_Place) (.ref C_Place) = some true)
    (ki_int_P : PySem.W.kitOne K (.type "int") (.ref C_Place) = some false)
    (n_MOST_STATEMENTS : PySem.W.nsIn K mainGlobals "MOST_STATEMENTS" = some (some u_MOST_STATEMENTS))
    (r_MOST_STATEMENTS : RelV (V.int 16) u_MOST_STATEMENTS)
    (n_abs : PySem.W.nsIn K mainGlobals "abs" = some none)
    (n_all : PySem.W.nsIn K mainGlobals "all" = some none)
    (n_bool : PySem.W.nsIn K mainGlobals "bool" = some none)
    (n_int : PySem.W.nsIn K mainGlobals "int" = some none)
    (n_isinstance : PySem.W.nsIn K mainGlobals "isinstance" = some none)
    (n_len : PySem.W.nsIn K mainGlobals "len" = some none)
    (n_list : PySem.W.nsIn K mainGlobals "list" = some none)
    (n_max : PySem.W.nsIn K mainGlobals "max" = some none)
    (n_range : PySem.W.nsIn K mainGlobals "range" = some none)
    (n_str : PySem.W.nsIn K mainGlobals "str" = some none)
    (n_tuple : PySem.W.nsIn K mainGlobals "tuple" = some none)
    : ∃ fd : FuncData, (∀ (s : Shared) (v : Value), BindsTo s fd ⟨[v], []⟩ [("_law_script", v)]) ∧ ∀ base : Heap, K.In base → base.Ns mainGlobals mg → FnOk PySem.Challenge.pw_loopsize_k22_turns_of_loops w K mg base CX0 9 fa fd ["_law_script"] (spLaw K) := by
  have e : fa = a_law := by
    have e := hfa.symm.trans (PySem.W.mg_of X G n_law)
    cases e
    rfl
  rw [e]
  have T : Txt PySem.Challenge.pw_loopsize_k22_turns_of_loops K mg { a_common_divisor := a_common_divisor, d_common_divisor := PySem.W.fnOf "common_divisor" "common_divisor" (defArgs s_common_divisor) (defBody s_common_divisor) (defScope s_common_divisor) .none kV_common_divisor dc_common_divisor pm_common_divisor an_common_divisor cd_common_divisor ct_common_divisor, a_Straight_init := a_Straight_init, d_Straight_init := PySem.W.fnOf "__init__" "Straight.__init__" (defArgs s_Straight_init) (defBody s_Straight_init) (defScope s_Straight_init) .none kV_Straight_init dc_Straight_init pm_Straight_init an_Straight_init cd_Straight_init ct_Straight_init, a_Place_init := a_Place_init, d_Place_init := PySem.W.fnOf "__init__" "Place.__init__" (defArgs s_Place_init) (defBody s_Place_init) (defScope s_Place_init) .none kV_Place_init dc_Place_init pm_Place_init an_Place_init cd_Place_init ct_Place_init, a_Place_call := a_Place_call, d_Place_call := PySem.W.fnOf "__call__" "Place.__call__" (defArgs s_Place_call) (defBody s_Place_call) (defScope s_Place_call) .none kV_Place_call dc_Place_call pm_Place_call an_Place_call cd_Place_call ct_Place_call, a_straight_of := a_straight_of, d_straight_of := PySem.W.fnOf "straight_of" "straight_of" (defArgs s_straight_of) (defBody s_straight_of) (defScope s_straight_of) .none kV_straight_of dc_straight_of pm_straight_of an_straight_of cd_straight_of ct_straight_of, a_place_of := a_place_of, d_place_of := PySem.W.fnOf "place_of" "place_of" (defArgs s_place_of) (defBody s_place_of) (defScope s_place_of) .none kV_place_of dc_place_of pm_place_of an_place_of cd_place_of ct_place_of, a_Loop_init := a_Loop_init, d_Loop_init := PySem.W.fnOf "__init__" "Loop.__init__" (defArgs s_Loop_init) (defBody s_Loop_init) (defScope s_Loop_init) .none (.ref D_Loop_init) dc_Loop_init pm_Loop_init an_Loop_init cd_Loop_init ct_Loop_init, a_Loop_least_counter := a_Loop_least_counter, d_Loop_least_counter := PySem.W.fnOf "least_counter" "Loop.least_counter" (defArgs s_Loop_least_counter) (defBody s_Loop_least_counter) (defScope s_Loop_least_counter) .none kV_Loop_least_counter dc_Loop_least_counter pm_Loop_least_counter an_Loop_least_counter cd_Loop_least_counter ct_Loop_least_counter, a_Loop_many_turns := a_Loop_many_turns, d_Loop_many_turns := PySem.W.fnOf "many_turns" "Loop.many_turns" (defArgs s_Loop_many_turns) (defBody s_Loop_many_turns) (defScope s_Loop_many_turns) .none kV_Loop_many_turns dc_Loop_many_turns pm_Loop_many_turns an_Loop_many_turns cd_Loop_many_turns ct_Loop_many_turns, a_Loop_counter_of := a_Loop_counter_of, d_Loop_counter_of := PySem.W.fnOf "counter_of" "Loop.counter_of" (defArgs s_Loop_counter_of) (defBody s_Loop_counter_of) (defScope s_Loop_counter_of) .none kV_Loop_counter_of dc_Loop_counter_of pm_Loop_counter_of an_Loop_counter_of cd_Loop_counter_of ct_Loop_counter_of, a_Loop_turn_of := a_Loop_turn_of, d_Loop_turn_of := PySem.W.fnOf "turn_of" "Loop.turn_of" (defArgs s_Loop_turn_of) (defBody s_Loop_turn_of) (defScope s_Loop_turn_of) .none kV_Loop_turn_of dc_Loop_turn_of pm_Loop_turn_of an_Loop_turn_of cd_Loop_turn_of ct_Loop_turn_of, a_check_number := a_check_number, d_check_number := PySem.W.fnOf "check_number" "check_number" (defArgs s_check_number) (defBody s_check_number) (defScope s_check_number) .none kV_check_number dc_check_number pm_check_number an_check_number cd_check_number ct_check_number, a_check_formula := a_check_formula, d_check_formula := PySem.W.fnOf "check_formula" "check_formula" (defArgs s_check_formula) (defBody s_check_formula) (defScope s_check_formula) .none kV_check_formula dc_check_formula pm_check_formula an_check_formula cd_check_formula ct_check_formula, a_pen := a_pen, d_pen := PySem.W.fnOf "_law_pen" "_law_pen" (defArgs s_pen) (defBody s_pen) (defScope s_pen) .none kV_pen dc_pen pm_pen an_pen cd_pen ct_pen, a_draw := a_draw, d_draw := PySem.W.fnOf "_law_draw" "_law_draw" (defArgs s_draw) (defBody s_draw) (defScope s_draw) .none kV_draw dc_draw pm_draw an_draw cd_draw ct_draw, a_big := a_big, d_big := PySem.W.fnOf "_law_big" "_law_big" (defArgs s_big) (defBody s_big) (defScope s_big) .none kV_big dc_big pm_big an_big cd_big ct_big, a_integer := a_integer, d_integer := PySem.W.fnOf "_law_integer" "_law_integer" (defArgs s_integer) (defBody s_integer) (defScope s_integer) .none kV_integer dc_integer pm_integer an_integer cd_integer ct_integer, a_counters := a_counters, d_counters := PySem.W.fnOf "_law_counters" "_law_counters" (defArgs s_counters) (defBody s_counters) (defScope s_counters) .none kV_counters dc_counters pm_counters an_counters cd_counters ct_counters, a_range_row := a_range_row, d_range_row := PySem.W.fnOf "_law_range_row" "_law_range_row" (defArgs s_range_row) (defBody s_range_row) (defScope s_range_row) .none kV_range_row dc_range_row pm_range_row an_range_row cd_range_row ct_range_row, a_refused_turn := a_refused_turn, d_refused_turn := PySem.W.fnOf "_law_refused_turn" "_law_refused_turn" (defArgs s_refused_turn) (defBody s_refused_turn) (defScope s_refused_turn) .none kV_refused_turn dc_refused_turn pm_refused_turn an_refused_turn cd_refused_turn ct_refused_turn, a_small_right := a_small_right, d_small_right := PySem.W.fnOf "_law_small_right" "_law_small_right" (defArgs s_small_right) (defBody s_small_right) (defScope s_small_right) .none kV_small_right dc_small_right pm_small_right an_small_right cd_small_right ct_small_right, a_far_right := a_far_right, d_far_right := PySem.W.fnOf "_law_far_right" "_law_far_right" (defArgs s_far_right) (defBody s_far_right) (defScope s_far_right) .none kV_far_right dc_far_right pm_far_right an_far_right cd_far_right ct_far_right, a_law := a_law, d_law := PySem.W.fnOf "law" "law" (defArgs s_law) (defBody s_law) (defScope s_law) .none kV_law dc_law pm_law an_law cd_law ct_law, C_LoopError := C_LoopError, C_BadNumber := C_BadNumber, a_BadNumber_init := a_BadNumber_init, C_TooMany := C_TooMany, a_TooMany_init := a_TooMany_init, C_Straight := C_Straight, C_Place := C_Place, C_Loop := C_Loop } := {
    F_common_divisor := fun_mk (st := s_common_divisor) l_common_divisor c_common_divisor k_common_divisor,
    b_common_divisor := (fun_mk (st := s_common_divisor) l_common_divisor c_common_divisor k_common_divisor).binds (ps := ["a", "b"]) fun _ _ _ _ _ _ us hl => match us, hl with | [_, _], _ => rfl,
    g_common_divisor := PySem.W.mg_of X G n_common_divisor,
    F_Straight_init := fun_mk (st := s_Straight_init) l_Straight_init c_Straight_init k_Straight_init,
    b_Straight_init := (fun_mk (st := s_Straight_init) l_Straight_init c_Straight_init k_Straight_init).binds (ps := ["self", "i", "n", "one"]) fun _ _ _ _ _ _ us hl => match us, hl with | [_, _, _, _], _ => rfl,
    at_Straight_init := n_Straight_init,
    i_Straight_init := i_Straight_init,
    F_Place_init := fun_mk (st := s_Place_init) l_Place_init c_Place_init k_Place_init,
    b_Place_init := (fun_mk (st := s_Place_init) l_Place_init c_Place_init k_Place_init).binds (ps := ["self", "straight", "divisor"]) fun _ _ _ _ _ _ us hl => match us, hl with | [_, _, _], _ => rfl,
    at_Place_init := n_Place_init,
    i_Place_init := i_Place_init,
    F_Place_call := fun_mk (st := s_Place_call) l_Place_call c_Place_call k_Place_call,
    b_Place_call := (fun_mk (st := s_Place_call) l_Place_call c_Place_call k_Place_call).binds (ps := ["self", "i", "n"]) fun _ _ _ _ _ _ us hl => match us, hl with | [_, _, _], _ => rfl,
    at_Place_call := n_Place_call,
    i_Place_call := i_Place_call,
    c_Place_call := ⟨n_Place_call, i_Place_call, fi_Place_call⟩,
    F_straight_of := fun_mk (st := s_straight_of) l_straight_of c_straight_of k_straight_of,
    b_straight_of := (fun_mk (st := s_straight_of) l_straight_of c_straight_of k_straight_of).binds (ps := ["value"]) fun _ _ _ _ _ _ us hl => match us, hl with | [_], _ => rfl,
    g_straight_of := PySem.W.mg_of X G n_straight_of,
    F_place_of := fun_mk (st := s_place_of) l_place_of c_place_of k_place_of,
    b_place_of := (fun_mk (st := s_place_of) l_place_of c_place_of k_place_of).binds (ps := ["value"]) fun _ _ _ _ _ _ us hl => match us, hl with | [_], _ => rfl,
    g_place_of := PySem.W.mg_of X G n_place_of,
    F_Loop_init := ⟨⟨_, _, _, _, _, _, _, _, _, _, rfl, l_Loop_init, c_Loop_init, .inl ⟨rfl, rfl⟩, .inr ⟨_, rfl, List.forall_mem_cons.mpr ⟨⟨_, kd_Loop_init_step, kr_Loop_init_step⟩, List.forall_mem_cons.mpr ⟨⟨_, kd_Loop_init_down, kr_Loop_init_down⟩, List.forall_mem_nil _⟩⟩⟩⟩, k_Loop_init⟩,
    kb_Loop_init_4_step_down := FunD.kbinds0 (ps := ["self", "low", "high", "statements", "step", "down"]) (⟨⟨_, _, _, _, _, _, _, _, _, _, rfl, l_Loop_init, c_Loop_init, .inl ⟨rfl, rfl⟩, .inr ⟨_, rfl, List.forall_mem_cons.mpr ⟨⟨_, kd_Loop_init_step, kr_Loop_init_step⟩, List.forall_mem_cons.mpr ⟨⟨_, kd_Loop_init_down, kr_Loop_init_down⟩, List.forall_mem_nil _⟩⟩⟩⟩, k_Loop_init⟩ : FunD K "__init__" "Loop.__init__" (defArgs s_Loop_init) (defBody s_Loop_init) (defScope s_Loop_init) [] [("step", .int 1), ("down", .bl false)] a_Loop_init _) 4 ["step", "down"] [] (fun us mv ws => us ++ ws ++ mv) (by simp) (List.forall_mem_nil _) (fun r1 r2 r3 => (r1.append r3).append r2) (fun _ _ _ _ _ _ us mv ws l1 l2 l3 => match us, mv, ws, l1, l2, l3 with | [_, _, _, _], [], [_, _], _, _, _ => rfl),
    kb_Loop_init_4_ := FunD.kbinds0 (ps := ["self", "low", "high", "statements", "step", "down"]) (⟨⟨_, _, _, _, _, _, _, _, _, _, rfl, l_Loop_init, c_Loop_init, .inl ⟨rfl, rfl⟩, .inr ⟨_, rfl, List.forall_mem_cons.mpr ⟨⟨_, kd_Loop_init_step, kr_Loop_init_step⟩, List.forall_mem_cons.mpr ⟨⟨_, kd_Loop_init_down, kr_Loop_init_down⟩, List.forall_mem_nil _⟩⟩⟩⟩, k_Loop_init⟩ : FunD K "__init__" "Loop.__init__" (defArgs s_Loop_init) (defBody s_Loop_init) (defScope s_Loop_init) [] [("step", .int 1), ("down", .bl false)] a_Loop_init _) 4 [] [("step", .int 1), ("down", .bl false)] (fun us mv ws => us ++ ws ++ mv) (by simp) (by simp) (fun r1 r2 r3 => (r1.append r3).append r2) (fun _ _ _ _ _ _ us mv ws l1 l2 l3 => match us, mv, ws, l1, l2, l3 with | [_, _, _, _], [_, _], [], _, _, _ => ⟨_, _, _, _, _, _, rfl, rfl, _, _, _, _, _, _, rfl, rfl, rfl⟩),
    at_Loop_init := n_Loop_init,
    i_Loop_init := i_Loop_init,
    F_Loop_least_counter := fun_mk (st := s_Loop_least_counter) l_Loop_least_counter c_Loop_least_counter k_Loop_least_counter,
    b_Loop_least_counter := (fun_mk (st := s_Loop_least_counter) l_Loop_least_counter c_Loop_least_counter k_Loop_least_counter).binds (ps := ["self", "n"]) fun _ _ _ _ _ _ us hl => match us, hl with | [_, _], _ => rfl,
    at_Loop_least_counter := n_Loop_least_counter,
    i_Loop_least_counter := i_Loop_least_counter,
    m_Loop_least_counter := ⟨n_Loop_least_counter, i_Loop_least_counter, k_Loop_least_counter⟩,
    F_Loop_many_turns := fun_mk (st := s_Loop_many_turns) l_Loop_many_turns c_Loop_many_turns k_Loop_many_turns,
    b_Loop_many_turns := (fun_mk (st := s_Loop_many_turns) l_Loop_many_turns c_Loop_many_turns k_Loop_many_turns).binds (ps := ["self", "n"]) fun _ _ _ _ _ _ us hl => match us, hl with | [_, _], _ => rfl,
    at_Loop_many_turns := n_Loop_many_turns,
    i_Loop_many_turns := i_Loop_many_turns,
    m_Loop_many_turns := ⟨n_Loop_many_turns, i_Loop_many_turns, k_Loop_many_turns⟩,
    F_Loop_counter_of := fun_mk (st := s_Loop_counter_of) l_Loop_counter_of c_Loop_counter_of k_Loop_counter_of,
    b_Loop_counter_of := (fun_mk (st := s_Loop_counter_of) l_Loop_counter_of c_Loop_counter_of k_Loop_counter_of).binds (ps := ["self", "n", "turn"]) fun _ _ _ _ _ _ us hl => match us, hl with | [_, _, _], _ => rfl,
    at_Loop_counter_of := n_Loop_counter_of,
    i_Loop_counter_of := i_Loop_counter_of,
    m_Loop_counter_of := ⟨n_Loop_counter_of, i_Loop_counter_of, k_Loop_counter_of⟩,
    F_Loop_turn_of := fun_mk (st := s_Loop_turn_of) l_Loop_turn_of c_Loop_turn_of k_Loop_turn_of,
    b_Loop_turn_of := (fun_mk (st := s_Loop_turn_of) l_Loop_turn_of c_Loop_turn_of k_Loop_turn_of).binds (ps := ["self", "n", "counter"]) fun _ _ _ _ _ _ us hl => match us, hl with | [_, _, _], _ => rfl,
    at_Loop_turn_of := n_Loop_turn_of,
    i_Loop_turn_of := i_Loop_turn_of,
    m_Loop_turn_of := ⟨n_Loop_turn_of, i_Loop_turn_of, k_Loop_turn_of⟩,
    F_check_number := fun_mk (st := s_check_number) l_check_number c_check_number k_check_number,
    b_check_number := (fun_mk (st := s_check_number) l_check_number c_check_number k_check_number).binds (ps := ["what", "number", "least", "most"]) fun _ _ _ _ _ _ us hl => match us, hl with | [_, _, _, _], _ => rfl,
    g_check_number := PySem.W.mg_of X G n_check_number,
    F_check_formula := fun_mk (st := s_check_formula) l_check_formula c_check_formula k_check_formula,
    b_check_formula := (fun_mk (st := s_check_formula) l_check_formula c_check_formula k_check_formula).binds (ps := ["place"]) fun _ _ _ _ _ _ us hl => match us, hl with | [_], _ => rfl,
    g_check_formula := PySem.W.mg_of X G n_check_formula,
    F_pen := fun_mk (st := s_pen) l_pen c_pen k_pen,
    b_pen := (fun_mk (st := s_pen) l_pen c_pen k_pen).binds (ps := ["_law_script"]) fun _ _ _ _ _ _ us hl => match us, hl with | [_], _ => rfl,
    g_pen := PySem.W.mg_of X G n_pen,
    F_draw := fun_mk (st := s_draw) l_draw c_draw k_draw,
    b_draw := (fun_mk (st := s_draw) l_draw c_draw k_draw).binds (ps := ["_law_pen_here", "_law_many"]) fun _ _ _ _ _ _ us hl => match us, hl with | [_, _], _ => rfl,
    g_draw := PySem.W.mg_of X G n_draw,
    F_big := fun_mk (st := s_big) l_big c_big k_big,
    b_big := (fun_mk (st := s_big) l_big c_big k_big).binds (ps := ["_law_pen_here", "_law_many"]) fun _ _ _ _ _ _ us hl => match us, hl with | [_, _], _ => rfl,
    g_big := PySem.W.mg_of X G n_big,
    F_integer := fun_mk (st := s_integer) l_integer c_integer k_integer,
    b_integer := (fun_mk (st := s_integer) l_integer c_integer k_integer).binds (ps := ["_law_value"]) fun _ _ _ _ _ _ us hl => match us, hl with | [_], _ => rfl,
    g_integer := PySem.W.mg_of X G n_integer,
    F_counters := fun_mk (st := s_counters) l_counters c_counters k_counters,
    b_counters := (fun_mk (st := s_counters) l_counters c_counters k_counters).binds (ps := ["_law_row", "_law_n"]) fun _ _ _ _ _ _ us hl => match us, hl with | [_, _], _ => rfl,
    g_counters := PySem.W.mg_of X G n_counters,
    F_range_row := fun_mk (st := s_range_row) l_range_row c_range_row k_range_row,
    b_range_row := (fun_mk (st := s_range_row) l_range_row c_range_row k_range_row).binds (ps := ["_law_pen_here"]) fun _ _ _ _ _ _ us hl => match us, hl with | [_], _ => rfl,
    g_range_row := PySem.W.mg_of X G n_range_row,
    F_refused_turn := fun_mk (st := s_refused_turn) l_refused_turn c_refused_turn k_refused_turn,
    b_refused_turn := (fun_mk (st := s_refused_turn) l_refused_turn c_refused_turn k_refused_turn).binds (ps := ["_law_loop", "_law_n", "_law_turn"]) fun _ _ _ _ _ _ us hl => match us, hl with | [_, _, _], _ => rfl,
    g_refused_turn := PySem.W.mg_of X G n_refused_turn,
    F_small_right := fun_mk (st := s_small_right) l_small_right c_small_right k_small_right,
    b_small_right := (fun_mk (st := s_small_right) l_small_right c_small_right k_small_right).binds (ps := ["_law_loop", "_law_row", "_law_n"]) fun _ _ _ _ _ _ us hl => match us, hl with | [_, _, _], _ => rfl,
    g_small_right := PySem.W.mg_of X G n_small_right,
    F_far_right := fun_mk (st := s_far_right) l_far_right c_far_right k_far_right,
    b_far_right := (fun_mk (st := s_far_right) l_far_right c_far_right k_far_right).binds (ps := ["_law_pen_here", "_law_loop", "_law_row"]) fun _ _ _ _ _ _ us hl => match us, hl with | [_, _, _], _ => rfl,
    g_far_right := PySem.W.mg_of X G n_far_right,
    F_law := fun_mk (st := s_law) l_law c_law k_law,
    b_law := (fun_mk (st := s_law) l_law c_law k_law).binds (ps := ["_law_script"]) fun _ _ _ _ _ _ us hl => match us, hl with | [_], _ => rfl,
    g_law := PySem.W.mg_of X G n_law,
    g_LoopError := PySem.W.mg_of X G n_LoopError,
    g_BadNumber := PySem.W.mg_of X G n_BadNumber,
    e_BadNumber := { gC := PySem.W.mg_of X G n_BadNumber, cls := ⟨_, _, _, _, _, _, _, _, _, _, _, _, _, _, _, xl_BadNumber, rb_BadNumber⟩, sa := sa_BadNumber, noF := List.forall_mem_cons.mpr ⟨nf_BadNumber_what, List.forall_mem_cons.mpr ⟨nf_BadNumber_number, List.forall_mem_nil _⟩⟩, iC := n_BadNumber_init, tC := tf_BadNumber, kC := kc_BadNumber, exC := ex_BadNumber, veC := ve_BadNumber, tyC := ty_BadNumber, sup := sup_, opq := opq_, spI := sp_BadNumber, mrC := mr_BadNumber, top := (by kernel_rfl), fn := ⟨_, _, _, _, s_BadNumber_init, _, _, _, _, _, _, _, _, _, _, _, _, _, _, _, _, _, [], l_BadNumber, c_BadNumber, hc_BadNumber, hv_BadNumber, hf_BadNumber, hl_BadNumber, sup_BadNumber, rfl, rfl, fun us hl => match us, hl with | [_, _, _], _ => rfl, by decide +kernel, by decide +kernel, by decide +kernel, rfl, by decide +kernel, rfl, rfl, by decide +kernel, by decide +kernel⟩ },
    x_BadNumber := ⟨ga_BadNumber, gg_BadNumber, ex_BadNumber, hd_BadNumber⟩,
    te_BadNumber := te_BadNumber,
    g_TooMany := PySem.W.mg_of X G n_TooMany,
    e_TooMany := { gC := PySem.W.mg_of X G n_TooMany, cls := ⟨_, _, _, _, _, _, _, _, _, _, _, _, _, _, _, xl_TooMany, rb_TooMany⟩, sa := sa_TooMany, noF := List.forall_mem_cons.mpr ⟨nf_TooMany_what, List.forall_mem_cons.mpr ⟨nf_TooMany_many, List.forall_mem_cons.mpr ⟨nf_TooMany_limit, List.forall_mem_nil _⟩⟩⟩, iC := n_TooMany_init, tC := tf_TooMany, kC := kc_TooMany, exC := ex_TooMany, veC := ve_TooMany, tyC := ty_TooMany, sup := sup_, opq := opq_, spI := sp_TooMany, mrC := mr_TooMany, top := (by kernel_rfl), fn := ⟨_, _, _, _, s_TooMany_init, _, _, _, _, _, _, _, _, _, _, _, _, _, _, _, _, _, [], l_TooMany, c_TooMany, hc_TooMany, hv_TooMany, hf_TooMany, hl_TooMany, sup_TooMany, rfl, rfl, fun us hl => match us, hl with | [_, _, _, _], _ => rfl, by decide +kernel, by decide +kernel, by decide +kernel, rfl, by decide +kernel, rfl, rfl, by decide +kernel, by decide +kernel⟩ },
    x_TooMany := ⟨ga_TooMany, gg_TooMany, ex_TooMany, hd_TooMany⟩,
    te_TooMany := te_TooMany,
    g_Straight := PySem.W.mg_of X G n_Straight,
    cl_Straight := ⟨pg_Straight, hd_Straight, po_Straight, sa_Straight⟩,
    mk_Straight := ⟨mk_Straight, n_Straight_init, i_Straight_init, kc_Straight⟩,
    na_Straight_i := na_Straight_i,
    na_Straight_n := na_Straight_n,
    na_Straight_one := na_Straight_one,
    ca_Straight := ca_Straight,
    mo_Straight := mo_Straight,
    g_Place := PySem.W.mg_of X G n_Place,
    cl_Place := ⟨pg_Place, hd_Place, po_Place, sa_Place⟩,
    mk_Place := ⟨mk_Place, n_Place_init, i_Place_init, kc_Place⟩,
    na_Place_straight := na_Place_straight,
    na_Place_divisor := na_Place_divisor,
    ca_Place := ca_Place,
    mo_Place := mo_Place,
    g_Loop := PySem.W.mg_of X G n_Loop,
    cl_Loop := ⟨pg_Loop, hd_Loop, po_Loop, sa_Loop⟩,
    mk_Loop := ⟨mk_Loop, n_Loop_init, i_Loop_init, kc_Loop⟩,
    na_Loop_low := na_Loop_low,
    na_Loop_high := na_Loop_high,
    na_Loop_statements := na_Loop_statements,
    na_Loop_step := na_Loop_step,
    na_Loop_down := na_Loop_down,
    ca_Loop := ca_Loop,
    mo_Loop := mo_Loop,
    cg := cg,
    ct := ct,
    ki_S_S := ki_S_S,
    ki_int_S := ki_int_S,
    ki_P_P := ki_P_P,
    ki_int_P := ki_int_P,
    g_MOST_STATEMENTS := ⟨_, PySem.W.mg_of X G n_MOST_STATEMENTS, r_MOST_STATEMENTS⟩,
    n_abs := PySem.W.mg_none_of X G n_abs,
    n_all := PySem.W.mg_none_of X G n_all,
    n_bool := PySem.W.mg_none_of X G n_bool,
    n_int := PySem.W.mg_none_of X G n_int,
    n_isinstance := PySem.W.mg_none_of X G n_isinstance,
    n_len := PySem.W.mg_none_of X G n_len,
    n_list := PySem.W.mg_none_of X G n_list,
    n_max := PySem.W.mg_none_of X G n_max,
    n_range := PySem.W.mg_none_of X G n_range,
    n_str := PySem.W.mg_none_of X G n_str,
    n_tuple := PySem.W.mg_none_of X G n_tuple }
  exact ⟨_, fun s v => .of_eq rfl, fun base _ _ => ok_law T⟩
theorem walk {q : Program} {loose : List Str} {XP : (Str → Option Value) → Heap → Prop} {YP : World → Heap → Prop} {d : DefRec} {K : Params → PySem.W.Frag} (hdf : d.params.defaults = [])
    (hY : ∀ (w : World) (h : Heap), YP w h → (K w.params).In h)
    (F : ∀ (w : World) (mg : Str → Option Value) (fa : Addr) (h : Heap), (K w.params).In h → h.Ns mainGlobals mg → mg d.name = some (.ref fa) →
      ∃ fd : FuncData, (∀ (s : Shared) (u : Value), BindsTo s fd ⟨[u], []⟩ [("_law_script", u)]) ∧ ∀ base : Heap, (K w.params).In base → base.Ns mainGlobals mg → FnOk PySem.Challenge.rw_loopsize_k22_turns_of_loops.prog w (K w.params) mg base CX0 9 fa fd ["_law_script"] (spLaw (K w.params))) :
    PySem.W.WalkO q loose XP YP PySem.Challenge.rw_loopsize_k22_turns_of_loops.row.toRowW d [] (fun f vs => PySem.call f vs) :=
  L2.walk_of (l := PySem.Challenge.rw_loopsize_k22_turns_of_loops) (n := 63) (k := 9) (x := "_law_script") (CX := fun _ => CX0) (sp := fun w => spLaw (K w.params)) rfl (by decide) hdf ⟨rfl, by decide, by decide⟩ hY F (fun _ _ a ns hl _ hS => ⟨a, ns, rfl, hS, fun _ => rfl⟩) fun _ _ _ _ _ z => z
end Lw
open PySem PySem.W PyProof.Rows in
set_option maxRecDepth 100000 in
set_option maxHeartbeats 0 in
theorem PySem.Challenge.cw_loopsize_k22_turns_of_loops_holds : PySem.Challenge.rw_loopsize_k22_turns_of_loops.Holds := by
  w_on; o_law; k_head; (case hw => w_witness2)
  k_fill
  refine Lw.walk rfl (fun w h Y => PySem.W.kIn_of Y) ?F
  case F =>
    intro w mg fa h KX G hmg
    refine' Lw.all_mk KX G hmg ?n_LoopError ?n_BadNumber ?n_TooMany ?n_Straight ?n_Place ?n_Loop ?n_common_divisor ?l_common_divisor ?c_common_divisor ?k_common_divisor ?n_Straight_init ?i_Straight_init ?l_Straight_init ?c_Straight_init ?k_Straight_init ?n_Place_init ?i_Place_init ?l_Place_init ?c_Place_init ?k_Place_init ?n_Place_call ?i_Place_call ?fi_Place_call ?l_Place_call ?c_Place_call ?k_Place_call ?n_straight_of ?l_straight_of ?c_straight_of ?k_straight_of ?n_place_of ?l_place_of ?c_place_of ?k_place_of ?n_Loop_init ?i_Loop_init ?l_Loop_init ?kd_Loop_init_step ?kr_Loop_init_step ?kd_Loop_init_down ?kr_Loop_init_down ?c_Loop_init ?k_Loop_init ?n_Loop_least_counter ?i_Loop_least_counter ?l_Loop_least_counter ?c_Loop_least_counter ?k_Loop_least_counter ?n_Loop_many_turns ?i_Loop_many_turns ?l_Loop_many_turns ?c_Loop_many_turns ?k_Loop_many_turns ?n_Loop_counter_of ?i_Loop_counter_of ?l_Loop_counter_of ?c_Loop_counter_of ?k_Loop_counter_of ?n_Loop_turn_of ?i_Loop_turn_of ?l_Loop_turn_of ?c_Loop_turn_of ?k_Loop_turn_of ?n_check_number ?l_check_number ?c_check_number ?k_check_number ?n_check_formula ?l_check_formula ?c_check_formula ?k_check_formula ?n_pen ?l_pen ?c_pen ?k_pen ?n_draw ?l_draw ?c_draw ?k_draw ?n_big ?l_big ?c_big ?k_big ?n_integer ?l_integer ?c_integer ?k_integer ?n_counters ?l_counters ?c_counters ?k_counters ?n_range_row ?l_range_row ?c_range_row ?k_range_row ?n_refused_turn ?l_refused_turn ?c_refused_turn ?k_refused_turn ?n_small_right ?l_small_right ?c_small_right ?k_small_right ?n_far_right ?l_far_right ?c_far_right ?k_far_right ?n_law ?l_law ?c_law ?k_law ?xl_BadNumber ?rb_BadNumber ?sa_BadNumber ?nf_BadNumber_what ?nf_BadNumber_number ?n_BadNumber_init ?tf_BadNumber ?kc_BadNumber ?ex_BadNumber ?ve_BadNumber ?ty_BadNumber ?sp_BadNumber ?mr_BadNumber ?l_BadNumber ?c_BadNumber ?hc_BadNumber ?hv_BadNumber ?hf_BadNumber ?hl_BadNumber ?ga_BadNumber ?gg_BadNumber ?hd_BadNumber ?te_BadNumber ?xl_TooMany ?rb_TooMany ?sa_TooMany ?nf_TooMany_what ?nf_TooMany_many ?nf_TooMany_limit ?n_TooMany_init ?tf_TooMany ?kc_TooMany ?ex_TooMany ?ve_TooMany ?ty_TooMany ?sp_TooMany ?mr_TooMany ?l_TooMany ?c_TooMany ?hc_TooMany ?hv_TooMany ?hf_TooMany ?hl_TooMany ?ga_TooMany ?gg_TooMany ?hd_TooMany ?te_TooMany ?pg_Straight ?hd_Straight ?po_Straight ?sa_Straight ?mk_Straight ?kc_Straight ?na_Straight_i ?na_Straight_n ?na_Straight_one ?ca_Straight ?mo_Straight ?pg_Place ?hd_Place ?po_Place ?sa_Place ?mk_Place ?kc_Place ?na_Place_straight ?na_Place_divisor ?ca_Place ?mo_Place ?pg_Loop ?hd_Loop ?po_Loop ?sa_Loop ?mk_Loop ?kc_Loop ?na_Loop_low ?na_Loop_high ?na_Loop_statements ?na_Loop_step ?na_Loop_down ?ca_Loop ?mo_Loop ?cg ?ct ?sup_ ?opq_ ?ki_S_S ?ki_int_S ?ki_P_P ?ki_int_P ?n_MOST_STATEMENTS ?r_MOST_STATEMENTS ?n_abs ?n_all ?n_bool ?n_int ?n_isinstance ?n_len ?n_list ?n_max ?n_range ?n_str ?n_tuple
    (case n_LoopError => k_is)
    (case n_BadNumber => k_is)
    (case n_TooMany => k_is)
    (case n_Straight => k_is)
    (case n_Place => k_is)
    (case n_Loop => k_is)
    (case n_common_divisor => k_is)
    (case l_common_divisor => k_is)
    (case c_common_divisor => k_is)
    (case k_common_divisor => k_is)
    (case n_Straight_init => k_is)
    (case i_Straight_init => k_is)
    (case l_Straight_init => k_is)
    (case c_Straight_init => k_is)
    (case k_Straight_init => k_is)
    (case n_Place_init => k_is)
    (case i_Place_init => k_is)
    (case l_Place_init => k_is)
    (case c_Place_init => k_is)
    (case k_Place_init => k_is)
    (case n_Place_call => k_is)
    (case i_Place_call => k_is)
    (case fi_Place_call => k_is)
    (case l_Place_call => k_is)
    (case c_Place_call => k_is)
    (case k_Place_call => k_is)
    (case n_straight_of => k_is)
    (case l_straight_of => k_is)
    (case c_straight_of => k_is)
    (case k_straight_of => k_is)
    (case n_place_of => k_is)
    (case l_place_of => k_is)
    (case c_place_of => k_is)
    (case k_place_of => k_is)
    (case n_Loop_init => k_is)
    (case i_Loop_init => k_is)
    (case l_Loop_init => k_is)
    (case kd_Loop_init_step => k_is)
    (case kr_Loop_init_step => first | exact rfl | exact ⟨_, rfl⟩)
    (case kd_Loop_init_down => k_is)
    (case kr_Loop_init_down => first | exact rfl | exact ⟨_, rfl⟩)
    (case c_Loop_init => k_is)
    (case k_Loop_init => k_is)
    (case n_Loop_least_counter => k_is)
    (case i_Loop_least_counter => k_is)
    (case l_Loop_least_counter => k_is)
    (case c_Loop_least_counter => k_is)
    (case k_Loop_least_counter => k_is)
    (case n_Loop_many_turns => k_is)
    (case i_Loop_many_turns => k_is)
    (case l_Loop_many_turns => k_is)
    (case c_Loop_many_turns => k_is)
    (case k_Loop_many_turns => k_is)
    (case n_Loop_counter_of => k_is)
    (case i_Loop_counter_of => k_is)
    (case l_Loop_counter_of => k_is)
    (case c_Loop_counter_of => k_is)
    (case k_Loop_counter_of => k_is)
    (case n_Loop_turn_of => k_is)
    (case i_Loop_turn_of => k_is)
    (case l_Loop_turn_of => k_is)
    (case c_Loop_turn_of => k_is)
    (case k_Loop_turn_of => k_is)
    (case n_check_number => k_is)
    (case l_check_number => k_is)
    (case c_check_number => k_is)
    (case k_check_number => k_is)
    (case n_check_formula => k_is)
    (case l_check_formula => k_is)
    (case c_check_formula => k_is)
    (case k_check_formula => k_is)
    (case n_pen => k_is)
    (case l_pen => k_is)
    (case c_pen => k_is)
    (case k_pen => k_is)
    (case n_draw => k_is)
    (case l_draw => k_is)
    (case c_draw => k_is)
    (case k_draw => k_is)
    (case n_big => k_is)
    (case l_big => k_is)
    (case c_big => k_is)
    (case k_big => k_is)
    (case n_integer => k_is)
    (case l_integer => k_is)
    (case c_integer => k_is)
    (case k_integer => k_is)
    (case n_counters => k_is)
    (case l_counters => k_is)
    (case c_counters => k_is)
    (case k_counters => k_is)
    (case n_range_row => k_is)
    (case l_range_row => k_is)
    (case c_range_row => k_is)
    (case k_range_row => k_is)
    (case n_refused_turn => k_is)
    (case l_refused_turn => k_is)
    (case c_refused_turn => k_is)
    (case k_refused_turn => k_is)
    (case n_small_right => k_is)
    (case l_small_right => k_is)
    (case c_small_right => k_is)
    (case k_small_right => k_is)
    (case n_far_right => k_is)
    (case l_far_right => k_is)
    (case c_far_right => k_is)
    (case k_far_right => k_is)
    (case n_law => k_is)
    (case l_law => k_is)
    (case c_law => k_is)
    (case k_law => k_is)
    (case xl_BadNumber => k_is)
    (case rb_BadNumber => decide +kernel)
    (case sa_BadNumber => k_is)
    (case nf_BadNumber_what => k_is)
    (case nf_BadNumber_number => k_is)
    (case n_BadNumber_init => k_is)
    (case tf_BadNumber => k_is)
    (case kc_BadNumber => k_is)
    (case ex_BadNumber => k_is)
    (case ve_BadNumber => k_is)
    (case ty_BadNumber => k_is)
    (case sp_BadNumber => kernel_rfl)
    (case mr_BadNumber => k_is)
    (case l_BadNumber => k_is)
    (case c_BadNumber => k_is)
    (case hc_BadNumber => k_is)
    (case hv_BadNumber => rfl)
    (case hf_BadNumber => first | rfl | decide +kernel | kernel_rfl)
    (case hl_BadNumber => k_is)
    (case ga_BadNumber => k_is)
    (case gg_BadNumber => k_is)
    (case hd_BadNumber => k_is)
    (case te_BadNumber => kernel_rfl)
    (case xl_TooMany => k_is)
    (case rb_TooMany => decide +kernel)
    (case sa_TooMany => k_is)
    (case nf_TooMany_what => k_is)
    (case nf_TooMany_many => k_is)
    (case nf_TooMany_limit => k_is)
    (case n_TooMany_init => k_is)
    (case tf_TooMany => k_is)
    (case kc_TooMany => k_is)
    (case ex_TooMany => k_is)
    (case ve_TooMany => k_is)
    (case ty_TooMany => k_is)
    (case sp_TooMany => kernel_rfl)
    (case mr_TooMany => k_is)
    (case l_TooMany => k_is)
    (case c_TooMany => k_is)
    (case hc_TooMany => k_is)
    (case hv_TooMany => rfl)
    (case hf_TooMany => first | rfl | decide +kernel | kernel_rfl)
    (case hl_TooMany => k_is)
    (case ga_TooMany => k_is)
    (case gg_TooMany => k_is)
    (case hd_TooMany => k_is)
    (case te_TooMany => kernel_rfl)
    (case pg_Straight => k_is)
    (case hd_Straight => k_is)
    (case po_Straight => k_is)
    (case sa_Straight => k_is)
    (case mk_Straight => k_is)
    (case kc_Straight => k_is)
    (case na_Straight_i => k_is)
    (case na_Straight_n => k_is)
    (case na_Straight_one => k_is)
    (case ca_Straight => k_is)
    (case mo_Straight => k_is)
    (case pg_Place => k_is)
    (case hd_Place => k_is)
    (case po_Place => k_is)
    (case sa_Place => k_is)
    (case mk_Place => k_is)
    (case kc_Place => k_is)
    (case na_Place_straight => k_is)
    (case na_Place_divisor => k_is)
    (case ca_Place => k_is)
    (case mo_Place => k_is)
    (case pg_Loop => k_is)
    (case hd_Loop => k_is)
    (case po_Loop => k_is)
    (case sa_Loop => k_is)
    (case mk_Loop => k_is)
    (case kc_Loop => k_is)
    (case na_Loop_low => k_is)
    (case na_Loop_high => k_is)
    (case na_Loop_statements => k_is)
    (case na_Loop_step => k_is)
    (case na_Loop_down => k_is)
    (case ca_Loop => k_is)
    (case mo_Loop => k_is)
    (case cg => k_is)
    (case ct => k_is)
    (case sup_ => k_is)
    (case opq_ => k_is)
    (case ki_S_S => kernel_rfl)
    (case ki_int_S => kernel_rfl)
    (case ki_P_P => kernel_rfl)
    (case ki_int_P => kernel_rfl)
    (case n_MOST_STATEMENTS => k_is)
    (case r_MOST_STATEMENTS => first | exact rfl | exact ⟨_, rfl⟩)
    (case n_abs => k_is)
    (case n_all => k_is)
    (case n_bool => k_is)
    (case n_int => k_is)
    (case n_isinstance => k_is)
    (case n_len => k_is)
    (case n_list => k_is)
    (case n_max => k_is)
    (case n_range => k_is)
    (case n_str => k_is)
    (case n_tuple => k_is)
#print axioms PySem.Challenge.cw_loopsize_k22_turns_of_loops_holds
