import PyProof.Rows.All
import Wide.All
import OpenK.AllK
import Wide.FinOn
import HandS.ForMost
import HandS.ForExc
import HandS.Lambda
import HandS.Conv
import HandS.ExcInit
import HandS.ExcInitHot
import KE.KExcSuper
import KE.KSuper
import HandS.HeadWalk
import PySem.Str
import PySem.Builtin.Int.W1All
import PySem.Builtin.Range.Common
import HandS.Head0
import HandS.Head1
import HandS.Head2
import HandS.HeadEnd
import HandS.HeadHook1
import HandS.HeadHook2
import HandS.HeadHook3
import HandS.HeadHook4
import HandS.Deep
import HandS.Style
import HandS.IsInst
import HandS.ExcIs
import HandS.ExcField
import HandS.ExcOwn
import HandS.ExcCtx
import HandS.HotCalls
import HandS.TupAny
import HandS.TupLe
import HandS.RepeatKit
import HandS.Wide
import HandS.TupMul
import PyProof.P3In
import HandS.Dict
import HandS.Steps
import KE.KEqDict
import HandS.More
import HandS.Defaults
import HandS.CallLocal
import HandS.CallSlots
import KE.GoesMore
import KE.GoesEnum
import HandS.Zip
import HandS.DictTup
import HandS.SortInts
import HandS.TupSets
import KE.KDictPairs
import HandS.Comp
import HandS.Hot
import KE.KUnpack
import HandS.TryOnly
import HandS.SetFor
import KE.DataMinMax
import KE.SortData
import PyProof.Rows.RowBridgeK
import PyProof.TableCode
import PySem.Challenge.RW_cordscrossed_k38_errors_of_smoothings
set_option Elab.async false
section
set_option linter.all false
set_option maxRecDepth 100000
set_option maxHeartbeats 2000000
namespace L2
open PySem PySem.Spec PyProof.Rows
/-! ### an own exception under ValueError: __init__(self, limit): super().__init__(limit); self.limit = limit -/
def supNames : List (Str × NameKind) := [("self", .local), ("limit", .local), ("__class__", .free), ("super", .globalImplicit)]
/-- the class at C and its __init__ at fI -/
structure SupI (P : Program) (K : PySem.W.Frag) (mg : Str → Option Value) (C fI : Addr) (fd : FuncData) : Prop where
  ex : ∃ (nm qual : Str) (params : Arguments) (scope : Scope) (dV kV doc pm ct oc : Value) (an od : Option Addr) (osl : Array (Option Value)) (cc cda : Addr) (p1 p2 p3 p4 p5 p6 p7 p8 p9 p10 : Pos) (ar : Arg) (oc2 oc3 : Value) (od2 od3 : Option Addr) (osl2 osl3 : Array (Option Value)) (vs : Array Value) (file : Str) (tf : Tok) (cd : ClassData),
    fd = PySem.W.ksFn nm qual params [.Expr (.Call (.Attribute (.Call (.Name "super" p1) [] [] p2) "__init__" p3) [.Name "limit" p4] [] p5) p6, .Assign [.Attribute (.Name "self" p7) "limit" p8] (.Name "limit" p9) p10] scope dV kV doc pm an (.ref cda) ct cc ∧
    K.lookup fI = some ⟨oc, od, .func fd, osl⟩ ∧ PySem.W.codeIn K (.ref cda) qual = true ∧ K.lookup cc = some ⟨oc2, od2, .cell (some (.ref C)), osl2⟩ ∧ K.lookup cda = some ⟨oc3, od3, .fields vs, osl3⟩ ∧ vs[2]? = some (.str file tf) ∧ ((P.main.file : Str) == file) = true ∧
    (P.main.scope.names.lookup ("super" : Str)).isSome = false ∧ (params.posonlyargs ++ params.args).head? = some ar ∧ ar.arg = "self" ∧ scope.names = supNames ∧ scope.kind = .function ∧ scope.isCoroutine = false ∧ scope.isGenerator = false ∧
    PySem.W.clsIn K C = some cd ∧ PySem.W.mroIn K C (.ref C) = some true ∧ PySem.W.nsIn K cStatics "thirdparty.any" = some none ∧ PySem.W.ks_superIn K C C "__init__" = some (some (.builtin "ValueError.__init__")) ∧ PySem.W.subIn K (.ref C) (.type "ValueError") = some true ∧ (p3.endLine == p5.line) = true
  bnd : ∀ (s : Shared) (us : List Value), K.In s.heap → us.length = 2 → BindsTo s fd ⟨us, []⟩ ([("self" : Str), "limit"].zip us)
  sup : mg "super" = none
  T : OexC K C
  lim : PySem.W.findIn K (.ref C) "limit" = some none
  ini : PySem.W.findIn K (.ref C) "__init__" = some (some (.ref fI))
  ty : PySem.W.typeIn K (.ref fI) = some (.type "function")
theorem boot_super0 : bootBuiltins "super" = some (.type "super") := by first | boot_by_name | kernel_rfl
/-- what the __init__ promises -/
def spLim (C : Addr) : Sp := fun vs H Q _ => ∃ (a : Addr) (i : Int), vs = [.ref a, .int i] ∧ H a = some (exo a C none) ∧ ∀ dx, H dx = none → dx ≠ a → Q .non (upd (upd H dx (exd dx [("limit", .int i)])) a (exo a C (some dx)))
/-- its body's context -/
def cxSup (P : Program) (w : World) (K : PySem.W.Frag) (mg : Str → Option Value) (base : Heap) (qual : Str) (scope : Scope) (f cda cc : Addr) (A : Around) (outer : List Env) (s : Shared) (H : Hp) : Cx where
  prog := P
  w := w
  K := K
  mg := mg
  base := base
  A := A.deeper (PySem.W.ksEnv qual scope s.heap.objs.size f (.ref cda) cc)
  N := ["self", "limit"]
  s_0 := s
  H_0 := H
  env := PySem.W.ksEnv qual scope s.heap.objs.size f (.ref cda) cc
  outer := outer
  stack := PySem.W.ksEnv qual scope s.heap.objs.size f (.ref cda) cc :: outer
  ex := []
  fn := fun _ => false
  calm := true
  pn := []
  xe := fun _ _ => False
section
variable {P : Program} {w : World} {K : PySem.W.Frag} {mg : Str → Option Value} {base : Heap} {qual : Str} {scope : Scope} {f cda cc : Addr} {A : Around} {outer : List Env} {s : Shared} {H : Hp} {a : Addr} {i : Int} {t : Tok} {h₀ : Heap} {tk : Nat}
theorem inv_sup (hd : A.handled = none) (e0 : Env0 P w K mg base A outer s H) (hn : scope.names = supNames) (hk : scope.kind = .function) {oc : Value} {od : Option Addr} {osl : Array (Option Value)} {v : Option Value}
    (hcc : K.lookup cc = some ⟨oc, od, .cell v, osl⟩) (ns : h₀.Ns s.heap.objs.size (fun x => ([(("self" : Str), Value.ref a), ("limit", .int i t)] : List (Str × Value)).reverse.lookup x)) (kp : ∀ b o, s.heap.get? b = some o → h₀.get? b = some o) :
    Inv (cxSup P w K mg base qual scope f cda cc A outer s H) [] [some (.ref a), some (.int i)] H { s with heap := h₀, toks := tk } := by
  have bcc := e0.mod.kin cc _ hcc
  obtain ⟨scc, ncc⟩ := e0.bs cc _ bcc
  have one : ∀ {y : Str} {c : Addr}, (cxSup P w K mg base qual scope f cda cc A outer s H).env.cells.lookup y = some c → y = "__class__" ∧ c = cc := fun {y c} e => by
    have e : List.lookup y [(("__class__" : Str), cc)] = some c := e
    rw [List.lookup_cons] at e
    by_cases hy : (y == ("__class__" : Str)) = true
    · rw [hy] at e
      exact ⟨eq_of_beq hy, (Option.some.inj e).symm⟩
    · rw [Bool.not_eq_true] at hy
      rw [hy] at e
      cases e
  have noA : ∀ b : Addr, b ∉ (cxSup P w K mg base qual scope f cda cc A outer s H).ex := fun b z => absurd (show b ∈ ([] : List Addr) from z) (by simp)
  refine ⟨⟨e0.mod, hk, rfl, rfl, Nat.le_refl _, fun y z c e1 e2 => (one e1).1.trans (one e2).1.symm, fun y hy => ?_, fun y c z _ => Bool.noConfusion (show false = true from z), fun _ => hd, Around.frames_deeper e0.frames, .inr ⟨rfl, rfl⟩, fun b z => absurd z (noA b), e0.bs, e0.bsz, fun b _ _ => noA b, fun b z => absurd z (noA b), e0.funs, e0.frf⟩,
    rfl, e0.bare, Un.kept kp, ⟨_, ns, fun j y v e1 e2 e3 => ?_⟩, fun y c e => ⟨v, ?_⟩, e0.hok.fresh (Nat.le_refl _), fun y c e => by rw [(one e).2]; exact ncc, fun p hp => absurd (show p ∈ ([] : List (Addr × Obj)) from hp) (by simp), e0.hok.kept kp, rfl⟩
  · have hy : scope.names.lookup y = some .cell ∨ scope.names.lookup y = some .free := hy
    rw [hn] at hy
    unfold supNames at hy
    simp only [List.lookup_cons, List.lookup_nil] at hy
    by_cases q : (y == ("__class__" : Str)) = true
    · exact ⟨cc, by show List.lookup y [(("__class__" : Str), cc)] = _; rw [List.lookup_cons, q]⟩
    · rw [Bool.not_eq_true] at q
      rw [q] at hy
      exfalso
      revert hy
      cases (y == ("self" : Str)) <;> cases (y == ("limit" : Str)) <;> cases (y == ("super" : Str)) <;> simp
  · match j with
    | 0 =>
      cases e1
      cases e2
      exact ⟨.ref a, rfl, .inl ⟨by show scope.names.lookup _ = _; rw [hn]; rfl, rfl⟩⟩
    | 1 =>
      cases e1
      cases e2
      exact ⟨.int i t, ⟨t, rfl⟩, .inl ⟨by show scope.names.lookup _ = _; rw [hn]; rfl, rfl⟩⟩
    | j + 2 => cases e1
  · rw [(one e).2]
    exact ⟨_, kp _ _ scc, rfl⟩
theorem sup_fnOk {C fI : Addr} {fd : FuncData} (S : SupI P K mg C fI fd) : FnOk P w K mg base (L2N.CX P w) 1 fI fd ["self", "limit"] (spLim C) := by
  obtain ⟨nm, qual, params, scope, dV, kV, doc, pm, ct, oc, an, od, osl, cc, cda, p1, p2, p3, p4, p5, p6, p7, p8, p9, p10, ar, oc2, oc3, od2, od3, osl2, osl3, vs, file, tf, cd, efd, lk, hcd, hcc, hca, hvs, hfile, htop, har, hars, hn, hk, hco, hgen, hcls, hmro, hop, hsup, hsub, hline⟩ := S.ex
  refine ⟨fun vs H Q E ⟨a, i, e, _⟩ => by rw [e]; rfl, ?_⟩
  intro A outer s H args us vs' Q E hr e0 hb rv ⟨a, i, ev, ha, hq⟩
  subst ev
  cases rv with
  | cons r1 rr => cases rr with | cons r2 rr =>
  cases rr
  cases r1
  obtain ⟨t, et⟩ := r2
  subst et
  have KX : K.In s.heap := e0.mod.kin.keeps fun b o e => (e0.bs b o e).1
  have lim : s.heap.NoLimit := e0.mod.nolimit.keeps fun b o e => (e0.bs b o e).1
  have lk0 := lk
  subst efd
  refine PySem.ks_codeAny_call_defAt (binds := [(("self" : Str), Value.ref a), ("limit", .int i t)]) hr.depth (KX _ _ lk) rfl lim (PySem.W.codeRec_of KX hcd) rfl hb (fun x hx => ?_) (fun x hx => ?_) (fun h₀ ns kp => ?_) hco hgen hk
  · have hx : x ∈ scope.names := hx
    rw [hn] at hx
    unfold supNames at hx
    simp only [List.mem_cons, List.not_mem_nil, or_false] at hx
    rcases hx with e | e | e | e <;> subst e <;> simp
  · show scope.names.lookup x.1 = some .local
    rw [hn]
    simp only [List.mem_cons, List.not_mem_nil, or_false] at hx
    rcases hx with e | e <;> subst e <;> rfl
  have I := inv_sup (P := P) (w := w) (mg := mg) (base := base) (qual := qual) (f := fI) (cda := cda) (A := A) (outer := outer) (tk := s.toks + [(("self" : Str), Value.ref a), ("limit", .int i t)].length) hr.hd e0 hn hk hcc ns kp
  generalize htk : s.toks + [(("self" : Str), Value.ref a), ("limit", .int i t)].length = tk at I
  have hself : (([(("self" : Str), Value.ref a), ("limit", .int i t)] : List (Str × Value)).reverse.lookup ("self" : Str)) = some (.ref a) := rfl
  have hlimit : (([(("self" : Str), Value.ref a), ("limit", .int i t)] : List (Str × Value)).reverse.lookup ("limit" : Str)) = some (.int i t) := rfl
  have kself : scope.names.lookup ("self" : Str) = some .local := by rw [hn]; rfl
  have klimit : scope.names.lookup ("limit" : Str) = some .local := by rw [hn]; rfl
  have ksuper : scope.names.lookup ("super" : Str) = some .globalImplicit := by rw [hn]; rfl
  have kclass : scope.names.lookup ("__class__" : Str) = some .free := by rw [hn]; rfl
  generalize henv : PySem.W.ksEnv qual scope s.heap.objs.size fI (.ref cda) cc = env
  have eloc : env.locals = s.heap.objs.size := by rw [← henv]
  have kxe : ∀ x k, scope.names.lookup x = k → env.kindOf x = k := fun x k e => by rw [← henv]; exact e
  have ekind : env.scope.kind = .function := by rw [← henv]; exact hk
  have ecode : env.code = .ref cda := by rw [← henv]
  have efun : env.func = some fI := by rw [← henv]
  have he : eval (.Call (.Attribute (.Call (.Name "super" p1) [] [] p2) "__init__" p3) [.Name "limit" p4] [] p5) env = (do
      let ov ← attributeBase (.Call (.Name "super" p1) [] [] p2) "__init__" env (eval (.Call (.Name "super" p1) [] [] p2) env)
      standAt p3.atName
      let (f, first) ← holding [ov] (getMethod ov "__init__" (plainOf (.Call (.Name "super" p1) [] [] p2) env))
      callWith p5 f first (backTo p5 (starEach [.Name "limit" p4] env)) []) := by
    rw [arm_eval_Call]
    refine congrArg (fun k => attributeBase (.Call (.Name "super" p1) [] [] p2) "__init__" env (eval (.Call (.Name "super" p1) [] [] p2) env) >>= k) (funext fun ov => congrArg (fun k => standAt p3.atName >>= fun _ => k) ?_)
    rw [mcall_line rfl hline]
    rfl
  have X0 : K.In h₀ := fun b o e => kp b o (KX b o e)
  have hcl := PySem.W.looks_clsIn (M := model P w) X0 hcls
  have eC : (cxSup P w K mg base qual scope fI cda cc A outer s H).env = env := henv
  obtain ⟨oD, hD1, hD2⟩ : ∃ oD, h₀.get? C = some oD ∧ oD.data = .cls cd := by
    have z := hcls
    unfold PySem.W.clsIn at z
    split at z
    · rename_i c d cd' sl ho
      cases z
      exact ⟨_, X0 _ _ ho, rfl⟩
    · cases z
  obtain ⟨t1, hoe⟩ := exo_at I.hok ha
  have hbase : ∀ (E' : Value → Shared → Prop) (R : Value → Shared → Prop), (∀ h', h'.get? h₀.objs.size = some (PySem.W.ks_superObj C a C) → (∀ y o, h₀.get? y = some o → h'.get? y = some o) → R (.ref h₀.objs.size) ⟨h', s.gens, s.drawn, tk, s.os⟩) →
      PySem.wpAt (model P w) (A.deeper env) (.func [.Expr (.Call (.Attribute (.Call (.Name "super" p1) [] [] p2) "__init__" p3) [.Name "limit" p4] [] p5) p6, .Assign [.Attribute (.Name "self" p7) "limit" p8] (.Name "limit" p9) p10] env)
        (attributeBase (.Call (.Name "super" p1) [] [] p2) "__init__" env (eval (.Call (.Name "super" p1) [] [] p2) env)) R E' ⟨h₀, s.gens, s.drawn, tk, s.os⟩ := fun E' R hq => by
    refine PySem.ks_wpAt_super_base (env := env) (attr := "__init__") (kxe _ _ ksuper) (kxe _ _ kclass) (by decide) efun (X0 _ _ lk) rfl har ecode (X0 _ _ hca) rfl hvs hfile htop ?_
    obtain ⟨mb, b1, b2⟩ := I.mod.blt
    refine PySem.W.ks_loadName_global ekind (kxe _ _ ksuper) (Calls.loadGlobal_builtin (env := env) (by rw [← henv]; exact I.mod.glob.keeps I.bk) S.sup (by rw [← henv]; exact b1.keeps I.bk) ((b2 "super" (by decide)).trans boot_super0) ⟨rfl, ?_⟩)
    refine wpAny_loadName_free (c := cc) ekind (kxe _ _ kclass) (by rw [← henv]; rfl) ⟨_, X0 _ _ hcc, rfl⟩ ?_
    rw [hars]
    refine wpAny_loadName_local ekind (kxe _ _ kself) (by rw [eloc]; exact ns) hself ?_
    refine PySem.ks_wpAny_isType_cls hD1 hD2 ⟨rfl, ?_⟩
    exact PySem.ks_wpAny_call_super hD1 hD2 hoe rfl (fun c z => by cases z) (PySem.W.looks_mroIn X0 hmro) hq
  obtain ⟨nm', q', N', bs, bm, sn, sub, ab, col, dd, k0, k1, k2, k3, k5, hC, hbm⟩ := S.T.cls
  -- behind the first statement
  have key : ∀ (s3 : Shared), Inv (cxSup P w K mg base qual scope fI cda cc A outer s H) [] [some (.ref a), some (.int i)] H s3 →
      PySem.wpAt (model P w) (A.deeper env) (.func [.Expr (.Call (.Attribute (.Call (.Name "super" p1) [] [] p2) "__init__" p3) [.Name "limit" p4] [] p5) p6, .Assign [.Attribute (.Name "self" p7) "limit" p8] (.Name "limit" p9) p10] env)
        (execs [.Assign [.Attribute (.Name "self" p7) "limit" p8] (.Name "limit" p9) p10] env) (fun f s' => CR (L2N.CX P w) outer P w H s Q E (.ok (.ret (match f with | .ret v => v | _ => .none))) s')
        (fun e s' => wpAny (model P w) (A.deeper env) (leaving env e) (fun _ s'' => CR (L2N.CX P w) outer P w H s Q E (.error e) s'') (fun e' s'' => CR (L2N.CX P w) outer P w H s Q E (.error e') s'') s') s3 := fun s3 I3 => by
    have p := pss_one (ps_ost (X := cxSup P w K mg base qual scope fI cda cc A outer s H) (f := "limit") (pos := p10) (p' := p8) (pe_var (pos := p7) (i := 0) rfl (.inl kself) (by decide) (by decide)) (pe_var (pos := p9) (i := 1) rfl (.inl klimit) (by decide) (by decide)))
    have z := p.run [] s3 _ H { nx := fun _ H' => Q .non H', rt := Q } I3 ⟨.int i, rfl, .ref a, rfl, a, C, rfl, S.T, S.lim, .inl ⟨ha, fun dx n ne => hq dx n ne⟩⟩
    rw [eC] at z
    have eA : (cxSup P w K mg base qual scope fI cda cc A outer s H).A = A.deeper env := by rw [← henv]; rfl
    rw [eA] at z
    refine PySem.wpAt_of_wpAny (wpAny_mono z (fun f s' h => ?_) (fun e s' h => False.elim h))
    · cases f with
      | next =>
        obtain ⟨σ', H', J, q⟩ := h
        exact ⟨.non, H', J.os, J.bare, J.base, J.hok, rfl, q⟩
      | brk =>
        obtain ⟨_, _, _, q⟩ := h
        exact q.elim
      | cont =>
        obtain ⟨_, _, _, q⟩ := h
        exact q.elim
      | ret u =>
        obtain ⟨v, σ', H', J, r, q⟩ := h
        exact ⟨v, H', J.os, J.bare, J.base, J.hok, r, q⟩
  have start : PySem.wpAt (model P w) (A.deeper env) (.func [.Expr (.Call (.Attribute (.Call (.Name "super" p1) [] [] p2) "__init__" p3) [.Name "limit" p4] [] p5) p6, .Assign [.Attribute (.Name "self" p7) "limit" p8] (.Name "limit" p9) p10] env)
        (execs [.Expr (.Call (.Attribute (.Call (.Name "super" p1) [] [] p2) "__init__" p3) [.Name "limit" p4] [] p5) p6, .Assign [.Attribute (.Name "self" p7) "limit" p8] (.Name "limit" p9) p10] env) (fun f s' => CR (L2N.CX P w) outer P w H s Q E (.ok (.ret (match f with | .ret v => v | _ => .none))) s')
        (fun e s' => wpAny (model P w) (A.deeper env) (leaving env e) (fun _ s'' => CR (L2N.CX P w) outer P w H s Q E (.error e) s'') (fun e' s'' => CR (L2N.CX P w) outer P w H s Q E (.error e') s'') s') ⟨h₀, s.gens, s.drawn, tk, s.os⟩ := by
    refine PySem.ks_wpAt_execs_cons (PySem.ks_wpAt_Expr_any (PySem.ks_wpAt_MethodCall (pl := plainOf (.Call (.Name "super" p1) [] [] p2) env) (hbase _ _ fun h1 g1 k1 => ?_) he) (by rw [← eC]; exact I.quiet) (by rfl))
    have X1 : K.In h1 := fun b o e => k1 b o (X0 b o e)
    have hoe1 := k1 _ _ hoe
    have ne : a ≠ C := fun z => by
      rw [z, hD1] at hoe
      cases hoe
      cases hD2
    have inst : PySem.W.InstAt h1 a _ C none := ⟨hoe1, rfl, rfl, trivial⟩
    have hI : PySem.W.Looks (model P w) h1 (isInstance (.ref a) (.type "ValueError")) true := inst.type.andThen (PySem.W.looks_subIn X1 hsub)
    have hsup' : PySem.W.alongIn K "__init__" ((cd.mro.dropWhile (· != .ref C)).drop 1) = some (some (.builtin "ValueError.__init__")) := by
      unfold PySem.W.ks_superIn at hsup
      rw [hcls] at hsup
      exact hsup
    refine PySem.W.kxs_getMethod PySem.W.kxs_ValueError g1 (PySem.W.looks_opaque X1 hop) (l₀ := cd.mro) (fun A Q E s k q => wpAny_bind ((PySem.W.looks_clsIn X1 hcls) A _ E s k (wpAny_pure q))) rfl X1 hsup' hI ne (by decide) ?_
    -- the method-wrapper is called
    have hu : (h1.push (PySem.W.kxs_mw "ValueError.__init__" a)).get? h1.objs.size = some (PySem.W.kxs_mw "ValueError.__init__" a) := Heap.get?_push_size _ rfl
    refine PySem.W.kxs_callWith (i := "ValueError.__init__") (x := a) (by rfl) (Calls.evalArgs_plain (Calls.spliced_cons (wpAny_Name (wpAny_loadName_local ekind (kxe _ _ klimit) (by rw [eloc]; exact ns.keeps fun b o e => Heap.get?_push_of_some _ (k1 b o e)) hlimit (Calls.spliced_nil ⟨hu, ?_⟩)) (by decide))))
    have I1 : Inv (cxSup P w K mg base qual scope fI cda cc A outer s H) [] [some (.ref a), some (.int i)] H ⟨h1.push (PySem.W.kxs_mw "ValueError.__init__" a), s.gens, s.drawn, tk + 1, s.os⟩ := I.kept fun b o e => Heap.get?_push_of_some _ (k1 b o e)
    have he2 : (h1.push (PySem.W.kxs_mw "ValueError.__init__" a)).get? a = some (PySem.W.excObj C t1 none .none) := Heap.get?_push_of_some _ hoe1
    refine wpAny_call (codeAny_of_tree ?_)
    show wpAny _ (A.deeper env).in1 (callAny (.ref h1.objs.size) ⟨[.int i t], []⟩) _ _ _
    simp only [callAny]
    refine wpAny_bind (wpAny_load hu ?_)
    simp only [PySem.W.kxs_mw, show (Value.type "method-wrapper" == Value.type "method" || Value.type "method-wrapper" == Value.type "builtin_function_or_method" || Value.type "method-wrapper" == Value.type "method-wrapper") = true by decide, if_true]
    refine PySem.W.KFB.if_so (by decide) (wpAny_bind (PySem.W.check_bound_init F.excBase_ValueError.toExcCallFacts (I1.kIn _ _ hC) he2 rfl (wpAny_bind (wpAny_pure (wpAny_pure ?_)))))
    refine ⟨plainId_quiet F.excBase_ValueError.init.plain _, codeAny_builtin F.excBase_ValueError.initEntry ?_⟩
    refine PySem.W.exc_init_tree (cls := .ref C) (t0 := t1) (dv := none) (c2 := .none) (c3 := .none) (b4 := .bool false) he2 (by rw [sizeLine_eq]; simp) fun h3 k3 hx3 _ => ?_
    have J := I1.write (t' := tk + 1) (x := a) (e := a) (o := exo a C none) (by rw [ha]; exact True.intro) (.inl rfl) k3 ⟨_, hx3⟩ (exo_ok hx3)
    have eu : upd H a (exo a C none) = H := by
      funext b
      by_cases hb : b = a
      · rw [hb, upd_same, ha]
      · rw [upd_ne hb]
    rw [eu] at J
    exact key _ J
  subst htk henv
  exact start
end
/-- C(e): the exception bears the number -/
theorem pmk_lim {X : Cx} {x : Str} {e : Expr} {te : TE} {p pos : Pos} {C fI : Addr} {fd : FuncData} (S : SupI X.prog X.K X.mg C fI fd) (hr : Room 2 X.A) (hg : Gl X x) (hm : X.mg x = some (.ref C)) (he : PE X e te) (hdb : (x == ("__debug__" : Str)) = false) (hst : starEach [e] X.env = (false, eval e X.env) :: starEach [] X.env) :
    L2N.PMk X (.Call (.Name x p) [e] [] pos) (fun σ H Q => te σ H fun v H1 => ∃ i, v = .int i ∧ ∀ d, H1 d = none → Q (.ref C) (some d) (upd H1 d (.xd [("limit", .int i)]))) := by
  intro pins s σ H Q I h
  obtain ⟨nm, q, N, bs, bm, sn, sub, ab, col, dd, k0, k1, k2, k3, k5, hC, hbm⟩ := S.T.cls
  have F1 := sup_fnOk (w := X.w) (base := X.base) S
  refine wpAny_Call_Name_kw (ld_glob I hg hm ?_ hdb)
  have ha : wpAny (model X.prog X.w) X.A (spliced (backTo pos (starEach [e] X.env))) (fun us t => ∃ u, us = [u] ∧ ∃ v H1, Inv X pins σ H1 t ∧ RelV v u ∧ ∃ i, v = V.int i ∧ ∀ d, H1 d = none → Q (.ref C) (some d) (upd H1 d (.xd [("limit", .int i)]))) X.xe s := by
    rw [hst]
    exact Calls.spliced_cons (thn (he.run pins s σ H _ I h) fun u t ⟨v, H1, I1, r1, q1⟩ => Calls.spliced_nil ⟨u, rfl, v, H1, I1, r1, q1⟩)
  refine PySem.W.callWith_K (h₀ := X.base) I.ok.mod.kin S.T.kC (thn ha fun us t ⟨u, eu, v, H1, I1, r1, i, ei, q1⟩ => ⟨I1.kIn, ?_⟩) hst rfl
  subst eu ei
  show wpAny _ _ (call (.ref C) [u]) _ _ _
  obtain ⟨hp, g, dr, tk, os⟩ := t
  have big : hp.objs.size ≤ hp.objs.size + 1 := Nat.le_succ _
  generalize ea : hp.objs.size + 1 = a at big
  have na : H1 a = none := I1.hok.fresh big
  have kk : ∀ b o, hp.get? b = some o → ((hp.push (PySem.W.kdv_tup [u])).push (PySem.HandSPX.excO C hp.objs.size)).get? b = some o := fun b o z => Heap.get?_push_of_some _ (Heap.get?_push_of_some _ z)
  have hget : ((hp.push (PySem.W.kdv_tup [u])).push (PySem.HandSPX.excO C hp.objs.size)).get? a = some (PySem.HandSPX.excO C hp.objs.size) := by rw [← ea]; heap_get
  have I2 : Inv X pins σ (upd H1 a (exo a C none)) ⟨(hp.push (PySem.W.kdv_tup [u])).push (PySem.HandSPX.excO C hp.objs.size), g, dr, tk, os⟩ :=
    I1.laid (t' := tk) (a := a) (o := exo a C none) (h' := (hp.push (PySem.W.kdv_tup [u])).push (PySem.HandSPX.excO C hp.objs.size)) kk big (exo_ok hget)
  have r2 : Vals [V.ref a, V.int i] [Value.ref a, u] := .cons rfl (.cons r1 .nil)
  have hq : spLim C [.ref a, .int i] (upd H1 a (exo a C none)) (fun v H2 => v = .non ∧ ∃ (d : Addr) (fs : List (Str × V)), H2 a = some (exo a C (some d)) ∧ H2 d = some (exd d fs) ∧ H1 d = none ∧ Q (.ref C) (some d) (upd (del H2 a) d (.xd fs))) (fun _ _ _ => False) := by
    refine ⟨a, i, rfl, upd_same, fun dx nx ne => ⟨rfl, dx, _, upd_same, by rw [upd_ne ne, upd_same], by rw [upd_ne ne] at nx; exact nx, ?_⟩⟩
    have nx1 : H1 dx = none := by rw [upd_ne ne] at nx; exact nx
    have eH : upd (del (upd (upd (upd H1 a (exo a C none)) dx (exd dx [("limit", .int i)])) a (exo a C (some dx))) a) dx (.xd [("limit", .int i)]) = upd H1 dx (.xd [("limit", .int i)]) := by
      funext b
      by_cases hb : b = dx
      · rw [hb, upd_same, upd_same]
      · rw [upd_ne hb, upd_ne hb]
        by_cases hb2 : b = a
        · rw [hb2, del_same, na]
        · rw [del_ne hb2, upd_ne hb2, upd_ne hb, upd_ne hb2]
    rw [eH]
    exact q1 dx nx1
  have b2 := S.bnd ⟨(hp.push (PySem.W.kdv_tup [u])).push (PySem.HandSPX.excO C hp.objs.size), g, dr, tk, os⟩ [Value.ref a, u] I2.kIn rfl
  refine wpAny_call (PySem.HandSPX.call_own F.excBase_ValueError (fun Y => PySem.HandSPX.refsVE_contains Y bm hbm) (I1.kIn _ _ hC) (PySem.W.looks_findIn I1.kIn S.ini) (fun self => PySem.W.bind_fn I1.kIn self S.ty) (by rw [sizeLine_eq]; simp)
    (codeAny_mono (by rw [ea]; exact F1.run _ X.stack _ _ ⟨[Value.ref a, u], []⟩ [Value.ref a, u] _ _ (fun _ _ _ => False) (hr.make C [u] []) (I2.env0.make C [u] []) b2 r2 hq) fun r s' hq' => ?_))
  cases r with
  | error er =>
    obtain ⟨_, _, _, _, _, _, _, _, _, _, _, _, z⟩ := hq'
    exact z.elim
  | ok fl =>
    cases fl with
    | ret w' =>
      obtain ⟨v, H2, os2, bare2, un2, hok2, rv, ev, d, fs, xa, xd, hd1, q2⟩ := hq'
      subst ev
      obtain ⟨h2, g2, d2, t2, os'⟩ := s'
      obtain ⟨t0, G, J, kG, ge, hoe, na2⟩ := mk_end0 (d2 := d2) (t2 := t2) I1 big kk un2 hok2 os2 bare2 xa xd hd1
      refine ⟨rv, ?_⟩
      rw [ea]
      exact ⟨a, _, _, ⟨G, g2, d2, t2, os'⟩, _, .ref C, some d, rfl, J, kG, ge, hoe, ⟨rfl, rfl, fun vs hv => by cases hv; rfl⟩, rfl, rfl, na2, rfl, bare2, raises_own S.T.exC S.T.tyC, q2⟩
    | next => exact False.elim hq'
    | brk => exact False.elim hq'
    | cont => exact False.elim hq'
end L2
end

section
set_option linter.all false
/-! the evaluator: plain values, an IR with slots -/
namespace Eng
open PySem

inductive D where
  | non | bl (b : Bool) | int (i : Int) | str (s : Str)
  | tup (l : List D) | lst (l : List D) | dic (ks vs : List D) | set (l : List D)
  | fn (k : Nat) | clo (k : Nat) (env : List (Option (D × Nat))) | exc (c : Nat) (a : Option D)
instance : Inhabited D := ⟨.non⟩
abbrev Env := List (Option (D × Nat))

inductive Op | add | sub | mul | mod | fdiv | pow | shl | xor | and
inductive Cm | eq | ne | lt | le | gt | ge | is | isnot | isin | notin
inductive Ty | int | bool | str | tuple | list | dict | own (c : Nat)
inductive B | len | abs | tuple | list | sorted | sum | min | max | min2 | max2 | maxd | any | all | int | str | dict | gcd | lenset | sortset | set
inductive M | get | index | count | join
mutual
inductive T where
  | nm (i : Nat) (lv : Nat) | tp (ts : List T) | st (i : Nat) (k : E)
inductive It where
  | val (e : E) | rng (es : List E) | enum (e : E) | zip (a b : E) | zip3 (a b c : E) | items (e : E) | vals (e : E) | lval (e : E)
inductive E where
  | var (i : Nat) | bor (i : Nat) | mov (i : Nat) | loan (i : Nat)
  | con (d : D) | fn (k : Nat)
  | tup (es : List E) | lst (es : List E) | dic (ks vs : List E)
  | bin (o : Op) (a b : E) | neg (a : E) | not (a : E) | and (a b : E) | or (a b : E)
  | cmp (o : Cm) (a b : E) | cmp2 (o o' : Cm) (a b c : E) | cmp3 (o o' o'' : Cm) (a b c d : E)
  | ite (t a b : E)
  | ix (a i : E) | ixp (i : Nat) (es : List E) | sl (a : E) (lo hi : Option E) | rev (a : E) | slr (a : E) (lo hi : Option E)
  | call (k : Nat) (es : List E) | callv (f : Nat) (es : List E) | lam (k : Nat) (j : Nat) | pad (e : E)
  | bi (b : B) (es : List E) | bit (b : B) (i : It) | mt (m : M) (o : E) (es : List E)
  | pop (i : Nat) (es : List E)
  | catl (a b : E)
  | isi (a : E) (ts : List Ty) | attr (a : E)
  | lc (own : List Nat) (elt : E) (t : T) (i : It) (ifs : List E)
  | lc2 (own own1 : List Nat) (elt : E) (t : T) (i : It) (ifs : List E) (t1 : T) (i1 : It) (ifs1 : List E)
end
instance : Inhabited E := ⟨.bor 0⟩
inductive S where
  | asg (t : T) (e : E) | asgt (ts : List T) (es : List E) | asgs (ts : List T) (e : E)
  | seti (i : Nat) (k e : E) | setp (i : Nat) (ps : List E) (k e : E)
  | swp (i : Nat) (a b : E)
  | app (i : Nat) (ps : List E) (e : E) | upd (i : Nat) (e : E) | setd (i : Nat) (k e : E) | setda (i : Nat) (k e : E)
  | expr (e : E) | ret (e : E) | retN
  | ite (t : E) (a b : List S) | for_ (t : T) (i : It) (b : List S) | whl (t : E) (b : List S)
  | brk | pass | rais (c : Nat) (a : Option E) | try_ (b : List S) (c : Nat) (slot : Option Nat) (h : List S)
structure Fn where
  nslots : Nat
  npar : Nat
  inout : List Nat
  body : List S
structure Mod where
  fns : List Fn
  lams : List E
  sub : Nat → Nat → Bool
  takers : List Nat
  /-- the suite behind a call that raised: its statements, its slots, the class it catches, how many classes there are -/
  suite : List S
  nsu : Nat
  cE : Nat
  ncls : Nat

inductive R where
  | ok (d : D) (n : Nat) (env : Env)
  | ex (c : Nat) (a : Option D) (env : Env)
  | bad
inductive RL where
  | ok (ds : List (D × Nat)) (env : Env)
  | ex (c : Nat) (a : Option D) (env : Env)
  | bad
inductive F where
  | nx (env : Env) | rt (d : D) (n : Nat) (env : Env) | bk (env : Env)
  | ex (c : Nat) (a : Option D) (env : Env)
  | bad
inductive RC where
  | ok (d : D) (n : Nat) (outs : List (Nat × Option (D × Nat)))
  | ex (c : Nat) (a : Option D)
  | bad

/-! ### data -/
mutual
def D.noMut : D → Bool
  | .lst _ => false | .dic _ _ => false | .set _ => false | .clo _ _ => false
  | .tup l => D.noMutL l
  | _ => true
def D.noMutL : List D → Bool
  | [] => true
  | d :: l => D.noMut d && D.noMutL l
end
mutual
/-- data: none, bools, ints, texts, lists, tuples, nested at most n deep -/
def D.dat : Nat → D → Bool
  | _, .non => true | _, .bl _ => true | _, .int _ => true | _, .str s => s.cps.all (· < 0x110000)
  | n + 1, .tup l => D.datL n l | n + 1, .lst l => D.datL n l
  | _, _ => false
def D.datL : Nat → List D → Bool
  | _, [] => true
  | n, d :: l => D.dat n d && D.datL n l
end
abbrev D.isData (d : D) : Bool := D.dat 60 d
abbrev isDataL (l : List D) : Bool := D.datL 59 l
mutual
def D.eqv : D → D → Bool
  | .non, .non => true
  | .bl a, .bl b => a == b
  | .bl a, .int b => (if a then 1 else 0) == b
  | .int a, .bl b => a == (if b then 1 else 0)
  | .int a, .int b => a == b
  | .str a, .str b => a == b
  | .tup a, .tup b => D.eqvL a b
  | .lst a, .lst b => D.eqvL a b
  | _, _ => false
def D.eqvL : List D → List D → Bool
  | [], [] => true
  | a :: l, b :: m => D.eqv a b && D.eqvL l m
  | _, _ => false
end
def strLt : List Nat → List Nat → Bool
  | [], [] => false | [], _ :: _ => true | _ :: _, [] => false
  | x :: a, y :: b => if x = y then strLt a b else decide (x < y)
mutual
/-- a < b of alike data -/
def D.lt : D → D → Bool
  | .int a, .int b => decide (a < b)
  | .bl a, .bl b => !a && b
  | .str a, .str b => strLt a.cps.toList b.cps.toList
  | .tup a, .tup b => D.ltL a b
  | .lst a, .lst b => D.ltL a b
  | _, _ => false
def D.ltL : List D → List D → Bool
  | [], [] => false
  | [], _ :: _ => true
  | _ :: _, [] => false
  | a :: l, b :: m => if D.eqv a b then D.ltL l m else D.lt a b
end
mutual
/-- can be compared by order -/
def D.alike : D → D → Bool
  | .int _, .int _ => true
  | .bl _, .bl _ => true
  | .str _, .str _ => true
  | .non, .non => true
  | .tup a, .tup b => D.alikeL a b
  | .lst a, .lst b => D.alikeL a b
  | _, _ => false
def D.alikeL : List D → List D → Bool
  | [], _ => true
  | _, [] => true
  | a :: l, b :: m => D.alike a b && D.alikeL l m
end
def insD (x : D) : List D → List D
  | [] => [x]
  | y :: l => if D.lt y x then y :: insD x l else x :: y :: l
def sortD : List D → List D
  | [] => []
  | x :: l => insD x (sortD l)
def insI (x : Int) : List Int → List Int
  | [] => [x]
  | y :: l => if y < x then y :: insI x l else x :: y :: l
def sortI : List Int → List Int
  | [] => []
  | x :: l => insI x (sortI l)
/-- the code of a row of ints below 1000 -/
def codeI : List Int → Int
  | [] => 0
  | d :: r => d * 1000 ^ r.length + codeI r
def insC (x : List Int) : List (List Int) → List (List Int)
  | [] => [x]
  | y :: l => if codeI y < codeI x then y :: insC x l else x :: y :: l
def sortC : List (List Int) → List (List Int)
  | [] => []
  | x :: l => insC x (sortC l)
def flatKey : D → Bool | .int _ => true | .str _ => true | _ => false
def isKey : D → Bool | .int _ => true | .str _ => true | .tup l => l.all flatKey | _ => false
/-- a key that goes with the keys that are there -/
def keyFor (ks : List D) (k : D) : Bool := isKey k && (match ks, k with
  | .tup _ :: _, .tup _ => true
  | .tup _ :: _, _ => false
  | _ :: _, .tup _ => false
  | _, _ => true)
/-- lengths that no test of a size asks about -/
def SZ : Nat := 100000
def dget (k : D) : List D → List D → Option D
  | a :: ks, b :: vs => if D.eqv a k then some b else dget k ks vs
  | _, _ => none
def dset (k v : D) : List D → List D → List D × List D
  | a :: ks, b :: vs => if D.eqv a k then (a :: ks, v :: vs) else let r := dset k v ks vs; (a :: r.1, b :: r.2)
  | _, _ => ([k], [v])
def ddel (k : D) : List D → List D → List D × List D
  | a :: ks, b :: vs => if D.eqv a k then (ks, vs) else let r := ddel k ks vs; (a :: r.1, b :: r.2)
  | _, _ => ([], [])
def dupd (ks vs : List D) : List (D × D) → Option (List D × List D)
  | [] => some (ks, vs)
  | (k, v) :: l => if keyFor ks k && decide (ks.length < SZ) then let r := dset k v ks vs; dupd r.1 r.2 l else none
def truth : D → Option Bool
  | .non => some false | .bl b => some b | .int i => some (i != 0) | .str s => if s.cps.size ≤ SZ then some (s.cps.size != 0) else none
  | .tup l => some (!l.isEmpty) | .lst l => some (!l.isEmpty) | .dic l _ => if l.all flatKey then some (!l.isEmpty) else none | _ => none
def items : D → Option (List D)
  | .tup l => some l | .lst l => some l | .dic ks _ => if ks.all flatKey then some ks else none | .str s => some (s.cps.toList.map fun c => .str ⟨#[c]⟩) | _ => none
def seqOf : D → Option (List D)
  | .tup l => some l | .lst l => some l | _ => none
def flagOf (d : D) : Nat := if d.noMut then 9 else 0
def capN (n m : Nat) : Nat := if n = 9 then 9 else min n m
def minOwn : List (D × Nat) → Nat
  | [] => 9
  | (_, n) :: l => min n (minOwn l)
/-- the level of a list of what is there: all items capped at the least level -/
def lstLv (ds : List (D × Nat)) : Nat := min (minOwn ds) 7 + 1
def pyIx (n : Nat) (i : Int) : Option Nat :=
  if 0 ≤ i then (if i < n then some i.toNat else none) else if -(n : Int) ≤ i then some (i + n).toNat else none
def sIx (n d : Nat) : Option Int → Nat
  | none => d
  | some v => if v < 0 then (v + (n : Int)).toNat else min v.toNat n
def cut {α : Type} (xs : List α) (lo hi : Option Int) : List α := (xs.drop (sIx xs.length 0 lo)).take (sIx xs.length xs.length hi - sIx xs.length 0 lo)
def cutR {α : Type} (xs : List α) (lo hi : Option Int) : List α :=
  let n := xs.length
  let a : Int := match lo with | none => (n : Int) - 1 | some v => if v < 0 then max (v + n) (-1) else min v ((n : Int) - 1)
  let b : Int := match hi with | none => -1 | some v => if v < 0 then max (v + n) (-1) else min v ((n : Int) - 1)
  (List.range (a - b).toNat).filterMap fun (k : Nat) => xs[(a - (k : Int)).toNat]?
def getIdx (a i : D) : Option D := match a, i with
  | .tup l, .int i => (pyIx l.length i).bind fun j => l[j]?
  | .lst l, .int i => (pyIx l.length i).bind fun j => l[j]?
  | .str s, .int i => if s.cps.size ≤ SZ then (pyIx s.cps.toList.length i).bind fun j => (s.cps.toList[j]?).map fun c => .str ⟨#[c]⟩ else none
  | .dic ks vs, k => if keyFor ks k then dget k ks vs else none
  | _, _ => none
def intsOf : List D → Option (List Int)
  | [] => some []
  | .int i :: l => (intsOf l).map (i :: ·)
  | _ => none
def strsOf : List D → Option (List Str)
  | [] => some []
  | .str i :: l => (strsOf l).map (i :: ·)
  | _ => none
def boolsOf : List D → Option (List Bool)
  | [] => some []
  | .bl i :: l => (boolsOf l).map (i :: ·)
  | _ => none
def tupsI : List D → Option (List (List Int))
  | [] => some []
  | .tup l :: r => (intsOf l).bind fun a => (tupsI r).map (a :: ·)
  | _ => none
def sortV (l : List D) : Option (D × Nat) := match intsOf l with
  | some ns => some (.lst ((sortI ns).map .int), 1)
  | none => (tupsI l).bind fun ts => match ts with
    | [] => none
    | t :: _ => if 1 ≤ t.length && (ts.all fun u => u.length == t.length && u.all fun x => decide (0 ≤ x) && decide (x < 1000)) && decide (ts.length < 64) then some (.lst ((sortC ts).map fun u => .tup (u.map .int)), 1) else none
def binop : Op → D → D → Option (D × Nat)
  | .add, .int i, .int j => some (.int (i + j), 9)
  | .sub, .int i, .int j => some (.int (i - j), 9)
  | .mul, .int i, .int j => if i.natAbs.log2 + j.natAbs.log2 < 4000000 then some (.int (i * j), 9) else none
  | .mod, .int i, .int j => if j = 0 then none else some (.int (i.fmod j), 9)
  | .fdiv, .int i, .int j => if 0 < j ∧ j.natAbs.log2 < 9000 then some (.int (i / j), 9) else if j ≠ 0 ∧ j.natAbs < 1073741824 then some (.int (i.fdiv j), 9) else none
  | .pow, .int i, .int j => if 0 ≤ j ∧ j ≤ 1000 ∧ i.natAbs < 18446744073709551616 then some (.int (i ^ j.toNat), 9) else none
  | .shl, .int i, .int j => if 0 ≤ j ∧ j ≤ 1000 ∧ i.natAbs < 18446744073709551616 then some (.int (i * 2 ^ j.toNat), 9) else none
  | .xor, .int i, .int j => some (.int (Builtin.bitXor i j), 9)
  | .and, .int i, .int j => some (.int (Builtin.bitAnd i j), 9)
  | .add, .str a, .str b => if a.cps.size + b.cps.size ≤ SZ then some (.str ⟨a.cps ++ b.cps⟩, 9) else none
  | .add, .tup a, .tup b => if a.length + b.length ≤ SZ then some (.tup (a ++ b), flagOf (.tup (a ++ b))) else none
  | .add, .lst a, .lst b => if a.length + b.length ≤ SZ then some (.lst (a ++ b), 1) else none
  | .mul, .lst a, .int k => if -1000 ≤ k ∧ k ≤ 1000 ∧ a.length ≤ 100 then some (.lst (List.replicate k.toNat a).flatten, 1) else none
  | .mul, .tup a, .int k => if 2 ≤ k ∧ k ≤ 1000 ∧ a.length ≤ 1000 ∧ a.length ≠ 0 then some (.tup (List.replicate k.toNat a).flatten, flagOf (.tup a)) else none
  | _, _, _ => none
def isIn (x : D) : D → Option Bool
  | .tup l => if x.isData && isDataL l then some (l.any fun y => D.eqv y x) else none
  | .lst l => if x.isData && isDataL l then some (l.any fun y => D.eqv y x) else none
  | .dic ks _ => if keyFor ks x then some (ks.any fun y => D.eqv y x) else none
  | .str s => match x with
    | .str t => (match t.cps.toList with
      | [c] => some (s.cps.toList.contains c)
      | _ => none)
    | _ => none
  | _ => none
def isNone : D → Bool | .non => true | _ => false
def cmpop : Cm → D → D → Option Bool
  | .eq, .dic ks vs, .dic [] [] => if ks.all flatKey then some ks.isEmpty else none
  | .ne, .dic ks vs, .dic [] [] => if ks.all flatKey then some (!ks.isEmpty) else none
  | .eq, a, b => if a.isData && b.isData then some (D.eqv a b) else none
  | .ne, a, b => if a.isData && b.isData then some (!D.eqv a b) else none
  | .lt, .int a, .int b => some (decide (a < b))
  | .gt, .int a, .int b => some (decide (b < a))
  | .le, .int a, .int b => some (decide (a ≤ b))
  | .ge, .int a, .int b => some (decide (b ≤ a))
  | .lt, .tup a, .tup b => (intsOf a).bind fun a => (intsOf b).map fun b => ltI a b
  | .lt, .str a, .str b => some (strLt a.cps.toList b.cps.toList)
  | .is, .bl a, .bl b => some (a == b)
  | .is, a, .non => some (isNone a)
  | .isnot, a, .non => some (!isNone a)
  | .isin, a, b => isIn a b
  | .notin, a, b => (isIn a b).map not
  | _, _, _ => none
where ltI : List Int → List Int → Bool
  | [], [] => false
  | [], _ :: _ => true
  | _ :: _, [] => false
  | x :: xs, y :: ys => if x = y then ltI xs ys else decide (x < y)
def allAlike : List D → Bool
  | [] => true
  | x :: r => (r.all fun y => D.alike x y && D.alike y x) && allAlike r
def minI (x : Int) : List Int → Int
  | [] => x
  | y :: l => minI (if y < x then y else x) l
def minD (x : D) : List D → D
  | [] => x
  | y :: l => minD (if D.lt y x then y else x) l
def minL (x : List Int) : List (List Int) → List Int
  | [] => x
  | y :: l => minL (if cmpop.ltI y x then y else x) l
def lstsI : List D → Option (List (List Int))
  | [] => some []
  | .lst l :: r => (intsOf l).bind fun a => (lstsI r).map (a :: ·)
  | _ => none
def maxI (x : Int) : List Int → Int
  | [] => x
  | y :: l => maxI (if x < y then y else x) l
def joinS (sep : List Nat) : List Str → List Nat
  | [] => []
  | [a] => a.cps.toList
  | a :: l => a.cps.toList ++ sep ++ joinS sep l
def pairsOf : List D → Option (List (D × D))
  | [] => some []
  | .tup [a, b] :: l => (pairsOf l).map ((a, b) :: ·)
  | _ => none
def dedup : List D → List D
  | [] => []
  | x :: l => let r := dedup l; if r.any (D.eqv x) then r else x :: r
def dedI : List Int → List Int
  | [] => []
  | x :: l => if l.contains x then dedI l else x :: dedI l
/-- the items may be shared -/
def shareOk (d : D) (n : Nat) : Bool := n == 9 || n ≤ 1 || (match d with | .lst l => D.noMutL l | .dic _ l => D.noMutL l | _ => true)
/-- a list that is repeated is the code's own -/
def mulOk : Op → D → Nat → Bool
  | .mul, .lst _, 0 => false
  | _, _, _ => true
def gcdI (a b : Int) : Int := (Nat.gcd a.natAbs b.natAbs : Nat)
def bfn : B → List (D × Nat) → Option (D × Nat)
  | .len, [(.str s, _)] => if s.cps.size ≤ SZ then some (.int s.cps.size, 9) else none
  | .len, [(.dic ks _, _)] => if ks.all flatKey then some (.int ks.length, 9) else none
  | .len, [(.tup l, _)] => some (.int l.length, 9)
  | .len, [(.lst l, _)] => some (.int l.length, 9)
  | .abs, [(.int i, _)] => some (.int (if i < 0 then -i else i), 9)
  | .tuple, [(.lst l, n)] => if shareOk (.lst l) n then some (.tup l, flagOf (.tup l)) else none
  | .tuple, [(.tup l, n)] => some (.tup l, n)
  | .list, [(.lst l, n)] => if shareOk (.lst l) n then some (.lst l, 1) else none
  | .list, [(.tup l, _)] => some (.lst l, 1)
  | .list, [(.dic ks vs, n)] => if ks.all flatKey then some (.lst ks, 1) else none
  | .sorted, [(d, n)] => if shareOk d n then (match d with | .lst l => sortV l | _ => none) else none
  | .sum, [(.lst l, _)] => (intsOf l).map fun (l : List Int) => (.int l.sum, 9)
  | .min, [(.lst l, n)] => if shareOk (.lst l) n then (lstsI l).bind fun ts => (match ts with | [] => none | t :: r => if (t :: r).all (fun u => u.length ≤ 50) && decide (r.length ≤ 50) then some (.lst ((minL t r).map .int), 0) else none) else none
  | .max, [(.lst l, _)] => (intsOf l).bind fun l => match l with | [] => none | x :: r => some (.int (maxI x r), 9)
  | .maxd, [(d, _), (.int e, _)] => ((items d).bind intsOf).bind fun l => match l with | [] => some (.int e, 9) | x :: r => some (.int (maxI x r), 9)
  | .min2, [(.int a, _), (.int b, _)] => some (.int (if b < a then b else a), 9)
  | .max2, [(.int a, _), (.int b, _)] => some (.int (if b > a then b else a), 9)
  | .any, [(.lst l, _)] => (boolsOf l).map fun l => (.bl (l.any id), 9)
  | .all, [(.lst l, _)] => (boolsOf l).map fun l => (.bl (l.all id), 9)
  | .int, [(.int i, _)] => some (.int i, 9)
  | .int, [(.bl b, _)] => some (.int (if b then 1 else 0), 9)
  | .str, [(.int i, _)] => if i.natAbs.log2 < 1920 then some (.str (toString i), 9) else none
  | .dict, [(.lst l, n)] => if shareOk (.lst l) n then (pairsOf l).bind fun l => (dupd [] [] l).map fun r => (.dic r.1 r.2, 1) else none
  | .gcd, [(.int a, _), (.int b, _)] => some (.int (gcdI a b), 9)
  | .lenset, [(.tup l, _)] => (intsOf l).bind fun l => if l.length ≤ 50 then some (.int (dedI l).length, 9) else none
  | .sortset, [(d, _)] => (seqOf d).bind fun l => if isDataL l && D.noMutL l && allAlike l && l.length ≤ SZ then some (.lst (sortD (dedup l)), 1) else none
  | _, _ => none
def getD' (n : Nat) (v : D) : Option (D × Nat) := if n ≤ 1 || n == 9 || v.noMut then some (v, flagOf v) else none
def mtf : M → D × Nat → List (D × Nat) → Option (D × Nat)
  | .get, (.dic ks vs, n), [(k, _)] => if keyFor ks k then match dget k ks vs with | some v => getD' n v | none => some (.non, 9) else none
  | .get, (.dic ks vs, n), [(k, _), (x, m)] => if flatKey k && keyFor ks k then match dget k ks vs with | some v => getD' n v | none => if m = 9 then some (x, 9) else none else none
  | .index, (.lst l, _), [(k, _)] => if isDataL l && k.isData then (l.findIdx? fun y => D.eqv y k).map fun j => (.int j, 9) else none
  | .index, (d, _), [(k, _), (.int s, _)] => (seqOf d).bind fun l => if isDataL l && k.isData && decide (0 ≤ s) then ((l.drop s.toNat).findIdx? fun y => D.eqv y k).map fun j => (.int (j + s.toNat : Nat), 9) else none
  | .count, (d, _), [(k, _)] => (seqOf d).bind fun l => if isDataL l && k.isData then some (.int (l.countP fun y => D.eqv y k), 9) else none
  | .join, (.str sep, _), [(.lst l, _)] => (strsOf l).bind fun l => if (l.map (·.length)).sum + l.length * sep.length ≤ 16777216 then some (.str (Str.join sep l), 9) else none
  | _, _, _ => none

def getS (env : Env) (i : Nat) : Option (D × Nat) := (env[i]?).join
def setS (env : Env) (i : Nat) (x : Option (D × Nat)) : Env := env.set i x
def wipeS (env : Env) : List Nat → Env
  | [] => env
  | i :: l => (wipeS env l).set i none
/-- back from a block: its own slots as they were -/
def backS (old env : Env) : List Nat → Env
  | [] => env
  | i :: l => backS old (setS env i (getS old i)) l
def isTy (sub : Nat → Nat → Bool) : D → Ty → Option Bool
  | .exc c _, .own k => some (sub c k)
  | .int _, .int => some true | .int _, .own _ => none | .int _, _ => some false
  | .bl _, .int => some true | .bl _, .bool => some true | .bl _, .own _ => none | .bl _, _ => some false
  | .str _, .str => some true | .str _, .own _ => none | .str _, _ => some false
  | .tup _, .tuple => some true | .tup _, .own _ => none | .tup _, _ => some false
  | .lst _, .list => some true | .lst _, .own _ => none | .lst _, _ => some false
  | .non, .own _ => none | .non, _ => some false
  | _, _ => none
def anyTy (sub : Nat → Nat → Bool) (d : D) : List Ty → Option Bool
  | [] => some false
  | t :: ts => (isTy sub d t).bind fun b => if b then some true else anyTy sub d ts
/-- a store at a path of a list of lists .. -/
def storeAt (f : D → Option D) : List D → D → Option D
  | [], d => f d
  | .int i :: ps, .lst l => (pyIx l.length i).bind fun j => (l[j]?).bind fun x => (storeAt f ps x).map fun y => .lst (l.set j y)
  | _, _ => none

/-! ### what is read without a change: no call, no loan -/
mutual
def evS : E → Env → Option D
  | .con d, _ => if d.noMut then some d else none
  | .var i, env => (getS env i).bind fun x => if x.2 = 9 then some x.1 else none
  | .tup es, env => (evSL es env).map .tup
  | .bin o a b, env => (evS a env).bind fun x => (evS b env).bind fun y => match x, y with
    | .int _, .int _ => (binop o x y).map (·.1)
    | _, _ => none
  | .neg a, env => (evS a env).bind fun x => match x with | .int i => some (.int (-i)) | _ => none
  | .ix (.bor i) k, env => (evS k env).bind fun y => (getS env i).bind fun x => (getIdx x.1 y).bind fun d => if d.noMut then some d else none
  | .ix a k, env => (evS a env).bind fun x => (evS k env).bind fun y => (getIdx x y).bind fun d => if d.noMut then some d else none
  | .bi .int [a], env => (evS a env).bind fun x => match x with | .int i => some (.int i) | _ => none
  | .bi .abs [a], env => (evS a env).bind fun x => match x with | .int i => some (.int (if i < 0 then -i else i)) | _ => none
  | _, _ => none
def evSL : List E → Env → Option (List D)
  | [], _ => some []
  | e :: es, env => (evS e env).bind fun d => (evSL es env).map (d :: ·)
end

/-- what is owned is hidden -/
def roE : Env → Env
  | [] => []
  | some (d, n) :: l => (if n = 0 || n == 9 then some (d, n) else none) :: roE l
  | none :: l => none :: roE l
mutual
/-- no exception is told -/
def D.noExc : D → Bool
  | .exc _ _ => false
  | .tup l => D.noExcL l
  | .lst l => D.noExcL l
  | .dic _ l => D.noExcL l
  | _ => true
def D.noExcL : List D → Bool
  | [] => true
  | d :: l => D.noExc d && D.noExcL l
end
def envOk : Env → Bool
  | [] => true
  | some (d, _) :: l => D.noExc d && envOk l
  | none :: l => envOk l
structure Ev where
  e : E → Env → R
  s : List S → Env → F
  it : It → Env → RL
  cl : Nat → List (D × Nat) → RC

section
variable (m : Mod) (v : Ev)

def isPl : E → Option Nat | .bor i => some i | .loan i => some i | _ => none
/-- operands from the left, each capped at c; places are read at the end -/
def evL (c : Nat) : List E → Env → RL
  | [], env => .ok [] env
  | e :: es, env => match isPl e with
    | some i => (match getS env i with
      | some _ => (match evL c es env with
        | .ok ds env' => .ok ((.non, 9) :: ds) env'
        | r => r)
      | none => .bad)
    | none => (match v.e e env with
      | .ok d n env' => (match evL c es env' with
        | .ok ds env'' => .ok ((d, capN n c) :: ds) env''
        | r => r)
      | .ex k a env' => .ex k a env'
      | .bad => .bad)
def patch (env : Env) : List E → List (D × Nat) → Option (List (D × Nat))
  | e :: es, d :: ds => match isPl e with
    | some i => (getS env i).bind fun x => (patch env es ds).map (x :: ·)
    | none => (patch env es ds).map (d :: ·)
  | [], [] => some []
  | _, _ => none
def ops (c : Nat) (es : List E) (env : Env) (k : List (D × Nat) → Env → R) : R := match evL v c es env with
  | .ok ds env' => (match patch env' es ds with
    | some ds => k ds env'
    | none => .bad)
  | .ex c a env' => .ex c a env'
  | .bad => .bad
def okO (o : Option (D × Nat)) (env : Env) : R := match o with | some (d, n) => .ok d n env | none => .bad
def optL : Option E → List E | none => [] | some e => [e]
/-- loaned slots are given away .. -/
def dropL (env : Env) : List E → Env
  | .loan i :: es => dropL (setS env i none) es
  | _ :: es => dropL env es
  | [] => env
/-- .. and take what the callee left -/
def takeOuts (env : Env) : List E → Nat → List (Nat × Option (D × Nat)) → Env
  | .loan i :: es, j, outs => takeOuts (match (outs.lookup j).join with | some x => setS env i (some x) | none => env) es (j + 1) outs
  | _ :: es, j, outs => takeOuts env es (j + 1) outs
  | [], _, _ => env
def rngOf : List D → Option (List D)
  | [.int b] => if b.natAbs ≤ SZ then some ((List.range b.toNat).map fun (k : Nat) => .int (0 + (k : Int))) else none
  | [.int a, .int b] => if a.natAbs ≤ SZ ∧ b.natAbs ≤ SZ then some ((List.range (b - a).toNat).map fun (k : Nat) => .int (a + k)) else none
  | [.int a, .int b, .int c] => if a.natAbs ≤ SZ ∧ b.natAbs ≤ SZ ∧ c.natAbs ≤ SZ ∧ c ≠ 0 ∧ 0 ≤ Builtin.Range.rangeSize a b c ∧ Builtin.Range.rangeSize a b c ≤ SZ then
      some ((List.range (Builtin.Range.rangeSize a b c).toNat).map fun (k : Nat) => .int (a + (k : Int) * c)) else none
  | _ => none
def flg (l : List D) : List (D × Nat) := l.map fun x => (x, flagOf x)
def zip2 : List D → List D → List (D × Nat)
  | x :: a, y :: b => (.tup [x, y], flagOf (.tup [x, y])) :: zip2 a b
  | _, _ => []
def zip3 : List D → List D → List D → List (D × Nat)
  | x :: a, y :: b, z :: c => (.tup [x, y, z], flagOf (.tup [x, y, z])) :: zip3 a b c
  | _, _, _ => []
def enumN (k : Nat) : List D → List (D × Nat)
  | x :: a => (.tup [.int k, x], flagOf (.tup [.int k, x])) :: enumN (k + 1) a
  | [] => []
/-- what is walked, its values frozen -/
def onIts (es : List E) (env : Env) (k : List D → Option (List (D × Nat))) : RL := match evL v 0 es env with
  | .ok ds env' => (match k (ds.map (·.1)) with | some l => .ok l env' | none => .bad)
  | r => r
def itsVal : List D → Option (List (D × Nat))
  | [d] => (items d).map flg
  | _ => none
def itsEnum : List D → Option (List (D × Nat))
  | [d] => (seqOf d).map (enumN 0)
  | _ => none
def itsZip : List D → Option (List (D × Nat))
  | [.tup a, .tup b] => some (zip2 a b)
  | [.lst a, .lst b] => some (zip2 a b)
  | _ => none
def itsZip3 : List D → Option (List (D × Nat))
  | [a, b, c] => (seqOf a).bind fun a => (seqOf b).bind fun b => (seqOf c).map fun c => zip3 a b c
  | _ => none
def itsItems : List D → Option (List (D × Nat))
  | [.dic ks vs] => some (zip2 ks vs)
  | _ => none
def itsLst : List D → Option (List (D × Nat))
  | [.lst l] => some (flg l)
  | _ => none
def itsVals : List D → Option (List (D × Nat))
  | [.dic ks vs] => if ks.all flatKey then some (flg vs) else none
  | _ => none
def stepIt : It → Env → RL
  | .val e, env => onIts v [e] env itsVal
  | .rng es, env => onIts v es env fun ds => (rngOf ds).map flg
  | .enum e, env => onIts v [e] env itsEnum
  | .zip a b, env => onIts v [a, b] env itsZip
  | .zip3 a b c, env => onIts v [a, b, c] env itsZip3
  | .items e, env => onIts v [e] env itsItems
  | .vals e, env => onIts v [e] env itsVals
  | .lval e, env => onIts v [e] env itsLst

/-- x[k] = d -/
def putK (c : D) (n : Nat) (k : D) (x : D × Nat) : Option D := if n = 0 || n == 9 then none else if x.2 = 9 || n ≤ 1 || n - 1 ≤ x.2 then
    (match c, k with
    | .lst l, .int j => (pyIx l.length j).map fun j => .lst (l.set j x.1)
    | .dic ks vs, k => if keyFor ks k && decide (ks.length < SZ) then let r := dset k x.1 ks vs; some (.dic r.1 r.2) else none
    | _, _ => none) else none
mutual
def asgT : T → D × Nat → Env → Option Env
  | .nm i lv, (d, n), env => if i < env.length && lv < 9 then some (setS env i (some (d, capN n lv))) else none
  | .tp ts, (d, n), env => (seqOf d).bind fun l => if l.length = ts.length && shareOk d n then asgL ts (flg l) env else none
  | .st i k, x, env => (evS k env).bind fun kd => (getS env i).bind fun c => (putK c.1 c.2 kd x).map fun c' => setS env i (some (c', c.2))
def asgL : List T → List (D × Nat) → Env → Option Env
  | [], [], env => some env
  | t :: ts, x :: xs, env => (asgT t x env).bind fun env => asgL ts xs env
  | _, _, _ => none
end
def testE (e : E) (env : Env) (k : Bool → Env → R) : R := match isPl e with
  | some i => (match (getS env i).bind fun x => truth x.1 with | some b => k b env | none => .bad)
  | none => match v.e e env with
    | .ok d _ env' => (match truth d with | some b => k b env' | none => .bad)
    | r => r
def testL (e : E) (env : Env) (k : Bool → Env → RL) : RL := match isPl e with
  | some i => (match (getS env i).bind fun x => truth x.1 with | some b => k b env | none => .bad)
  | none => match v.e e env with
    | .ok d _ env' => (match truth d with | some b => k b env' | none => .bad)
    | .ex c a env' => .ex c a env'
    | .bad => .bad
def testF (e : E) (env : Env) (k : Bool → Env → F) : F := match isPl e with
  | some i => (match (getS env i).bind fun x => truth x.1 with | some b => k b env | none => .bad)
  | none => match v.e e env with
    | .ok d _ env' => (match truth d with | some b => k b env' | none => .bad)
    | .ex c a env' => .ex c a env'
    | .bad => .bad
/-- a clause's tests: none or one -/
def ifsL (ifs : List E) (env : Env) (k : Bool → Env → RL) : RL := match ifs with
  | [] => k true env
  | [c] => testL v c env k
  | _ => .bad
/-- the turns of a clause whose own slots are own -/
def lcGo (own : List Nat) (t : T) (ifs : List E) (inner : List (D × Nat) → Env → RL) : List (D × Nat) → List (D × Nat) → Env → RL
  | [], acc, env => .ok acc (wipeS env own)
  | x :: l, acc, env => match asgT t x (wipeS env own) with
    | none => .bad
    | some env1 => (match ifsL v ifs env1 (fun b env2 => if b then inner acc env2 else .ok acc env2) with
      | .ok acc' env3 => lcGo own t ifs inner l acc' env3
      | r => r)
def lcElt (elt : E) (acc : List (D × Nat)) (env : Env) : RL := match v.e elt env with
  | .ok d n env' => if acc.length < SZ then .ok ((d, n) :: acc) env' else .bad
  | .ex c a env' => .ex c a env'
  | .bad => .bad
def lcIn (own1 : List Nat) (elt : E) (t1 : T) (i1 : It) (ifs1 : List E) (acc : List (D × Nat)) (env : Env) : RL := match v.it i1 env with
  | .ok l env' => lcGo v own1 t1 ifs1 (lcElt v elt) l acc env'
  | r => r

/-- the receiver's kind is asked before the arguments run -/
def mtShape : M → D → Bool
  | .get, .dic _ _ => true | .index, .lst _ => true | .count, .lst _ => true | .join, .str _ => true | _, _ => false
def mtPre (t : M) (o : E) (env : Env) : Bool := match isPl o with
  | some i => (match getS env i with | some (d, _) => mtShape t d | none => false)
  | none => (match v.e o env with | .ok d _ _ => mtShape t d | .ex _ _ _ => true | .bad => false)
def stepE : E → Env → R
  | .var i, env => (match getS env i with
    | some (d, n) => if n = 9 then .ok d 9 env else .ok d 0 (setS env i (some (d, 0)))
    | none => .bad)
  | .mov i, env => (match getS env i with
    | some (d, n) => .ok d n (setS env i none)
    | none => .bad)
  | .bor _, _ => .bad
  | .loan _, _ => .bad
  | .con d, env => if d.noMut then .ok d 9 env else .bad
  | .fn k, env => .ok (.fn k) 9 env
  | .tup es, env => ops v 0 es env fun ds env => if ds.length ≤ SZ then .ok (.tup (ds.map (·.1))) (flagOf (.tup (ds.map (·.1)))) env else .bad
  | .lst es, env => ops v 8 es env fun ds env => if ds.length ≤ SZ then .ok (.lst (ds.map (·.1))) (lstLv ds) env else .bad
  | .dic [k] [x], env => ops v 0 [k, x] env fun ds env => match ds with
    | [(kd, _), (xd, _)] => if flatKey kd then .ok (.dic [kd] [xd]) 1 env else .bad
    | _ => .bad
  | .dic ks vs, env => ops v 0 (ks ++ vs) env fun ds env => match dupd [] [] (((ds.take ks.length).map (·.1)).zip ((ds.drop ks.length).map (·.1))) with
    | some r => .ok (.dic r.1 r.2) 1 env
    | none => .bad
  | .bin o a b, env => ops v 1 [a, b] env fun ds env => match ds with
    | [x, y] => if shareOk x.1 x.2 && (shareOk y.1 y.2 && mulOk o x.1 x.2) then okO (binop o x.1 y.1) env else .bad
    | _ => .bad
  | .catl a b, env => ops v 7 [a, b] env fun ds env => match ds with
    | [(.lst a, n), (.lst b, k)] => if a.length + b.length ≤ SZ && (1 ≤ n && (n < 9 && (1 ≤ k && k < 9))) then .ok (.lst (a ++ b)) (min n k) env else .bad
    | _ => .bad
  | .neg a, env => ops v 1 [a] env fun ds env => match ds with
    | [(.int i, _)] => .ok (.int (-i)) 9 env
    | _ => .bad
  | .not a, env => testE v a env fun b env => .ok (.bl (!b)) 9 env
  | .and a b, env => (match isPl a with
    | some _ => testE v a env fun k env => if k then v.e b env else .ok (.bl false) 9 env
    | none => match v.e a env with
      | .ok d n env' => (match truth d with | some true => v.e b env' | some false => .ok d n env' | none => .bad)
      | r => r)
  | .or a b, env => (match isPl a with
    | some _ => .bad
    | none => match v.e a env with
      | .ok d n env' => (match truth d with | some false => v.e b env' | some true => .ok d n env' | none => .bad)
      | r => r)
  | .cmp o a b, env => ops v 1 [a, b] env fun ds env => match ds with
    | [x, y] => (match cmpop o x.1 y.1 with | some k => .ok (.bl k) 9 env | none => .bad)
    | _ => .bad
  | .cmp2 o o' a b c, env => ops v 0 [a, b] env fun ds env => match ds with
    | [x, y] => (match cmpop o x.1 y.1 with
      | some true => ops v 0 [c] env fun ds env => (match ds with
        | [z] => (match cmpop o' y.1 z.1 with | some k => .ok (.bl k) 9 env | none => .bad)
        | _ => .bad)
      | some false => .ok (.bl false) 9 env
      | none => .bad)
    | _ => .bad
  | .cmp3 o o' o'' a b c d, env => ops v 0 [a, b] env fun ds env => match ds with
    | [x, y] => (match cmpop o x.1 y.1 with
      | some true => ops v 0 [c] env fun ds env => (match ds with
        | [z] => (match cmpop o' y.1 z.1 with
          | some true => ops v 0 [d] env fun ds env => (match ds with
            | [u] => (match cmpop o'' z.1 u.1 with | some k => .ok (.bl k) 9 env | none => .bad)
            | _ => .bad)
          | some false => .ok (.bl false) 9 env
          | none => .bad)
        | _ => .bad)
      | some false => .ok (.bl false) 9 env
      | none => .bad)
    | _ => .bad
  | .ite t a b, env => testE v t env fun k env => if k then v.e a env else v.e b env
  | .ix a i, env => ops v 1 [a, i] env fun ds env => match ds with
    | [x, y] => (match getIdx x.1 y.1 with
      | some d => okO (getD' x.2 d) env
      | none => .bad)
    | _ => .bad
  | .ixp i es, env => (match evSL es env, getS env i with
    | some ks, some (d, n) => (match ks.foldl (fun a k => a.bind fun x => getIdx x k) (some d) with
      | some x => if n = 9 || n ≤ ks.length || x.noMut then .ok x (flagOf x) env else .bad
      | none => .bad)
    | _, _ => .bad)
  | .sl a lo hi, env => ops v 1 (a :: optL lo ++ optL hi) env fun ds env => match ds with
    | (x, n) :: r =>
      let l : Option (Option Int) := match lo, r with | some _, (.int i, _) :: _ => some (some i) | none, _ => some none | _, _ => none
      let h : Option (Option Int) := match lo, hi, r with | some _, some _, [_, (.int i, _)] => some (some i) | none, some _, [(.int i, _)] => some (some i) | _, none, _ => some none | _, _, _ => none
      if shareOk x n then (match x, l, h with
        | .lst xs, some l, some h => .ok (.lst (cut xs l h)) 1 env
        | .tup xs, some l, some h => .ok (.tup (cut xs l h)) (flagOf (.tup (cut xs l h))) env
        | .str s, some l, some h => if s.cps.size ≤ SZ then .ok (.str ⟨(cut s.cps.toList l h).toArray⟩) 9 env else .bad
        | _, _, _ => .bad)
      else .bad
    | _ => .bad
  | .rev a, env => ops v 1 [a] env fun ds env => match ds with
    | [(x, n)] => if shareOk x n then (match x with
        | .lst xs => .ok (.lst xs.reverse) 1 env
        | .tup xs => .ok (.tup xs.reverse) (flagOf (.tup xs.reverse)) env
        | _ => .bad) else .bad
    | _ => .bad
  | .slr a lo hi, env => ops v 1 (a :: optL lo ++ optL hi) env fun ds env => match ds with
    | (x, n) :: r =>
      let l : Option (Option Int) := match lo, r with | some _, (.int i, _) :: _ => some (some i) | none, _ => some none | _, _ => none
      let h : Option (Option Int) := match lo, hi, r with | some _, some _, [_, (.int i, _)] => some (some i) | none, some _, [(.int i, _)] => some (some i) | _, none, _ => some none | _, _, _ => none
      if shareOk x n then (match x, l, h with
        | .lst xs, some l, some h => .ok (.lst (cutR xs l h)) 1 env
        | .tup xs, some l, some h => .ok (.tup (cutR xs l h)) (flagOf (.tup (cutR xs l h))) env
        | _, _, _ => .bad)
      else .bad
    | _ => .bad
  | .call k es, env => ops v 7 es env fun ds env => match v.cl k ds with
    | .ok d n outs => .ok d n (takeOuts (dropL env es) es 0 outs)
    | .ex c a => .ex c a (dropL env es)
    | .bad => .bad
  | .callv i es, env => (match getS env i with
    | some (.fn k, _) => (match m.fns[k]? with
      | some f => if m.takers.contains k || f.npar != es.length then .bad else ops v 7 es env fun ds env => (match v.cl k ds with
        | .ok d n outs => .ok d n (takeOuts (dropL env es) es 0 outs)
        | .ex c a => .ex c a (dropL env es)
        | .bad => .bad)
      | none => .bad)
    | some (.clo k cenv, _) => (match es, m.lams[k]? with
      | [], some e => (match v.e e cenv with
        | .ok d n _ => if n = 9 then .ok d 9 env else .bad
        | .ex c a _ => .ex c a env
        | .bad => .bad)
      | _, _ => .bad)
    | _ => .bad)
  | .pad e, env => v.e e env
  | .lam k j, env => (match m.lams[j]? with
    | some e => (match v.e (.pad e) (roE env) with
      | .ok _ _ _ => .ok (.str (Str.ofString "")) 9 env
      | .ex c a _ => if c < m.ncls && m.sub c m.cE then (match v.s m.suite (none :: some (.exc c a, 9) :: List.replicate (m.nsu - 2) none) with
        | .rt (.str w) _ _ => .ok (.str w) 9 env
        | _ => .bad) else .bad
      | .bad => .bad)
    | none => .bad)
  | .bi b es, env => ops v 1 es env fun ds env => okO (bfn b ds) env
  | .bit b i, env => (match v.it i env with
    | .ok l env' => okO (bfn b [(.lst (l.map (·.1)), 1)]) env'
    | .ex c a env' => .ex c a env'
    | .bad => .bad)
  | .mt t o es, env => if mtPre v t o env then ops v 1 (o :: es) env fun ds env => match ds with
    | x :: ds => okO (mtf t x ds) env
    | _ => .bad
    else .bad
  | .pop i es, env => ops v 1 es env fun ds env => match getS env i, ds with
    | some (.lst l, n), [] => if n = 0 || n == 9 then .bad else (match l.getLast? with
      | some x => if n == 1 || x.noMut then .ok x (flagOf x) (setS env i (some (.lst l.dropLast, n))) else .bad
      | none => .bad)
    | some (.lst l, n), [(.int k, _)] => if n = 0 || n == 9 then .bad else (match (pyIx l.length k).bind fun j => (l[j]?).map fun x => (j, x) with
      | some (j, x) => if n == 1 || x.noMut then .ok x (flagOf x) (setS env i (some (.lst (l.eraseIdx j), n))) else .bad
      | none => .bad)
    | some (.dic ks vs, n), [(k, _)] => if n = 0 || n == 9 || !keyFor ks k then .bad else (match dget k ks vs with
      | some x => if n == 1 || x.noMut then let r := ddel k ks vs; .ok x (flagOf x) (setS env i (some (.dic r.1 r.2, n))) else .bad
      | none => .bad)
    | _, _ => .bad
  | .isi a ts, env => ops v 1 [a] env fun ds env => match ds with
    | [(x, _)] => (match anyTy m.sub x ts with | some b => .ok (.bl b) 9 env | none => .bad)
    | _ => .bad
  | .attr a, env => ops v 1 [a] env fun ds env => match ds with
    | [(.exc _ (some x), _)] => if x.noMut then .ok x 9 env else .bad
    | _ => .bad
  | .lc own elt t i ifs, env => (match v.it i env with
    | .ok l env1 => (match lcGo v own t ifs (lcElt v elt) l [] env1 with
      | .ok acc env2 => .ok (.lst (acc.reverse.map (·.1))) (lstLv acc) (backS env1 env2 own)
      | _ => .bad)
    | .ex c a env' => .ex c a env'
    | .bad => .bad)
  | .lc2 own own1 elt t i ifs t1 i1 ifs1, env => (match v.it i env with
    | .ok l env1 => (match lcGo v own t ifs (lcIn v own1 elt t1 i1 ifs1) l [] env1 with
      | .ok acc env2 => .ok (.lst (acc.reverse.map (·.1))) (lstLv acc) (backS env1 env2 own)
      | _ => .bad)
    | .ex c a env' => .ex c a env'
    | .bad => .bad)

/-! ### statements -/
def forGo (t : T) (b : List S) : List (D × Nat) → Env → F
  | [], env => .nx env
  | x :: l, env => match asgT t x env with
    | none => .bad
    | some env1 => (match v.s b env1 with
      | .nx env2 => forGo t b l env2
      | .bk env2 => .nx env2
      | r => r)
def whlGo (t : E) (b : List S) : Nat → Env → F
  | 0, _ => .bad
  | k + 1, env => testF v t env fun c env1 => if c then (match v.s b env1 with
        | .nx env2 => whlGo t b k env2
        | .bk env2 => .nx env2
        | r => r) else .nx env1
def opsF (c : Nat) (es : List E) (env : Env) (k : List (D × Nat) → Env → F) : F := match evL v c es env with
  | .ok ds env' => (match patch env' es ds with
    | some ds => k ds env'
    | none => .bad)
  | .ex c a env' => .ex c a env'
  | .bad => .bad
def nxO (o : Option Env) : F := match o with | some env => .nx env | none => .bad
def putAt (n : Nat) (x : D × Nat) (k : D) (c : D) : Option D := putK c n k x
def stepS1 : S → Env → F
  | .asg t e, env => opsF v 7 [e] env fun ds env => match ds with
    | [x] => nxO (asgT t x env)
    | _ => .bad
  | .asgt ts es, env => opsF v 7 es env fun ds env => nxO (asgL ts ds env)
  | .asgs ts e, env => opsF v 0 [e] env fun ds env => match ds with
    | [x] => nxO (ts.foldl (fun a t => a.bind fun env => asgT t x env) (some env))
    | _ => .bad
  | .seti i k e, env => if (getS env i).isNone then .bad else opsF v 7 [e, k] env fun ds env => match ds, getS env i with
    | [x, (k, _)], some (c, n) => nxO ((putK c n k x).map fun c => setS env i (some (c, n)))
    | _, _ => .bad
  | .setp i ps k e, env => opsF v 7 [e] env fun ds env => match ds, getS env i, evSL ps env, evS k env with
    | [x], some (c, n), some ps, some k => if n ≤ ps.length || n == 9 then .bad else
        nxO ((storeAt (putAt (n - ps.length) x k) ps c).map fun c => setS env i (some (c, n)))
    | _, _, _, _ => .bad
  | .swp i a b, env => (match getS env i, evS a env, evS b env with
    | some (.lst l, n), some (.int a), some (.int b) => if n = 0 || n == 9 then .bad else
        nxO ((pyIx l.length a).bind fun a => (pyIx l.length b).bind fun b => (l[a]?).bind fun x => (l[b]?).map fun y => setS env i (some (.lst ((l.set a y).set b x), n)))
    | _, _, _ => .bad)
  | .app i [] e, env => if (match getS env i with | some (.lst _, n) => n == 0 || n == 9 | _ => true) then .bad else opsF v 7 [e] env fun ds env => match ds, getS env i with
    | [x], some (.lst l, n) => if n = 0 || n == 9 || SZ ≤ l.length then .bad else if x.2 = 9 || n ≤ 1 || n - 1 ≤ x.2 then .nx (setS env i (some (.lst (l ++ [x.1]), n))) else .bad
    | _, _ => .bad
  | .app i ps e, env => (match getS env i, evSL ps env, evS e env with
    | some (c, n), some ps, some x => if n ≤ ps.length || (n == 9 || !x.noMut) then .bad else
        nxO ((storeAt (fun d => match d with | .lst l => if l.length < SZ then some (.lst (l ++ [x])) else none | _ => none) ps c).map fun c => setS env i (some (c, n)))
    | _, _, _ => .bad)
  | .upd i e, env => if (match getS env i with | some (.dic ks _, n) => n != 1 || !ks.all flatKey | _ => true) then .bad else opsF v 1 [e] env fun ds env => match ds, getS env i with
    | [(d, m)], some (.dic ks vs, n) => if n != 1 || !ks.all flatKey then .bad else if shareOk d m then (match (match d with | .lst l => pairsOf l | _ => none) with
      | some l => if ks.length + l.length ≤ SZ && l.all (fun p => flatKey p.1) then nxO ((dupd ks vs l).map fun r => setS env i (some (.dic r.1 r.2, n))) else .bad
      | none => .bad) else .bad
    | _, _ => .bad
  | .setd i k e, env => opsF v 0 [k, e] env fun ds env => match ds, getS env i with
    | [(k, _), (x, xn)], some (.dic ks vs, n) => if n = 0 || n == 9 || !keyFor ks k then .bad else (match dget k ks vs with
      | some _ => .nx env
      | none => if xn = 9 || n ≤ 1 then let r := dset k x ks vs; .nx (setS env i (some (.dic r.1 r.2, n))) else .bad)
    | _, _ => .bad
  | .setda i k e, env => (match evS k env, evS e env, getS env i with
    | some k, some x, some (.dic ks vs, n) => if n ≤ 1 || n == 9 || !keyFor ks k then .bad else (match (match dget k ks vs with | some d => d | none => .lst []) with
      | .lst l => let r := dset k (.lst (l ++ [x])) ks vs; .nx (setS env i (some (.dic r.1 r.2, n)))
      | _ => .bad)
    | _, _, _ => .bad)
  | .expr e, env => (match v.e e env with
    | .ok _ _ env => .nx env
    | .ex c a env => .ex c a env
    | .bad => .bad)
  | .ret e, env => (match v.e e env with
    | .ok d n env => .rt d n env
    | .ex c a env => .ex c a env
    | .bad => .bad)
  | .retN, env => .rt .non 9 env
  | .ite t a b, env => testF v t env fun k env => v.s (if k then a else b) env
  | .for_ t i b, env => (match v.it i env with
    | .ok l env1 => forGo v t b l env1
    | .ex c a env1 => .ex c a env1
    | .bad => .bad)
  | .whl t b, env => whlGo v t b 200000 env
  | .brk, env => .bk env
  | .pass, env => .nx env
  | .rais c none, env => .ex c none env
  | .rais c (some e), env => (match v.e (.pad e) env with
    | .ok (.int i) _ env => .ex c (some (.int i)) env
    | .ex c a env => .ex c a env
    | _ => .bad)
  | .try_ b c slot h, env => match v.s b env with
    | .ex k a env1 => if m.sub k c then
        (match v.s h (match slot with | some i => setS env1 i (some (.exc k a, 9)) | none => env1) with
        | .nx env2 => let env3 := (match slot with | some i => setS env2 i none | none => env2); if envOk env3 then .nx env3 else .bad
        | .rt d n env2 => if d.noExc then .rt d n env2 else .bad
        | .bk env2 => let env3 := (match slot with | some i => setS env2 i none | none => env2); if envOk env3 then .bk env3 else .bad
        | _ => .bad) else .ex k a env1
    | r => r
def stepS : List S → Env → F
  | [], env => .nx env
  | s :: l, env => match stepS1 m v s env with
    | .nx env1 => stepS l env1
    | r => r
def outsOf (f : Fn) (env : Env) : List (Nat × Option (D × Nat)) := f.inout.map fun i => (i, getS env i)
def parS (f : Fn) : Nat → List (D × Nat) → Env
  | _, [] => []
  | j, (d, n) :: ds => some (d, if f.inout.contains j then n else capN n 0) :: parS f (j + 1) ds
def stepC (k : Nat) (ds : List (D × Nat)) : RC := match m.fns[k]? with
  | none => .bad
  | some f => if ds.length ≠ f.npar then .bad else
    match v.s f.body (parS f 0 ds ++ List.replicate (f.nslots - f.npar) none) with
    | .nx env => .ok .non 9 (outsOf f env)
    | .rt d n env => .ok d n (outsOf f env)
    | .bk _ => .bad
    | .ex c a _ => .ex c a
    | .bad => .bad
end
def step (m : Mod) (v : Ev) : Ev where
  e := stepE m v
  s := stepS m v
  it := stepIt v
  cl := stepC m v
def badEv : Ev where
  e := fun _ _ => .bad
  s := fun _ _ => .bad
  it := fun _ _ => .bad
  cl := fun _ _ => .bad
def evc (m : Mod) : Nat → Ev
  | 0 => badEv
  | n + 1 => step m (evc m n)
end Eng
end

section
set_option linter.all false
set_option maxRecDepth 100000
set_option maxHeartbeats 1000000
namespace Eng
open PySem PySem.Spec PyProof.Rows LamX
/-- what the text tells of the module's names -/
structure Gs where
  fnames : List Str
  cnames : List Str
  consts : List (Str × D)
  blts : List Str
  /-- the classes without an own __init__ -/
  simple : List Nat
  /-- which class lies below which -/
  subs : List (Nat × Nat)
  /-- the classes that bear a number -/
  lims : List Nat
/-! ### a module's facts, by Bools -/
/-- a law's module: the evaluator's text, the static tables, the slots' names, the defs' statements, the defs that make lambdas -/
structure Pk where
  md : Mod
  gs : Gs
  nms : List (List Str)
  tops : List Stmt
  lamd : List Nat
section
variable (p : Pk) {K : PySem.W.Frag}
def Pk.fname (k : Nat) : Str := p.gs.fnames.getD k Str.empty
def Pk.cname (k : Nat) : Str := p.gs.cnames.getD k Str.empty
def Pk.top (k : Nat) : Stmt := p.tops.getD k (.Pass ⟨0, 0, 0, 0⟩)
def Pk.nm (k : Nat) : List Str := p.nms.getD k []
def intFa : Str × D → Option He.Fa
  | (x, .int i) => some (.int x i)
  | _ => none
def Pk.fa : List He.Fa := p.gs.fnames.map .glo ++ (p.gs.fnames.map .keep ++ (p.gs.blts.map .free ++ (p.gs.consts.filterMap intFa ++ (p.gs.cnames.map .glo ++ (p.gs.cnames.map .keep ++ (p.gs.simple.map fun k => .exc (p.cname k)))))))
def mkD (x : Str) (st : Stmt) : He.DefD := ⟨(x, none), x, x, L2.defArgs st, L2.defBody st, L2.defScope st, [], []⟩
def Pk.fn : List He.DefD := (List.range p.gs.fnames.length).map fun k => mkD (p.fname k) (p.top k)
def Pk.tf : List He.Defn := p.lamd.map fun k => (p.fname k, none)
/-! the class that bears a number -/
def clsVE (K : PySem.W.Frag) (C : Addr) : Bool := match K.lookup C with
  | some ⟨.type t, _, .cls cd, ⟨[_, _, _, _, some (.builtin b), _]⟩⟩ => decide (t = "type") && (decide (b = "ValueError.__new__") && (cd.hasDict && (!cd.hasDel && (match cd.mro with | .ref C' :: bm => decide (C' = C) && PySem.HandSPX.refsVE bm | _ => false))))
  | _ => false
def oexB (K : PySem.W.Frag) (C : Addr) : Bool := clsVE K C && (decide (PySem.W.findIn K (.ref C) "__setattr__" = some (some (.builtin "object.__setattr__"))) && (decide (PySem.W.subIn K (.ref C) (.type "BaseException") = some true) && (decide (PySem.W.typeIn K (.ref C) = some (.type "type")) && PySem.W.keepIn K (.ref C))))
def excCB (K : PySem.W.Frag) (D : Addr) : Bool := decide (PySem.W.findIn K (.ref D) "__getattribute__" = some (some (.builtin "BaseException.__getattribute__"))) && (decide (PySem.W.findIn K (.ref D) "__getattr__" = some none) && (decide (PySem.W.subIn K (.ref D) (.type "BaseException") = some true) && (PySem.W.hasDictIn K D &&
  (decide (PySem.W.findIn K (.ref D) "__class__" = some (some (.builtin "object.__class__"))) && (decide (PySem.W.specialIn K (.builtin "object.__class__") "__get__" = some (some (.builtin "getset_descriptor.__get__"))) && (decide (PySem.W.takesIn K (.builtin "object.__class__") = some true) && decide (PySem.W.mroIn K D (.type "object") = some true)))))))
/-- the __init__'s text -/
def supBody : List Stmt → Bool
  | [.Expr (.Call (.Attribute (.Call (.Name s1 _) [] [] _) a1 p3) [.Name l1 _] [] p5) _, .Assign [.Attribute (.Name s2 _) a2 _] (.Name l2 _) _] =>
    decide (s1 = "super") && (decide (a1 = "__init__") && (decide (l1 = "limit") && (decide (s2 = "self") && (decide (a2 = "limit") && (decide (l2 = "limit") && (p3.endLine == p5.line))))))
  | _ => false
def supPar : Arguments → Bool
  | ⟨[], [a, b], none, [], [], none, []⟩ => decide (a.arg = "self") && decide (b.arg = "limit")
  | _ => false
def supFn (P : Program) (K : PySem.W.Frag) (C : Addr) (fd : FuncData) : Bool := match fd.body, fd.code, fd.closure with
  | .stmts body, .ref cda, [(q, cc)] => supBody body && (supPar fd.params && (decide (q = "__class__") && (decide (fd.globals = mainGlobals) && (decide (fd.builtins = builtinsNs) && (PySem.W.codeIn K (.ref cda) fd.qualname &&
    ((match K.lookup cc with | some ⟨_, _, .cell (some (.ref C')), _⟩ => decide (C' = C) | _ => false) &&
    ((match K.lookup cda with | some ⟨_, _, .fields vs, _⟩ => (match (vs[2]? : Option Value) with | some (Value.str file _) => ((P.main.file : Str) == file) | _ => false) | _ => false) &&
    (decide (fd.scope.names = L2.supNames) && (decide (fd.scope.kind = .function) && (!fd.scope.isCoroutine && (!fd.scope.isGenerator && (match fd.defaults with | .none => true | _ => false))))))))))))
  | _, _, _ => false
def supB (P : Program) (K : PySem.W.Frag) (C : Addr) : Bool := match PySem.W.findIn K (.ref C) "__init__" with
  | some (some (.ref fI)) => (match K.lookup fI with
    | some ⟨_, _, .func fd, _⟩ => supFn P K C fd
    | _ => false) && (oexB K C && (decide (PySem.W.findIn K (.ref C) "limit" = some none) && (decide (PySem.W.typeIn K (.ref fI) = some (.type "function")) && ((PySem.W.clsIn K C).isSome && (decide (PySem.W.mroIn K C (.ref C) = some true) &&
      (decide (PySem.W.nsIn K cStatics "thirdparty.any" = some none) && (decide (PySem.W.ks_superIn K C C "__init__" = some (some (.builtin "ValueError.__init__"))) && (decide (PySem.W.subIn K (.ref C) (.type "ValueError") = some true) && !(P.main.scope.names.lookup ("super" : Str)).isSome))))))))
  | _ => false
def qualL (x : Str) : Str := x ++ ".<locals>." ++ "<lambda>"
/-- what the written part must say beside the hook's own facts -/
def Pk.ex (P : Program) (K : PySem.W.Frag) : Bool :=
  (K.all fun q => decide (q.2.cls ≠ .type "list")) &&
  (((List.range p.gs.cnames.length).all fun c => (List.range p.gs.cnames.length).all fun k => decide (PySem.W.kitOne K (.ref (He.ga K (p.cname c))) (.ref (He.ga K (p.cname k))) = some (p.gs.subs.contains (c, k))) && decide (PySem.W.exmOne K (.ref (He.ga K (p.cname c))) (.ref (He.ga K (p.cname k))) = some (p.gs.subs.contains (c, k)))) &&
  (((List.range p.gs.cnames.length).all fun c => excCB K (He.ga K (p.cname c)) && decide (PySem.W.findIn K (.ref (He.ga K (p.cname c))) "limit" = some none)) &&
  ((p.gs.lims.all fun c => supB P K (He.ga K (p.cname c))) &&
  p.lamd.all fun j => p.lamd.all fun k => decide ((He.cT K (p.fname j, none)).2 = (He.cT K (p.fname k, none)).2 → p.fname j = p.fname k))))
end
theorem andB {a b : Bool} (h : (a && b) = true) : a = true ∧ b = true := Bool.and_eq_true_iff.mp h
/-! ### the facts' reach: two steps from the globals, and the __init__s of some classes -/
def reachC (K : PySem.W.Frag) (g : Addr → Option Obj) (x : Str) : List Addr := match PySem.W.findIn K (.ref (He.ga K x)) "__init__" with
  | some (some (.ref m)) => m :: (match g m with | some o => He.refsD o | none => [])
  | _ => []
def growY (g : Addr → Option Obj) (as : List Addr) : List Addr := as.flatMap fun a => match g a with | some o => He.refsD o | none => []
def reach (xs : List Str) (g : Addr → Option Obj) : List Addr :=
  let one := growY g [mainGlobals]
  let two := cStatics :: mainGlobals :: one ++ growY g one
  two ++ xs.flatMap (reachC (He.frG g two) g)
def fragY (xs : List Str) (g : Addr → Option Obj) : PySem.W.Frag := He.frT g (reach xs g)
def seenY (xs : List Str) (fa : List He.Fa) (fn : List He.DefD) (tf : List He.Defn) (ex : PySem.W.Frag → Bool) (g : Addr → Option Obj) : He.AlX :=
  let K := fragY xs g
  (He.obsT fa fn [] K, ex K && He.tabsB g tf K)
theorem seenY_of {xs : List Str} {fa : List He.Fa} {fn : List He.DefD} {tf : List He.Defn} {ex : PySem.W.Frag → Bool} {w : World} {h : Heap} (e : seenY xs fa fn tf ex h.get? = He.valX fn [] w) : He.SaysX fa fn [] tf ex w h (fragY xs h.get?) := by
  have z := andB (show (ex (fragY xs h.get?) && He.tabsB h.get? tf (fragY xs h.get?)) = true from congrArg Prod.snd e)
  have t := List.all_eq_true.mp z.2
  have tab : ∀ p ∈ tf, ∃ o, h.get? (He.cT (fragY xs h.get?) p).2 = some o ∧ He.emptyTab o = true := fun p hp => by
    have b := (andB (t p hp)).2
    split at b
    · rename_i o ho
      exact ⟨o, ho, b⟩
    · cases b
  refine ⟨congrArg Prod.fst e, z.1, fun p hp => (andB (t p hp)).1, fun p hp => ?_, fun p hp => ?_⟩
  · obtain ⟨o, ho, em⟩ := tab p hp
    exact He.frT_none ho em
  · obtain ⟨o, ho, em⟩ := tab p hp
    rw [ho, He.emptyTab_eq em]
def hookY (xs : List Str) (fa : List He.Fa) (fn : List He.DefD) (tf : List He.Defn) (ex : PySem.W.Frag → Bool) : PySem.W.Hook where
  α := He.AlX
  obs := fun s => seenY xs fa fn tf ex s.heap.get?
  val := fun w => He.valX fn [] w
  says := fun w h => ∃ K : PySem.W.Frag, K.In h ∧ He.SaysX fa fn [] tf ex w h K
  of := fun _ _ e => ⟨_, He.frT_in, seenY_of e⟩
  keeps := fun _ _ _ ⟨K, i, c⟩ k => ⟨K, i.keeps k, { t := c.t, more := c.more, hd := c.hd, out := c.out, empty := fun p hp => k _ _ (c.empty p hp) }⟩
theorem seenY_eq {xs : List Str} {fa : List He.Fa} {fn : List He.DefD} {tf : List He.Defn} {ex : PySem.W.Frag → Bool} {g : Addr → Option Obj} {s : Shared} (h : ∀ a, g a = s.heap.get? a) : seenY xs fa fn tf ex g = (hookY xs fa fn tf ex).obs s := by
  rw [show g = s.heap.get? from funext h]
  rfl
end Eng
end

section
set_option linter.all false
set_option maxRecDepth 100000
namespace Eng
open PySem
def f0 : Fn := { nslots := 3, npar := 3, inout := [], body := [(.ret (.and (.isi (.var 0) [.int]) (.and (.not (.isi (.var 0) [.bool])) (.cmp2 .le .le (.var 1) (.var 0) (.var 2)))))] } -- is_whole
def f1 : Fn := { nslots := 3, npar := 3, inout := [], body := [(.ite (.not (.call 0 [(.var 0), (.var 1), (.var 2)])) [(.rais 1 none)] [])] } -- need_whole
def f2 : Fn := { nslots := 3, npar := 3, inout := [], body := [(.ret (.and (.isi (.var 0) [.tuple]) (.cmp2 .le .le (.var 1) (.bi .len [(.var 0)]) (.var 2))))] } -- is_tuple_of
def f3 : Fn := { nslots := 3, npar := 1, inout := [], body := [(.ret (.bi .all [(.lc [1, 2] (.cmp .lt (.var 1) (.var 2)) (.tp [(.nm 1 0), (.nm 2 0)]) (.zip (.var 0) (.sl (.var 0) (some (.con (.int 1))) none)) [])]))] } -- is_ascending
def f4 : Fn := { nslots := 3, npar := 2, inout := [], body := [(.ite (.or (.not (.isi (.var 0) [.tuple])) (.not (.bi .all [(.lc [2] (.call 0 [(.var 2), (.con (.int 0)), (.bin .sub (.var 1) (.con (.int 1)))]) (.nm 2 0) (.val (.var 0)) [])]))) [(.ret (.con (.bl false)))] []), (.ret (.call 3 [(.var 0)]))] } -- is_set_below
def f5 : Fn := { nslots := 5, npar := 4, inout := [], body := [(.ret (.and (.call 2 [(.var 0), (.var 1), (.var 1)]) (.bi .all [(.lc [4] (.call 0 [(.var 4), (.var 2), (.var 3)]) (.nm 4 0) (.val (.var 0)) [])])))] } -- are_wholes
def f6 : Fn := { nslots := 2, npar := 1, inout := [], body := [(.expr (.bor 0))] } -- from_dict
def f7 : Fn := { nslots := 5, npar := 2, inout := [], body := [(.expr (.bor 0))] } -- plus
def f8 : Fn := { nslots := 7, npar := 2, inout := [], body := [(.expr (.bor 0))] } -- times
def f9 : Fn := { nslots := 3, npar := 2, inout := [], body := [(.ret (.and (.call 2 [(.var 0), (.con (.int 4)), (.con (.int 4))]) (.bi .all [(.lc [2] (.call 0 [(.var 2), (.con (.int 0)), (.bin .sub (.var 1) (.con (.int 1)))]) (.nm 2 0) (.val (.var 0)) [])])))] } -- is_crossing_of
def f10 : Fn := { nslots := 6, npar := 1, inout := [], body := [(.asg (.nm 1 2) (.lc [4] (.lst []) (.nm 4 0) (.rng [(.bin .mul (.con (.int 2)) (.bi .len [(.var 0)]))]) [])), (.for_ (.tp [(.nm 2 0), (.nm 3 0)]) (.enum (.var 0)) [(.for_ (.tp [(.nm 5 0), (.nm 4 0)]) (.enum (.var 3)) [(.app 1 [(.var 4)] (.tup [(.var 2), (.var 5)]))])]), (.ret (.mov 1))] } -- ends_of
def f11 : Fn := { nslots := 4, npar := 3, inout := [], body := [(.asg (.nm 3 0) (.ix (.var 0) (.ix (.ix (.var 1) (.ix (.var 2) (.con (.int 0)))) (.ix (.var 2) (.con (.int 1)))))), (.ret (.ite (.cmp .eq (.ix (.var 3) (.con (.int 0))) (.var 2)) (.ix (.var 3) (.con (.int 1))) (.ix (.var 3) (.con (.int 0)))))] } -- other_end
def f12 : Fn := { nslots := 9, npar := 1, inout := [], body := [(.asgt [(.nm 2 0), (.nm 3 1), (.nm 4 1)] [(.call 10 [(.var 0)]), (.dic [] []), (.lst [])]), (.for_ (.nm 1 0) (.rng [(.bi .len [(.var 0)])]) [(.for_ (.nm 5 0) (.rng [(.con (.int 4))]) [(.ite (.cmp .notin (.tup [(.var 1), (.var 5)]) (.bor 3)) [(.asgt [(.nm 6 1), (.nm 7 0)] [(.lst []), (.tup [(.var 1), (.var 5)])]), (.whl (.cmp .notin (.var 7) (.bor 3)) [(.seti 3 (.var 7) (.con (.bl true))), (.app 6 [] (.var 7)), (.asg (.nm 8 0) (.call 11 [(.var 2), (.var 0), (.var 7)])), (.asg (.nm 7 0) (.tup [(.ix (.var 8) (.con (.int 0))), (.bin .mod (.bin .add (.ix (.var 8) (.con (.int 1))) (.con (.int 3))) (.con (.int 4)))]))]), (.app 4 [] (.var 6))] [])])]), (.ret (.mov 4))] } -- face_list
def f13 : Fn := { nslots := 9, npar := 1, inout := [], body := [(.asgt [(.nm 2 0), (.nm 3 1), (.nm 4 1)] [(.call 10 [(.var 0)]), (.lst []), (.dic [] [])]), (.for_ (.nm 1 0) (.rng [(.bi .len [(.var 0)])]) [(.ite (.cmp .notin (.var 1) (.bor 4)) [(.asgt [(.nm 5 1), (.nm 6 0)] [(.lst [(.var 1)]), (.con (.int 0))]), (.seti 4 (.var 1) (.con (.bl true))), (.whl (.cmp .lt (.var 6) (.bi .len [(.bor 5)])) [(.for_ (.nm 7 0) (.rng [(.con (.int 4))]) [(.asg (.nm 8 0) (.ix (.call 11 [(.var 2), (.var 0), (.tup [(.ix (.bor 5) (.var 6)), (.var 7)])]) (.con (.int 0)))), (.ite (.cmp .notin (.var 8) (.bor 4)) [(.seti 4 (.var 8) (.con (.bl true))), (.app 5 [] (.var 8))] [])]), (.asg (.nm 6 0) (.bin .add (.var 6) (.con (.int 1))))]), (.app 3 [] (.bi .sorted [(.bor 5)]))] [])]), (.ret (.mov 3))] } -- piece_list
def f14 : Fn := { nslots := 4, npar := 1, inout := [], body := [(.ite (.or (.not (.call 2 [(.var 0), (.con (.int 2)), (.con (.int 2))])) (.or (.not (.call 2 [(.ix (.var 0) (.con (.int 0))), (.con (.int 0)), (.con (.int 40))])) (.not (.call 0 [(.ix (.var 0) (.con (.int 1))), (.con (.int 0)), (.con (.int 20))])))) [(.ret (.con (.bl false)))] []), (.asg (.nm 1 0) (.ix (.var 0) (.con (.int 0)))), (.ite (.not (.bi .all [(.lc [2] (.call 9 [(.var 2), (.bin .mul (.con (.int 2)) (.bi .len [(.var 1)]))]) (.nm 2 0) (.val (.var 1)) [])])) [(.ret (.con (.bl false)))] []), (.ite (.not (.bi .all [(.lc [3] (.cmp .eq (.bi .len [(.var 3)]) (.con (.int 2))) (.nm 3 0) (.val (.call 10 [(.var 1)])) [])])) [(.ret (.con (.bl false)))] []), (.ret (.cmp .eq (.bi .len [(.call 12 [(.var 1)])]) (.bin .add (.bi .len [(.var 1)]) (.bin .mul (.con (.int 2)) (.bi .len [(.call 13 [(.var 1)])])))))] } -- is_picture
def f15 : Fn := { nslots := 8, npar := 4, inout := [], body := [(.asgt [(.nm 4 1), (.nm 5 0)] [(.lst [(.var 2)]), (.ix (.ix (.var 0) (.var 2)) (.var 3))]), (.whl (.cmp .le (.bi .len [(.bor 4)]) (.bin .mul (.con (.int 2)) (.bi .len [(.var 1)]))) [(.asg (.nm 6 0) (.tup [(.ix (.var 5) (.con (.int 0))), (.bin .mod (.bin .add (.ix (.var 5) (.con (.int 1))) (.con (.int 2))) (.con (.int 4)))])), (.asg (.nm 7 0) (.ix (.ix (.var 1) (.ix (.var 6) (.con (.int 0)))) (.ix (.var 6) (.con (.int 1))))), (.ite (.and (.cmp .eq (.var 7) (.var 2)) (.cmp .eq (.call 11 [(.var 0), (.var 1), (.var 6)]) (.ix (.ix (.var 0) (.var 2)) (.var 3)))) [(.ret (.mov 4))] []), (.app 4 [] (.var 7)), (.asg (.nm 5 0) (.call 11 [(.var 0), (.var 1), (.var 6)]))]), (.expr (.bor 0))] } -- cord_from
def f16 : Fn := { nslots := 8, npar := 1, inout := [], body := [(.asgt [(.nm 2 0), (.nm 3 1), (.nm 4 1)] [(.call 10 [(.var 0)]), (.lst []), (.dic [] [])]), (.for_ (.nm 1 0) (.rng [(.bin .mul (.con (.int 2)) (.bi .len [(.var 0)]))]) [(.ite (.cmp .notin (.var 1) (.bor 4)) [(.asg (.nm 5 0) (.lc [6] (.call 15 [(.var 2), (.var 0), (.var 1), (.var 6)]) (.nm 6 0) (.rng [(.con (.int 2))]) [])), (.upd 4 (.lc [7] (.tup [(.var 7), (.con (.bl true))]) (.nm 7 0) (.val (.ix (.var 5) (.con (.int 0)))) [])), (.app 3 [] (.bi .tuple [(.bi .min [(.var 5)])]))] [])]), (.ret (.mov 3))] } -- cord_list
def f17 : Fn := { nslots := 1, npar := 1, inout := [], body := [(.ite (.or (.not (.call 14 [(.var 0)])) (.or (.cmp .gt (.bi .len [(.ix (.var 0) (.con (.int 0)))]) (.con (.int 12))) (.cmp .eq (.var 0) (.tup [(.tup []), (.con (.int 0))])))) [(.rais 3 none)] [])] } -- need_few
def f18 : Fn := { nslots := 2, npar := 2, inout := [], body := [(.ite (.not (.call 0 [(.var 1), (.con (.int 0)), (.bin .sub (.bi .len [(.ix (.var 0) (.con (.int 0)))]) (.con (.int 1)))])) [(.rais 4 none)] [])] } -- need_index
def f19 : Fn := { nslots := 6, npar := 2, inout := [], body := [(.expr (.bor 0))] } -- pairs_by
def f20 : Fn := { nslots := 7, npar := 2, inout := [], body := [(.for_ (.tp [(.nm 2 0), (.nm 3 0)]) (.val (.var 1)) [(.asgt [(.nm 4 0), (.nm 5 0)] [(.bi .min2 [(.ix (.var 0) (.var 2)), (.ix (.var 0) (.var 3))]), (.bi .max2 [(.ix (.var 0) (.var 2)), (.ix (.var 0) (.var 3))])]), (.asg (.nm 0 0) (.lc [6] (.ite (.cmp .eq (.var 6) (.var 5)) (.var 4) (.var 6)) (.nm 6 0) (.val (.var 0)) []))]), (.ret (.var 0))] } -- joined_labels
def f21 : Fn := { nslots := 15, npar := 3, inout := [], body := [(.expr (.bor 0))] } -- opened_in
def f22 : Fn := { nslots := 8, npar := 2, inout := [], body := [(.expr (.bor 0))] } -- circles_in
def f23 : Fn := { nslots := 9, npar := 1, inout := [], body := [(.expr (.bor 0))] } -- counts_in
def f24 : Fn := { nslots := 8, npar := 2, inout := [], body := [(.expr (.bor 0))] } -- met_in
def f25 : Fn := { nslots := 4, npar := 2, inout := [], body := [(.expr (.call 17 [(.var 0)])), (.asg (.nm 2 0) (.bi .len [(.ix (.var 0) (.con (.int 0)))])), (.ite (.or (.not (.call 2 [(.var 1), (.var 2), (.var 2)])) (.not (.bi .all [(.lc [3] (.call 0 [(.var 3), (.con (.int 0)), (.con (.int 1))]) (.nm 3 0) (.val (.var 1)) [])]))) [(.rais 2 none)] [])] } -- need_smoothing
def f26 : Fn := { nslots := 3, npar := 3, inout := [], body := [(.expr (.call 17 [(.var 0)])), (.expr (.call 18 [(.var 0), (.var 1)])), (.expr (.call 1 [(.var 2), (.con (.int 0)), (.con (.int 1))])), (.expr (.bor 0))] } -- opened
def f27 : Fn := { nslots := 2, npar := 2, inout := [], body := [(.expr (.call 25 [(.var 0), (.var 1)])), (.expr (.bor 0))] } -- circles_of
def f28 : Fn := { nslots := 2, npar := 2, inout := [], body := [(.expr (.call 25 [(.var 0), (.var 1)])), (.expr (.bor 0))] } -- power_of
def f29 : Fn := { nslots := 2, npar := 2, inout := [], body := [(.expr (.call 25 [(.var 0), (.var 1)])), (.expr (.bor 0))] } -- met_at
def f30 : Fn := { nslots := 3, npar := 1, inout := [], body := [(.expr (.call 17 [(.var 0)])), (.expr (.bor 0)), (.expr (.bor 0))] } -- circle_counts
def f31 : Fn := { nslots := 3, npar := 1, inout := [], body := [(.expr (.bor 0))] } -- loose_in
def f32 : Fn := { nslots := 5, npar := 1, inout := [], body := [(.expr (.bor 0))] } -- bracket_in
def f33 : Fn := { nslots := 2, npar := 2, inout := [], body := [(.expr (.bor 0))] } -- side_in
def f34 : Fn := { nslots := 1, npar := 1, inout := [], body := [(.expr (.call 17 [(.var 0)])), (.expr (.bor 0))] } -- bracket_sum
def f35 : Fn := { nslots := 1, npar := 1, inout := [], body := [(.expr (.call 1 [(.var 0), (.con (.int 0)), (.con (.int 40))])), (.expr (.bor 0))] } -- loose_power
def f36 : Fn := { nslots := 3, npar := 2, inout := [], body := [(.expr (.call 17 [(.var 0)])), (.expr (.call 1 [(.var 1), (.con (.int 0)), (.con (.int 1))])), (.expr (.bor 0)), (.expr (.bor 0))] } -- lead_power
def f37 : Fn := { nslots := 4, npar := 2, inout := [], body := [(.asg (.nm 2 0) (.bi .len [(.call 16 [(.ix (.var 0) (.con (.int 0)))])])), (.ret (.and (.call 2 [(.var 1), (.var 2), (.var 2)]) (.bi .all [(.lc [3] (.call 0 [(.var 3), (.con (.int 0)), (.con (.int 1))]) (.nm 3 0) (.val (.var 1)) [])])))] } -- fits_ways
def f38 : Fn := { nslots := 2, npar := 2, inout := [], body := [(.expr (.call 17 [(.var 0)])), (.ite (.not (.call 37 [(.var 0), (.var 1)])) [(.rais 6 none)] [])] } -- need_ways
def f39 : Fn := { nslots := 10, npar := 2, inout := [], body := [(.expr (.bor 0))] } -- arrivals_by
def f40 : Fn := { nslots := 4, npar := 2, inout := [], body := [(.expr (.bor 0))] } -- ways_by
def f41 : Fn := { nslots := 5, npar := 2, inout := [], body := [(.expr (.bor 0))] } -- signs_by
def f42 : Fn := { nslots := 3, npar := 2, inout := [], body := [(.expr (.bor 0))] } -- factor_by
def f43 : Fn := { nslots := 2, npar := 2, inout := [], body := [(.expr (.bor 0))] } -- turned_in
def f44 : Fn := { nslots := 2, npar := 2, inout := [], body := [(.expr (.call 17 [(.var 0)])), (.expr (.bor 0))] } -- are_ways
def f45 : Fn := { nslots := 2, npar := 2, inout := [], body := [(.expr (.call 38 [(.var 0), (.var 1)])), (.expr (.bor 0))] } -- turn_factor
def f46 : Fn := { nslots := 2, npar := 2, inout := [], body := [(.expr (.call 38 [(.var 0), (.var 1)])), (.expr (.bor 0))] } -- turned_sum
def f47 : Fn := { nslots := 9, npar := 3, inout := [], body := [(.expr (.call 38 [(.var 0), (.var 1)])), (.ite (.not (.call 0 [(.var 2), (.con (.int 0)), (.bin .sub (.bi .len [(.var 1)]) (.con (.int 1)))])) [(.rais 7 none)] []), (.expr (.bor 0)), (.expr (.bor 0)), (.expr (.bor 0))] } -- cord_turn
def f48 : Fn := { nslots := 5, npar := 2, inout := [], body := [(.expr (.bor 0))] } -- quarter_in
def f49 : Fn := { nslots := 4, npar := 2, inout := [], body := [(.expr (.bor 0))] } -- plain_in
def f50 : Fn := { nslots := 2, npar := 2, inout := [], body := [(.expr (.call 38 [(.var 0), (.var 1)])), (.expr (.bor 0))] } -- quarter_sum
def f51 : Fn := { nslots := 2, npar := 2, inout := [], body := [(.expr (.call 38 [(.var 0), (.var 1)])), (.expr (.bor 0))] } -- plain_number
def f52 : Fn := { nslots := 4, npar := 2, inout := [], body := [(.expr (.call 38 [(.var 0), (.var 1)])), (.expr (.bor 0))] } -- one_value
def f53 : Fn := { nslots := 1, npar := 1, inout := [], body := [(.expr (.call 17 [(.var 0)])), (.expr (.bor 0))] } -- size_number
def f54 : Fn := { nslots := 3, npar := 1, inout := [], body := [(.expr (.bor 0))] } -- is_by_turns
def f55 : Fn := { nslots := 5, npar := 1, inout := [], body := [(.expr (.bor 0))] } -- has_cut
def f56 : Fn := { nslots := 2, npar := 1, inout := [], body := [(.expr (.call 17 [(.var 0)])), (.expr (.bor 0)), (.expr (.bor 0))] } -- spread_of
def f57 : Fn := { nslots := 3, npar := 1, inout := [], body := [(.expr (.call 17 [(.var 0)])), (.expr (.bor 0)), (.expr (.bor 0)), (.expr (.bor 0))] } -- is_least_kind
def f58 : Fn := { nslots := 1, npar := 1, inout := [], body := [(.expr (.call 17 [(.var 0)])), (.expr (.bor 0))] } -- side_circles
def f59 : Fn := { nslots := 2, npar := 1, inout := [], body := [(.expr (.call 17 [(.var 0)])), (.expr (.bor 0)), (.expr (.bor 0))] } -- met_sides
def f60 : Fn := { nslots := 10, npar := 3, inout := [], body := [(.expr (.bor 0))] } -- opened_along
def f61 : Fn := { nslots := 7, npar := 3, inout := [], body := [(.expr (.bor 0))] } -- changed_along
def f62 : Fn := { nslots := 3, npar := 3, inout := [], body := [(.expr (.call 38 [(.var 0), (.var 1)])), (.expr (.call 18 [(.var 0), (.var 2)]))] } -- need_all
def f63 : Fn := { nslots := 3, npar := 3, inout := [], body := [(.expr (.call 62 [(.var 0), (.var 1), (.var 2)])), (.expr (.bor 0))] } -- opened_by
def f64 : Fn := { nslots := 3, npar := 3, inout := [], body := [(.expr (.call 62 [(.var 0), (.var 1), (.var 2)])), (.expr (.bor 0))] } -- changed_by
def f65 : Fn := { nslots := 7, npar := 3, inout := [], body := [(.expr (.call 62 [(.var 0), (.var 1), (.var 2)])), (.expr (.bor 0)), (.expr (.bor 0)), (.expr (.bor 0)), (.expr (.bor 0)), (.expr (.bor 0))] } -- three_sums
def f66 : Fn := { nslots := 2, npar := 2, inout := [], body := [(.ite (.not (.call 0 [(.var 1), (.con (.int 0)), (.bin .sub (.bin .mul (.con (.int 2)) (.bi .len [(.ix (.var 0) (.con (.int 0)))])) (.con (.int 1)))])) [(.rais 5 none)] [])] } -- need_edge
def f67 : Fn := { nslots := 2, npar := 2, inout := [], body := [(.expr (.call 17 [(.var 0)])), (.expr (.call 17 [(.var 1)]))] } -- need_both
def f68 : Fn := { nslots := 11, npar := 4, inout := [], body := [(.expr (.call 17 [(.var 0)])), (.expr (.call 66 [(.var 0), (.var 1)])), (.expr (.call 17 [(.var 2)])), (.expr (.call 66 [(.var 2), (.var 3)])), (.asg (.nm 4 0) (.bi .len [(.ix (.var 0) (.con (.int 0)))])), (.ite (.or (.cmp .gt (.bin .add (.var 4) (.bi .len [(.ix (.var 2) (.con (.int 0)))])) (.con (.int 12))) (.cmp .gt (.bin .add (.ix (.var 0) (.con (.int 1))) (.ix (.var 2) (.con (.int 1)))) (.con (.int 20)))) [(.rais 11 (some (.con (.int 12))))] []), (.asg (.nm 5 2) (.lc [8] (.bi .list [(.var 8)]) (.nm 8 0) (.val (.ix (.var 0) (.con (.int 0)))) [])), (.asg (.nm 5 2) (.catl (.mov 5) (.lc [8] (.lc [9] (.bin .add (.bin .mul (.con (.int 2)) (.var 4)) (.var 9)) (.nm 9 0) (.val (.var 8)) []) (.nm 8 0) (.val (.ix (.var 2) (.con (.int 0)))) []))), (.asgt [(.nm 6 0), (.nm 7 0)] [(.ix (.ix (.call 10 [(.ix (.var 0) (.con (.int 0)))]) (.var 1)) (.con (.int 1))), (.ix (.ix (.call 10 [(.ix (.var 2) (.con (.int 0)))]) (.var 3)) (.con (.int 0)))]), (.setp 5 [(.ix (.bor 6) (.con (.int 0)))] (.ix (.bor 6) (.con (.int 1))) (.bin .add (.bin .mul (.con (.int 2)) (.var 4)) (.var 3))), (.setp 5 [(.bin .add (.var 4) (.ix (.bor 7) (.con (.int 0))))] (.ix (.bor 7) (.con (.int 1))) (.var 1)), (.ret (.tup [(.bi .tuple [(.lc [10] (.bi .tuple [(.var 10)]) (.nm 10 0) (.val (.var 5)) [])]), (.bin .add (.ix (.var 0) (.con (.int 1))) (.ix (.var 2) (.con (.int 1))))]))] } -- tied
def f69 : Fn := { nslots := 2, npar := 2, inout := [], body := [(.expr (.call 67 [(.var 0), (.var 1)])), (.expr (.bor 0))] } -- tied_sum
def f70 : Fn := { nslots := 2, npar := 2, inout := [], body := [(.expr (.call 67 [(.var 0), (.var 1)])), (.expr (.bor 0))] } -- beside_sum
def f71 : Fn := { nslots := 3, npar := 1, inout := [], body := [(.expr (.call 17 [(.var 0)])), (.expr (.bor 0))] } -- mirror_sum
def f72 : Fn := { nslots := 1, npar := 1, inout := [], body := [(.ite (.or (.cmp .gt (.ix (.var 0) (.con (.int 1))) (.con (.int 0))) (.cmp .ne (.bi .len [(.call 13 [(.ix (.var 0) (.con (.int 0)))])]) (.con (.int 1)))) [(.rais 10 none)] [])] } -- need_one_piece
def f73 : Fn := { nslots := 9, npar := 1, inout := [], body := [(.asg (.nm 1 0) (.bi .dict [(.lc2 [6, 4, 7] [7] (.tup [(.var 7), (.var 6)]) (.tp [(.nm 6 0), (.nm 4 0)]) (.enum (.var 0)) [] (.nm 7 0) (.val (.var 4)) [])])), (.asg (.nm 2 1) (.dic [(.ix (.var 1) (.tup [(.con (.int 0)), (.con (.int 0))]))] [(.con (.int 0))])), (.for_ (.nm 3 0) (.rng [(.bi .len [(.var 0)])]) [(.for_ (.tp [(.tp [(.nm 6 0), (.nm 8 0)]), (.nm 4 0)]) (.items (.var 1)) [(.asg (.nm 5 0) (.ix (.var 1) (.tup [(.var 6), (.bin .mod (.bin .add (.var 8) (.con (.int 1))) (.con (.int 4)))]))), (.ite (.and (.cmp .isin (.var 4) (.bor 2)) (.cmp .notin (.var 5) (.bor 2))) [(.seti 2 (.var 5) (.bin .sub (.con (.int 1)) (.ix (.bor 2) (.var 4))))] [])])]), (.ret (.lc [6] (.ix (.bor 2) (.var 6)) (.nm 6 0) (.rng [(.bi .len [(.var 0)])]) []))] } -- colours_in
def f74 : Fn := { nslots := 12, npar := 2, inout := [], body := [(.asg (.nm 2 0) (.call 12 [(.ix (.var 0) (.con (.int 0)))])), (.asg (.nm 3 0) (.call 73 [(.var 2)])), (.asg (.nm 4 0) (.lc [7] (.var 7) (.nm 7 0) (.rng [(.bi .len [(.var 2)])]) [(.cmp .eq (.ix (.var 3) (.var 7)) (.var 1))])), (.asg (.nm 5 0) (.bi .dict [(.lc2 [7, 11] [11] (.tup [(.var 11), (.mt .index (.var 4) [(.var 7)])]) (.nm 7 0) (.val (.var 4)) [] (.nm 11 0) (.val (.ix (.var 2) (.var 7))) [])])), (.asg (.nm 6 1) (.lst [])), (.for_ (.nm 7 0) (.rng [(.bi .len [(.ix (.var 0) (.con (.int 0)))])]) [(.asg (.nm 8 0) (.ite (.cmp .isin (.tup [(.var 7), (.con (.int 0))]) (.var 5)) (.con (.int 0)) (.con (.int 1)))), (.asgt [(.nm 9 0), (.nm 10 0)] [(.ix (.var 5) (.tup [(.var 7), (.var 8)])), (.ix (.var 5) (.tup [(.var 7), (.bin .add (.var 8) (.con (.int 2)))]))]), (.app 6 [] (.tup [(.bi .min2 [(.var 9), (.var 10)]), (.bi .max2 [(.var 9), (.var 10)]), (.ite (.cmp .eq (.var 8) (.con (.int 1))) (.con (.int 1)) (.con (.int (-1))))]))]), (.ret (.tup [(.bi .len [(.var 4)]), (.bi .tuple [(.bor 6)])]))] } -- web_in
def f75 : Fn := { nslots := 3, npar := 2, inout := [], body := [(.ret (.call 20 [(.bit .list (.rng [(.ix (.var 0) (.con (.int 0)))])), (.lc [2] (.sl (.ix (.ix (.var 0) (.con (.int 1))) (.var 2)) none (some (.con (.int 2)))) (.nm 2 0) (.val (.var 1)) [])]))] } -- labels_by
def f76 : Fn := { nslots := 6, npar := 1, inout := [], body := [(.asg (.nm 1 0) (.lst [(.tup [])])), (.for_ (.nm 2 0) (.rng [(.bi .len [(.ix (.var 0) (.con (.int 1)))])]) [(.asg (.nm 3 1) (.lst [])), (.for_ (.nm 4 0) (.val (.var 1)) [(.asg (.nm 5 0) (.call 75 [(.var 0), (.var 4)])), (.ite (.cmp .ne (.ix (.var 5) (.ix (.ix (.ix (.var 0) (.con (.int 1))) (.var 2)) (.con (.int 0)))) (.ix (.var 5) (.ix (.ix (.ix (.var 0) (.con (.int 1))) (.var 2)) (.con (.int 1))))) [(.app 3 [] (.bin .add (.var 4) (.tup [(.var 2)])))] [])]), (.asg (.nm 1 0) (.bin .add (.var 1) (.bor 3)))]), (.ret (.bi .sorted [(.lc [4] (.var 4) (.nm 4 0) (.val (.var 1)) [(.cmp .eq (.bi .len [(.var 4)]) (.bin .sub (.ix (.var 0) (.con (.int 0))) (.con (.int 1))))])]))] } -- trees_in
def f77 : Fn := { nslots := 4, npar := 3, inout := [], body := [(.expr (.bor 0))] } -- is_apart
def f78 : Fn := { nslots := 8, npar := 4, inout := [], body := [(.expr (.bor 0))] } -- is_alive
def f79 : Fn := { nslots := 12, npar := 3, inout := [], body := [(.expr (.bor 0))] } -- weight_in
def f80 : Fn := { nslots := 2, npar := 2, inout := [], body := [(.expr (.call 17 [(.var 0)])), (.expr (.call 1 [(.var 1), (.con (.int 0)), (.con (.int 1))]))] } -- need_colour
def f81 : Fn := { nslots := 3, npar := 2, inout := [], body := [(.asg (.nm 2 0) (.bi .len [(.ix (.var 0) (.con (.int 0)))])), (.ite (.or (.not (.call 5 [(.var 1), (.var 2), (.con (.int 0)), (.bin .sub (.var 2) (.con (.int 1)))])) (.cmp .lt (.bi .lenset [(.var 1)]) (.var 2))) [(.rais 8 none)] [])] } -- need_order
def f82 : Fn := { nslots := 3, npar := 3, inout := [], body := [(.expr (.call 80 [(.var 0), (.var 1)])), (.expr (.call 81 [(.var 0), (.var 2)])), (.expr (.call 72 [(.var 0)])), (.ret (.call 74 [(.var 0), (.var 1)]))] } -- need_web
def f83 : Fn := { nslots := 2, npar := 2, inout := [], body := [(.ite (.or (.not (.call 4 [(.var 1), (.bi .len [(.ix (.var 0) (.con (.int 1)))])])) (.cmp .notin (.var 1) (.call 76 [(.var 0)]))) [(.rais 9 none)] [])] } -- need_tree
def f84 : Fn := { nslots := 6, npar := 3, inout := [], body := [(.asgt [(.nm 4 0), (.nm 5 0)] [(.call 82 [(.var 0), (.var 1), (.var 2)]), (.tup [])]), (.expr (.bor 0)), (.expr (.bor 0))] } -- tree_sum
def f85 : Fn := { nslots := 5, npar := 3, inout := [], body := [(.asg (.nm 3 0) (.call 82 [(.var 0), (.var 1), (.var 2)])), (.expr (.bor 0))] } -- weights_of
def f86 : Fn := { nslots := 5, npar := 4, inout := [], body := [(.asg (.nm 4 0) (.call 82 [(.var 0), (.var 1), (.var 2)])), (.expr (.call 83 [(.var 4), (.var 3)])), (.expr (.bor 0))] } -- weight_of
def f87 : Fn := { nslots := 8, npar := 4, inout := [], body := [(.asg (.nm 4 0) (.call 82 [(.var 0), (.var 1), (.var 2)])), (.expr (.call 83 [(.var 4), (.var 3)])), (.expr (.bor 0)), (.expr (.bor 0))] } -- alive_in
def f88 : Fn := { nslots := 2, npar := 1, inout := [], body := [(.asg (.nm 1 0) (.bi .abs [(.ix (.bin .add (.bi .list [(.var 0)]) (.lst [(.con (.int 0))])) (.con (.int 0)))])), (.ret (.lst [(.ite (.cmp .ge (.var 1) (.bin .pow (.con (.int 10)) (.con (.int 18)))) (.bin .fdiv (.var 1) (.con (.int 167))) (.con (.int 0))), (.bin .add (.bin .mod (.bi .int [(.bin .add (.bin .mul (.var 1) (.con (.int 421))) (.con (.int 6229)))]) (.con (.int 1894129633))) (.con (.int 271)))]))] } -- _law_cup
def f89 : Fn := { nslots := 4, npar := 2, inout := [0], body := [(.ite (.cmp .gt (.ix (.bor 0) (.con (.int 0))) (.con (.int 0))) [(.asg (.nm 3 0) (.bin .mod (.bi .int [(.ix (.bor 0) (.con (.int 0)))]) (.var 1))), (.seti 0 (.con (.int 0)) (.bin .fdiv (.ix (.bor 0) (.con (.int 0))) (.var 1))), (.ret (.var 3))] []), (.seti 0 (.con (.int 1)) (.bin .mod (.bi .int [(.bin .add (.bin .mul (.ix (.bor 0) (.con (.int 1))) (.con (.int 29147))) (.con (.int 9923)))]) (.con (.int 2147483543)))), (.asg (.nm 2 0) (.bin .mod (.bi .int [(.bin .mul (.ix (.bor 0) (.con (.int 1))) (.bin .add (.ix (.bor 0) (.con (.int 1))) (.con (.int 353))))]) (.con (.int 2147483587)))), (.ret (.bin .mod (.bi .int [(.bin .fdiv (.var 2) (.con (.int 953)))]) (.var 1)))] } -- _law_roll
def f90 : Fn := { nslots := 17, npar := 2, inout := [], body := [(.asgt [(.nm 6 1), (.nm 7 1), (.nm 8 1)] [(.bin .mul (.lst [(.con .non)]) (.var 1)), (.lst []), (.bin .mul (.lst [(.con .non)]) (.var 1))]), (.for_ (.tp [(.nm 9 0), (.nm 10 0)]) (.enum (.var 0)) [(.asg (.nm 11 0) (.bin .sub (.bi .max2 [(.var 10), (.neg (.var 10))]) (.con (.int 1)))), (.for_ (.nm 3 0) (.val (.tup [(.var 11), (.bin .add (.var 11) (.con (.int 1)))])) [(.ite (.cmp .is (.ix (.bor 6) (.var 3)) (.con .non)) [(.seti 8 (.var 3) (.bin .sub (.neg (.var 3)) (.con (.int 1)))), (.seti 6 (.var 3) (.bin .sub (.neg (.var 3)) (.con (.int 1))))] [])]), (.asgt [(.nm 12 0), (.nm 13 0), (.nm 14 0), (.nm 15 0)] [(.ix (.bor 6) (.var 11)), (.ix (.bor 6) (.bin .add (.var 11) (.con (.int 1)))), (.bin .mul (.con (.int 2)) (.var 9)), (.bin .add (.bin .mul (.con (.int 2)) (.var 9)) (.con (.int 1)))]), (.app 7 [] (.ite (.cmp .gt (.var 10) (.con (.int 0))) (.tup [(.var 12), (.var 13), (.var 15), (.var 14)]) (.tup [(.var 13), (.var 15), (.var 14), (.var 12)]))), (.asgt [(.st 6 (.var 11)), (.st 6 (.bin .add (.var 11) (.con (.int 1))))] [(.var 14), (.var 15)])]), (.asg (.nm 2 1) (.dic [] [])), (.for_ (.nm 3 0) (.rng [(.var 1)]) [(.ite (.cmp .isnot (.ix (.bor 8) (.var 3)) (.con .non)) [(.seti 2 (.ix (.bor 8) (.var 3)) (.ix (.bor 6) (.var 3)))] [])]), (.asg (.nm 4 1) (.lst [])), (.for_ (.nm 5 0) (.val (.var 7)) [(.app 4 [] (.bi .tuple [(.lc [16] (.mt .get (.bor 2) [(.var 16), (.var 16)]) (.nm 16 0) (.val (.var 5)) [])]))]), (.ret (.tup [(.bi .tuple [(.bor 4)]), (.bi .len [(.lc [3] (.var 3) (.nm 3 0) (.val (.var 8)) [(.cmp .is (.var 3) (.con .non))])])]))] } -- _law_braid
def f91 : Fn := { nslots := 5, npar := 1, inout := [], body := [(.try_ [(.expr (.callv 0 []))] 0 (some 1) [(.asg (.nm 2 0) (.lst [(.tup [(.con (.str (Str.ofString "cords"))), (.isi (.var 1) [(.own 7)])]), (.tup [(.con (.str (Str.ofString "crossing"))), (.isi (.var 1) [(.own 4)])]), (.tup [(.con (.str (Str.ofString "edge"))), (.isi (.var 1) [(.own 5)])])])), (.asg (.nm 2 0) (.bin .add (.var 2) (.lst [(.tup [(.con (.str (Str.ofString "number"))), (.isi (.var 1) [(.own 1)])]), (.tup [(.con (.str (Str.ofString "picture"))), (.isi (.var 1) [(.own 3)])]), (.tup [(.con (.str (Str.ofString "row"))), (.isi (.var 1) [(.own 8)])])]))), (.asg (.nm 2 0) (.bin .add (.var 2) (.lst [(.tup [(.con (.str (Str.ofString "sort"))), (.isi (.var 1) [(.own 2)])]), (.tup [(.con (.str (Str.ofString "tree"))), (.isi (.var 1) [(.own 9)])]), (.tup [(.con (.str (Str.ofString "ways"))), (.isi (.var 1) [(.own 6)])])]))), (.asg (.nm 2 0) (.bin .add (.var 2) (.lst [(.tup [(.con (.str (Str.ofString "now"))), (.isi (.var 1) [(.own 10)])]), (.tup [(.con (.str (Str.ofString "many"))), (.and (.isi (.var 1) [(.own 11)]) (.cmp .eq (.attr (.var 1)) (.con (.int 12))))])]))), (.ret (.or (.mt .join (.con (.str (Str.ofString " "))) [(.lc [3, 4] (.var 3) (.tp [(.nm 3 0), (.nm 4 0)]) (.lval (.var 2)) [(.var 4)])]) (.con (.str (Str.ofString "other")))))]), (.ret (.con (.str (Str.ofString ""))))] } -- _law_error
def f92 : Fn := { nslots := 3, npar := 0, inout := [], body := [(.asgt [(.nm 1 0), (.nm 2 0)] [(.tup [(.tup [(.con (.int 0)), (.con (.int 0)), (.con (.int 1)), (.con (.int 1))])]), (.call 90 [(.bin .mul (.lst [(.con (.int 1))]) (.con (.int 13))), (.con (.int 2))])]), (.asg (.nm 0 0) (.lst [(.con .non), (.tup []), (.tup [(.tup []), (.con (.int 0))]), (.tup [(.tup []), (.con (.int 21))]), (.tup [(.tup []), (.con (.int (-1)))]), (.tup [(.tup []), (.con (.bl true))]), (.lst [(.tup []), (.con (.int 1))]), (.tup [(.lst []), (.con (.int 1))]), (.tup [(.var 1), (.con .non)]), (.tup [(.tup [(.tup [(.con (.int 0)), (.con (.int 1)), (.con (.int 0)), (.con (.int 1))])]), (.con (.int 0))]), (.tup [(.tup [(.tup [(.con (.int 0)), (.con (.int 0)), (.con (.int 1))])]), (.con (.int 0))])])), (.ret (.bin .add (.var 0) (.lst [(.tup [(.tup [(.tup [(.con (.int 0)), (.con (.int 0)), (.con (.int 1)), (.con (.int 2))])]), (.con (.int 0))]), (.tup [(.tup [(.tup [(.con (.int 0)), (.con (.int 0)), (.con (.int 0)), (.con (.int 1))])]), (.con (.int 0))]), (.tup [(.tup [(.ix (.var 1) (.con (.int 0))), (.ix (.var 1) (.con (.int 0)))]), (.con (.int 0))]), (.tup [(.tup [(.lst [(.con (.int 0)), (.con (.int 0)), (.con (.int 1)), (.con (.int 1))])]), (.con (.int 0))]), (.tup [(.tup [(.tup [(.con (.bl false)), (.con (.bl false)), (.con (.int 1)), (.con (.int 1))])]), (.con (.int 0))]), (.var 2), (.tup [(.var 1), (.con (.int 0)), (.con (.int 0))])])))] } -- _law_odd_pictures
def f93 : Fn := { nslots := 4, npar := 0, inout := [], body := [(.for_ (.nm 0 0) (.val (.call 92 [])) [(.asg (.nm 2 1) (.lc [3] (.lam 91 0) (.nm 3 0) (.val (.tup [(.fn 30), (.fn 34), (.fn 71), (.fn 56), (.fn 57), (.fn 58), (.fn 59), (.fn 53)])) [])), (.asg (.nm 2 1) (.bin .add (.bor 2) (.lc [3] (.lam 91 1) (.nm 3 0) (.val (.tup [(.fn 27), (.fn 28), (.fn 29), (.fn 36), (.fn 44), (.fn 45), (.fn 46), (.fn 69), (.fn 70)])) []))), (.asg (.nm 2 1) (.bin .add (.bor 2) (.lc [3] (.lam 91 2) (.nm 3 0) (.val (.tup [(.fn 50), (.fn 51), (.fn 52)])) []))), (.asg (.nm 2 1) (.bin .add (.bor 2) (.lc [3] (.lam 91 3) (.nm 3 0) (.val (.tup [(.fn 26), (.fn 47), (.fn 63), (.fn 64), (.fn 65), (.fn 84), (.fn 85)])) []))), (.asg (.nm 2 1) (.bin .add (.bor 2) (.lc [3] (.lam 91 4) (.nm 3 0) (.val (.tup [(.fn 68), (.fn 86), (.fn 87)])) []))), (.ite (.cmp .ne (.bor 2) (.bin .mul (.lst [(.con (.str (Str.ofString "picture")))]) (.con (.int 30)))) [(.ret (.con (.bl false)))] [])]), (.asg (.nm 1 0) (.tup [(.tup [(.tup [(.con (.int 0)), (.con (.int 0)), (.con (.int 1)), (.con (.int 1))])]), (.con (.int 0))])), (.for_ (.nm 0 0) (.val (.call 92 [])) [(.asg (.nm 2 1) (.lc [3] (.lam 91 5) (.nm 3 0) (.val (.tup [(.fn 69), (.fn 70)])) [])), (.app 2 [] (.lam 91 6)), (.ite (.cmp .ne (.bor 2) (.bin .mul (.lst [(.con (.str (Str.ofString "picture")))]) (.con (.int 3)))) [(.ret (.con (.bl false)))] [])]), (.ret (.con (.bl true)))] } -- _law_pictures_right
def f94 : Fn := { nslots := 5, npar := 0, inout := [], body := [(.asgt [(.nm 2 0), (.nm 3 0)] [(.tup [(.tup [(.tup [(.con (.int 0)), (.con (.int 4)), (.con (.int 1)), (.con (.int 3))]), (.tup [(.con (.int 2)), (.con (.int 0)), (.con (.int 3)), (.con (.int 5))]), (.tup [(.con (.int 4)), (.con (.int 2)), (.con (.int 5)), (.con (.int 1))])]), (.con (.int 0))]), (.tup [(.tup []), (.con (.int 1))])]), (.asg (.nm 0 1) (.lc [1] (.lam 91 7) (.nm 1 0) (.val (.tup [(.con .non), (.con (.int (-1))), (.con (.int 3)), (.con (.bl true)), (.con (.str (Str.ofString "0")))])) [])), (.app 0 [] (.lam 91 8)), (.for_ (.nm 1 0) (.val (.tup [(.con .non), (.con (.int (-1))), (.con (.int 3)), (.con (.bl true)), (.con (.str (Str.ofString "0")))])) [(.asg (.nm 0 1) (.bin .add (.bor 0) (.lc [4] (.lam 91 9) (.nm 4 0) (.val (.tup [(.fn 63), (.fn 64), (.fn 65)])) [])))]), (.ite (.cmp .ne (.bor 0) (.bin .mul (.lst [(.con (.str (Str.ofString "crossing")))]) (.con (.int 21)))) [(.ret (.con (.bl false)))] []), (.asg (.nm 0 1) (.lc [1] (.lam 91 10) (.nm 1 0) (.val (.tup [(.con .non), (.con (.int (-1))), (.con (.int 2)), (.con (.bl true))])) [])), (.asg (.nm 0 1) (.bin .add (.bor 0) (.lc [1] (.lam 91 11) (.nm 1 0) (.val (.tup [(.con .non), (.con (.int (-1))), (.con (.int 2)), (.con (.bl false))])) []))), (.asg (.nm 0 1) (.bin .add (.bor 0) (.lc [1] (.lam 91 12) (.nm 1 0) (.val (.tup [(.con .non), (.con (.int (-1))), (.con (.int 41)), (.con (.bl true))])) []))), (.for_ (.nm 1 0) (.val (.tup [(.con .non), (.con (.int (-1))), (.con (.int 2)), (.con (.bl true))])) [(.asg (.nm 0 1) (.bin .add (.bor 0) (.lc [4] (.lam 91 13) (.nm 4 0) (.val (.tup [(.fn 84), (.fn 85)])) []))), (.asg (.nm 0 1) (.bin .add (.bor 0) (.lc [4] (.lam 91 14) (.nm 4 0) (.val (.tup [(.fn 86), (.fn 87)])) [])))]), (.ite (.cmp .ne (.bor 0) (.bin .mul (.lst [(.con (.str (Str.ofString "number")))]) (.con (.int 28)))) [(.ret (.con (.bl false)))] []), (.asg (.nm 0 1) (.lst [])), (.for_ (.nm 1 0) (.val (.tup [(.con .non), (.tup []), (.tup [(.con (.int 0)), (.con (.int 0))]), (.tup [(.con (.int 0)), (.con (.int 0)), (.con (.int 0)), (.con (.int 0))]), (.lst [(.con (.int 0)), (.con (.int 0)), (.con (.int 0))]), (.tup [(.con (.int 0)), (.con (.int 0)), (.con (.int 2))]), (.tup [(.con (.int 0)), (.con (.int 0)), (.con (.bl true))])])) [(.asg (.nm 0 1) (.bin .add (.bor 0) (.lc [4] (.lam 91 15) (.nm 4 0) (.val (.tup [(.fn 27), (.fn 28), (.fn 29)])) [])))]), (.ite (.cmp .ne (.bor 0) (.bin .mul (.lst [(.con (.str (Str.ofString "sort")))]) (.con (.int 21)))) [(.ret (.con (.bl false)))] []), (.asg (.nm 0 1) (.lst [])), (.for_ (.nm 1 0) (.val (.tup [(.con .non), (.tup []), (.tup [(.con (.int 0)), (.con (.int 0))]), (.lst [(.con (.int 0))]), (.tup [(.con (.int 2))]), (.tup [(.con (.bl true))]), (.con (.int 0))])) [(.asg (.nm 0 1) (.bin .add (.bor 0) (.lc [4] (.lam 91 16) (.nm 4 0) (.val (.tup [(.fn 45), (.fn 46), (.fn 50), (.fn 51), (.fn 52)])) []))), (.asg (.nm 0 1) (.bin .add (.bor 0) (.lc [4] (.lam 91 17) (.nm 4 0) (.val (.tup [(.fn 47), (.fn 63), (.fn 64), (.fn 65)])) [])))]), (.ite (.cmp .ne (.bor 0) (.bin .mul (.lst [(.con (.str (Str.ofString "ways")))]) (.con (.int 63)))) [(.ret (.con (.bl false)))] []), (.asg (.nm 0 1) (.lc [1] (.lam 91 18) (.nm 1 0) (.val (.tup [(.con .non), (.con (.int (-1))), (.con (.int 1)), (.con (.bl false))])) [])), (.app 0 [] (.lam 91 19)), (.ret (.cmp .eq (.bor 0) (.bin .mul (.lst [(.con (.str (Str.ofString "cords")))]) (.con (.int 5)))))] } -- _law_numbers_right
def f95 : Fn := { nslots := 7, npar := 0, inout := [], body := [(.asgt [(.nm 4 0), (.nm 5 0)] [(.tup [(.tup [(.tup [(.con (.int 0)), (.con (.int 4)), (.con (.int 1)), (.con (.int 3))]), (.tup [(.con (.int 2)), (.con (.int 0)), (.con (.int 3)), (.con (.int 5))]), (.tup [(.con (.int 4)), (.con (.int 2)), (.con (.int 5)), (.con (.int 1))])]), (.con (.int 0))]), (.tup [(.tup [(.tup [(.con (.int 0)), (.con (.int 0)), (.con (.int 1)), (.con (.int 1))])]), (.con (.int 0))])]), (.asg (.nm 0 1) (.lc [1] (.lam 91 20) (.nm 1 0) (.val (.tup [(.con .non), (.con (.int (-1))), (.con (.int 6)), (.con (.bl true))])) [])), (.asg (.nm 0 1) (.bin .add (.bor 0) (.lc [1] (.lam 91 21) (.nm 1 0) (.val (.tup [(.con .non), (.con (.int (-1))), (.con (.int 2)), (.con (.bl false))])) []))), (.app 0 [] (.lam 91 22)), (.ite (.cmp .ne (.bor 0) (.bin .mul (.lst [(.con (.str (Str.ofString "edge")))]) (.con (.int 9)))) [(.ret (.con (.bl false)))] []), (.asg (.nm 0 1) (.lst [])), (.for_ (.nm 1 0) (.val (.tup [(.con .non), (.tup []), (.tup [(.con (.int 0)), (.con (.int 1))]), (.tup [(.con (.int 0)), (.con (.int 1)), (.con (.int 1))]), (.tup [(.con (.int 0)), (.con (.int 1)), (.con (.int 3))]), (.lst [(.con (.int 0)), (.con (.int 1)), (.con (.int 2))]), (.tup [(.con (.int 0)), (.con (.bl true)), (.con (.int 2))]), (.tup [(.con (.int 0)), (.con (.int 1)), (.con (.int 2)), (.con (.int 3))])])) [(.app 0 [] (.lam 91 23)), (.asg (.nm 0 1) (.bin .add (.bor 0) (.lc [6] (.lam 91 24) (.nm 6 0) (.val (.tup [(.fn 86), (.fn 87)])) []))), (.asg (.nm 0 1) (.bin .add (.bor 0) (.lc [6] (.lam 91 25) (.nm 6 0) (.val (.tup [(.fn 84), (.fn 85)])) [])))]), (.ite (.cmp .ne (.bor 0) (.bin .mul (.lst [(.con (.str (Str.ofString "row")))]) (.con (.int 40)))) [(.ret (.con (.bl false)))] []), (.asg (.nm 0 1) (.lst [])), (.for_ (.nm 1 0) (.val (.tup [(.con .non), (.tup []), (.tup [(.con (.int 0)), (.con (.int 1))]), (.tup [(.con (.int 3))]), (.lst [(.con (.int 0))]), (.tup [(.con (.bl true))]), (.tup [(.con (.int 1)), (.con (.int 0))]), (.con (.int 0))])) [(.asg (.nm 0 1) (.bin .add (.bor 0) (.lc [6] (.lam 91 26) (.nm 6 0) (.val (.tup [(.fn 86), (.fn 87)])) [])))]), (.ite (.cmp .ne (.bor 0) (.bin .mul (.lst [(.con (.str (Str.ofString "tree")))]) (.con (.int 16)))) [(.ret (.con (.bl false)))] []), (.asg (.nm 2 0) (.call 90 [(.bin .mul (.lst [(.con (.int 1))]) (.con (.int 7))), (.con (.int 2))])), (.asg (.nm 3 0) (.call 90 [(.bin .mul (.lst [(.con (.int 1))]) (.con (.int 6))), (.con (.int 2))])), (.asg (.nm 0 1) (.lst [(.lam 91 27)])), (.app 0 [] (.lam 91 28)), (.app 0 [] (.lam 91 29)), (.ret (.and (.cmp .eq (.bor 0) (.lst [(.con (.str (Str.ofString "many"))), (.con (.str (Str.ofString "many"))), (.con (.str (Str.ofString "")))])) (.cmp .eq (.lam 91 30) (.con (.str (Str.ofString "now"))))))] } -- _law_trees_right
def f96 : Fn := { nslots := 5, npar := 1, inout := [], body := [(.asg (.nm 1 1) (.call 88 [(.var 0)])), (.asg (.nm 2 0) (.lst [(.fn 93), (.fn 94), (.fn 95)])), (.asg (.nm 3 0) (.call 89 [(.loan 1), (.con (.int 3))])), (.ret (.cmp .eq (.lc [4] (.var 4) (.nm 4 0) (.val (.bin .add (.sl (.var 2) (some (.var 3)) none) (.sl (.var 2) none (some (.var 3))))) [(.not (.callv 4 []))]) (.lst [])))] } -- law
def lams : List E := [(.callv 3 [(.var 0)]),
  (.callv 3 [(.var 0), (.con .non)]),
  (.callv 3 [(.var 0), (.con .non)]),
  (.callv 3 [(.var 0), (.con .non), (.con .non)]),
  (.callv 3 [(.var 0), (.con .non), (.con .non), (.con .non)]),
  (.callv 3 [(.var 1), (.var 0)]),
  (.call 68 [(.var 1), (.con (.int 0)), (.var 0), (.con .non)]),
  (.call 26 [(.var 2), (.var 1), (.con .non)]),
  (.call 26 [(.var 3), (.con (.int 0)), (.con (.int 0))]),
  (.callv 4 [(.var 2), (.tup [(.con (.int 0))]), (.var 1)]),
  (.call 26 [(.var 2), (.con (.int 2)), (.var 1)]),
  (.call 36 [(.var 2), (.var 1)]),
  (.call 35 [(.var 1)]),
  (.callv 4 [(.var 2), (.var 1), (.con .non)]),
  (.callv 4 [(.var 2), (.var 1), (.con .non), (.con .non)]),
  (.callv 4 [(.var 2), (.var 1)]),
  (.callv 4 [(.var 2), (.var 1)]),
  (.callv 4 [(.var 2), (.var 1), (.con .non)]),
  (.call 47 [(.var 2), (.tup [(.con (.int 0))]), (.var 1)]),
  (.call 47 [(.var 3), (.tup []), (.con (.int 0))]),
  (.call 68 [(.var 4), (.var 1), (.con .non), (.con .non)]),
  (.call 68 [(.var 4), (.con (.int 5)), (.var 5), (.var 1)]),
  (.call 68 [(.tup [(.tup []), (.con (.int 1))]), (.con (.int 0)), (.var 5), (.con (.int 0))]),
  (.call 84 [(.var 4), (.con (.int 0)), (.var 1)]),
  (.callv 6 [(.var 4), (.con (.int 0)), (.var 1), (.con .non)]),
  (.callv 6 [(.tup [(.ix (.var 4) (.con (.int 0))), (.con (.int 1))]), (.con (.int 0)), (.var 1)]),
  (.callv 6 [(.var 4), (.con (.int 0)), (.tup [(.con (.int 0)), (.con (.int 1)), (.con (.int 2))]), (.var 1)]),
  (.call 68 [(.var 2), (.con (.int 0)), (.var 3), (.con (.int 0))]),
  (.call 68 [(.tup [(.ix (.var 5) (.con (.int 0))), (.con (.int 11))]), (.con (.int 0)), (.tup [(.ix (.var 5) (.con (.int 0))), (.con (.int 10))]), (.con (.int 0))]),
  (.call 68 [(.var 3), (.con (.int 11)), (.var 3), (.con (.int 11))]),
  (.call 86 [(.tup [(.ix (.var 4) (.con (.int 0))), (.con (.int 2))]), (.con (.int 0)), (.tup [(.con (.int 0)), (.con (.int 1)), (.con (.int 2))]), (.con .non)])]
def subs : List (Nat × Nat) := [(0, 0), (1, 1), (1, 0), (2, 2), (2, 0), (3, 3), (3, 0), (4, 4), (4, 0), (5, 5), (5, 0), (6, 6), (6, 0), (7, 7), (7, 0), (8, 8), (8, 0), (9, 9), (9, 0), (10, 10), (10, 0), (11, 11), (11, 0)]
def md : Mod := { fns := [f0, f1, f2, f3, f4, f5, f6, f7, f8, f9, f10, f11, f12, f13, f14, f15, f16, f17, f18, f19, f20, f21, f22, f23, f24, f25, f26, f27, f28, f29, f30, f31, f32, f33, f34, f35, f36, f37, f38, f39, f40, f41, f42, f43, f44, f45, f46, f47, f48, f49, f50, f51, f52, f53, f54, f55, f56, f57, f58, f59, f60, f61, f62, f63, f64, f65, f66, f67, f68, f69, f70, f71, f72, f73, f74, f75, f76, f77, f78, f79, f80, f81, f82, f83, f84, f85, f86, f87, f88, f89, f90, f91, f92, f93, f94, f95, f96], lams := lams, sub := fun a b => subs.contains (a, b), takers := [91], suite := (match f91.body with | .try_ _ _ _ h :: _ => h | _ => []), nsu := f91.nslots, cE := (match f91.body with | .try_ _ c _ _ :: _ => c | _ => 0), ncls := 12 }
def nm0 : List Str := [(Str.ofString "value"), (Str.ofString "low"), (Str.ofString "high")]
def nm1 : List Str := [(Str.ofString "value"), (Str.ofString "low"), (Str.ofString "high")]
def nm2 : List Str := [(Str.ofString "value"), (Str.ofString "low"), (Str.ofString "high")]
def nm3 : List Str := [(Str.ofString "values"), (Str.ofString "one"), (Str.ofString "other")]
def nm4 : List Str := [(Str.ofString "value"), (Str.ofString "many"), (Str.ofString "one")]
def nm5 : List Str := [(Str.ofString "value"), (Str.ofString "many"), (Str.ofString "low"), (Str.ofString "high"), (Str.ofString "one")]
def nm6 : List Str := [(Str.ofString "found"), (Str.ofString "power")]
def nm7 : List Str := [(Str.ofString "one"), (Str.ofString "other"), (Str.ofString "found"), (Str.ofString "power"), (Str.ofString "number")]
def nm8 : List Str := [(Str.ofString "one"), (Str.ofString "other"), (Str.ofString "found"), (Str.ofString "power"), (Str.ofString "number"), (Str.ofString "further"), (Str.ofString "times_of")]
def nm9 : List Str := [(Str.ofString "value"), (Str.ofString "edges"), (Str.ofString "edge")]
def nm10 : List Str := [(Str.ofString "crossings"), (Str.ofString "found"), (Str.ofString "at"), (Str.ofString "crossing"), (Str.ofString "edge"), (Str.ofString "corner")]
def nm11 : List Str := [(Str.ofString "ends"), (Str.ofString "crossings"), (Str.ofString "end"), (Str.ofString "pair")]
def nm12 : List Str := [(Str.ofString "crossings"), (Str.ofString "at"), (Str.ofString "ends"), (Str.ofString "seen"), (Str.ofString "found"), (Str.ofString "corner"), (Str.ofString "face"), (Str.ofString "here"), (Str.ofString "come")]
def nm13 : List Str := [(Str.ofString "crossings"), (Str.ofString "at"), (Str.ofString "ends"), (Str.ofString "found"), (Str.ofString "seen"), (Str.ofString "piece"), (Str.ofString "place"), (Str.ofString "corner"), (Str.ofString "other")]
def nm14 : List Str := [(Str.ofString "value"), (Str.ofString "crossings"), (Str.ofString "crossing"), (Str.ofString "pair")]
def nm15 : List Str := [(Str.ofString "ends"), (Str.ofString "crossings"), (Str.ofString "edge"), (Str.ofString "first"), (Str.ofString "found"), (Str.ofString "come"), (Str.ofString "here"), (Str.ofString "further")]
def nm16 : List Str := [(Str.ofString "crossings"), (Str.ofString "edge"), (Str.ofString "ends"), (Str.ofString "found"), (Str.ofString "seen"), (Str.ofString "both"), (Str.ofString "first"), (Str.ofString "one")]
def nm17 : List Str := [(Str.ofString "value")]
def nm18 : List Str := [(Str.ofString "picture"), (Str.ofString "value")]
def nm19 : List Str := [(Str.ofString "crossing"), (Str.ofString "bit"), (Str.ofString "a"), (Str.ofString "b"), (Str.ofString "c"), (Str.ofString "d")]
def nm20 : List Str := [(Str.ofString "labels"), (Str.ofString "pairs"), (Str.ofString "one"), (Str.ofString "other"), (Str.ofString "low"), (Str.ofString "high"), (Str.ofString "label")]
def nm21 : List Str := [(Str.ofString "picture"), (Str.ofString "index"), (Str.ofString "bit"), (Str.ofString "labels"), (Str.ofString "rest"), (Str.ofString "kept"), (Str.ofString "names"), (Str.ofString "found"), (Str.ofString "crossings"), (Str.ofString "rings"), (Str.ofString "at"), (Str.ofString "crossing"), (Str.ofString "edge"), (Str.ofString "name"), (Str.ofString "label")]
def nm22 : List Str := [(Str.ofString "picture"), (Str.ofString "smoothing"), (Str.ofString "labels"), (Str.ofString "crossing"), (Str.ofString "bit"), (Str.ofString "label"), (Str.ofString "edge"), (Str.ofString "own")]
def nm23 : List Str := [(Str.ofString "picture"), (Str.ofString "states"), (Str.ofString "crossing"), (Str.ofString "found"), (Str.ofString "longer"), (Str.ofString "labels"), (Str.ofString "power"), (Str.ofString "key"), (Str.ofString "bit")]
def nm24 : List Str := [(Str.ofString "picture"), (Str.ofString "smoothing"), (Str.ofString "circles"), (Str.ofString "found"), (Str.ofString "at"), (Str.ofString "crossing"), (Str.ofString "circle"), (Str.ofString "edge")]
def nm25 : List Str := [(Str.ofString "picture"), (Str.ofString "value"), (Str.ofString "many"), (Str.ofString "bit")]
def nm26 : List Str := [(Str.ofString "picture"), (Str.ofString "index"), (Str.ofString "bit")]
def nm27 : List Str := [(Str.ofString "picture"), (Str.ofString "smoothing")]
def nm28 : List Str := [(Str.ofString "picture"), (Str.ofString "smoothing")]
def nm29 : List Str := [(Str.ofString "picture"), (Str.ofString "smoothing")]
def nm30 : List Str := [(Str.ofString "picture"), (Str.ofString "found"), (Str.ofString "key")]
def nm31 : List Str := [(Str.ofString "many"), (Str.ofString "found"), (Str.ofString "turn")]
def nm32 : List Str := [(Str.ofString "picture"), (Str.ofString "found"), (Str.ofString "many"), (Str.ofString "power"), (Str.ofString "circles")]
def nm33 : List Str := [(Str.ofString "picture"), (Str.ofString "bit")]
def nm34 : List Str := [(Str.ofString "picture")]
def nm35 : List Str := [(Str.ofString "many")]
def nm36 : List Str := [(Str.ofString "picture"), (Str.ofString "bit"), (Str.ofString "power")]
def nm37 : List Str := [(Str.ofString "picture"), (Str.ofString "value"), (Str.ofString "many"), (Str.ofString "bit")]
def nm38 : List Str := [(Str.ofString "picture"), (Str.ofString "value")]
def nm39 : List Str := [(Str.ofString "picture"), (Str.ofString "ways"), (Str.ofString "ends"), (Str.ofString "crossings"), (Str.ofString "found"), (Str.ofString "at"), (Str.ofString "here"), (Str.ofString "turn"), (Str.ofString "cord"), (Str.ofString "bit")]
def nm40 : List Str := [(Str.ofString "crossings"), (Str.ofString "arrivals"), (Str.ofString "ends"), (Str.ofString "cord")]
def nm41 : List Str := [(Str.ofString "picture"), (Str.ofString "ways"), (Str.ofString "at"), (Str.ofString "arrivals"), (Str.ofString "found")]
def nm42 : List Str := [(Str.ofString "picture"), (Str.ofString "ways"), (Str.ofString "turn")]
def nm43 : List Str := [(Str.ofString "picture"), (Str.ofString "ways")]
def nm44 : List Str := [(Str.ofString "picture"), (Str.ofString "value")]
def nm45 : List Str := [(Str.ofString "picture"), (Str.ofString "ways")]
def nm46 : List Str := [(Str.ofString "picture"), (Str.ofString "ways")]
def nm47 : List Str := [(Str.ofString "picture"), (Str.ofString "ways"), (Str.ofString "cord"), (Str.ofString "arrivals"), (Str.ofString "found"), (Str.ofString "at"), (Str.ofString "sign"), (Str.ofString "own"), (Str.ofString "end")]
def nm48 : List Str := [(Str.ofString "picture"), (Str.ofString "ways"), (Str.ofString "half"), (Str.ofString "power"), (Str.ofString "number")]
def nm49 : List Str := [(Str.ofString "picture"), (Str.ofString "ways"), (Str.ofString "power"), (Str.ofString "number")]
def nm50 : List Str := [(Str.ofString "picture"), (Str.ofString "ways")]
def nm51 : List Str := [(Str.ofString "picture"), (Str.ofString "ways")]
def nm52 : List Str := [(Str.ofString "picture"), (Str.ofString "ways"), (Str.ofString "power"), (Str.ofString "number")]
def nm53 : List Str := [(Str.ofString "picture")]
def nm54 : List Str := [(Str.ofString "crossings"), (Str.ofString "one"), (Str.ofString "other")]
def nm55 : List Str := [(Str.ofString "crossings"), (Str.ofString "face"), (Str.ofString "places"), (Str.ofString "at"), (Str.ofString "corner")]
def nm56 : List Str := [(Str.ofString "picture"), (Str.ofString "found")]
def nm57 : List Str := [(Str.ofString "picture"), (Str.ofString "crossings"), (Str.ofString "rings")]
def nm58 : List Str := [(Str.ofString "picture")]
def nm59 : List Str := [(Str.ofString "picture"), (Str.ofString "many")]
def nm60 : List Str := [(Str.ofString "picture"), (Str.ofString "ways"), (Str.ofString "index"), (Str.ofString "bit"), (Str.ofString "found"), (Str.ofString "arrivals"), (Str.ofString "moved"), (Str.ofString "end"), (Str.ofString "at"), (Str.ofString "corner")]
def nm61 : List Str := [(Str.ofString "picture"), (Str.ofString "ways"), (Str.ofString "index"), (Str.ofString "crossings"), (Str.ofString "moved"), (Str.ofString "at"), (Str.ofString "corner")]
def nm62 : List Str := [(Str.ofString "picture"), (Str.ofString "ways"), (Str.ofString "index")]
def nm63 : List Str := [(Str.ofString "picture"), (Str.ofString "ways"), (Str.ofString "index")]
def nm64 : List Str := [(Str.ofString "picture"), (Str.ofString "ways"), (Str.ofString "index")]
def nm65 : List Str := [(Str.ofString "picture"), (Str.ofString "ways"), (Str.ofString "index"), (Str.ofString "rows"), (Str.ofString "opened"), (Str.ofString "own"), (Str.ofString "other")]
def nm66 : List Str := [(Str.ofString "picture"), (Str.ofString "value")]
def nm67 : List Str := [(Str.ofString "one"), (Str.ofString "other")]
def nm68 : List Str := [(Str.ofString "one"), (Str.ofString "edge"), (Str.ofString "other"), (Str.ofString "more"), (Str.ofString "many"), (Str.ofString "rows"), (Str.ofString "first"), (Str.ofString "second"), (Str.ofString "crossing"), (Str.ofString "own"), (Str.ofString "row")]
def nm69 : List Str := [(Str.ofString "one"), (Str.ofString "other")]
def nm70 : List Str := [(Str.ofString "one"), (Str.ofString "other")]
def nm71 : List Str := [(Str.ofString "one"), (Str.ofString "power"), (Str.ofString "number")]
def nm72 : List Str := [(Str.ofString "picture")]
def nm73 : List Str := [(Str.ofString "faces"), (Str.ofString "owner"), (Str.ofString "found"), (Str.ofString "turn"), (Str.ofString "face"), (Str.ofString "beside"), (Str.ofString "at"), (Str.ofString "end"), (Str.ofString "corner")]
def nm74 : List Str := [(Str.ofString "picture"), (Str.ofString "colour"), (Str.ofString "faces"), (Str.ofString "colours"), (Str.ofString "places"), (Str.ofString "owner"), (Str.ofString "roads"), (Str.ofString "at"), (Str.ofString "corner"), (Str.ofString "one"), (Str.ofString "other"), (Str.ofString "end")]
def nm75 : List Str := [(Str.ofString "web"), (Str.ofString "some"), (Str.ofString "at")]
def nm76 : List Str := [(Str.ofString "web"), (Str.ofString "found"), (Str.ofString "at"), (Str.ofString "longer"), (Str.ofString "some"), (Str.ofString "labels")]
def nm77 : List Str := [(Str.ofString "web"), (Str.ofString "some"), (Str.ofString "at"), (Str.ofString "labels")]
def nm78 : List Str := [(Str.ofString "web"), (Str.ofString "rank"), (Str.ofString "tree"), (Str.ofString "at"), (Str.ofString "ring"), (Str.ofString "rest"), (Str.ofString "own"), (Str.ofString "other")]
def nm79 : List Str := [(Str.ofString "web"), (Str.ofString "order"), (Str.ofString "tree"), (Str.ofString "rank"), (Str.ofString "power"), (Str.ofString "number"), (Str.ofString "at"), (Str.ofString "side"), (Str.ofString "one"), (Str.ofString "other"), (Str.ofString "kind"), (Str.ofString "place")]
def nm80 : List Str := [(Str.ofString "picture"), (Str.ofString "colour")]
def nm81 : List Str := [(Str.ofString "picture"), (Str.ofString "value"), (Str.ofString "many")]
def nm82 : List Str := [(Str.ofString "picture"), (Str.ofString "colour"), (Str.ofString "order")]
def nm83 : List Str := [(Str.ofString "web"), (Str.ofString "value")]
def nm84 : List Str := [(Str.ofString "picture"), (Str.ofString "colour"), (Str.ofString "order"), (Str.ofString "tree"), (Str.ofString "web"), (Str.ofString "found")]
def nm85 : List Str := [(Str.ofString "picture"), (Str.ofString "colour"), (Str.ofString "order"), (Str.ofString "web"), (Str.ofString "tree")]
def nm86 : List Str := [(Str.ofString "picture"), (Str.ofString "colour"), (Str.ofString "order"), (Str.ofString "tree"), (Str.ofString "web")]
def nm87 : List Str := [(Str.ofString "picture"), (Str.ofString "colour"), (Str.ofString "order"), (Str.ofString "tree"), (Str.ofString "web"), (Str.ofString "rank"), (Str.ofString "at"), (Str.ofString "place")]
def nm88 : List Str := [(Str.ofString "script"), (Str.ofString "cell")]
def nm89 : List Str := [(Str.ofString "cup"), (Str.ofString "many"), (Str.ofString "deep"), (Str.ofString "found")]
def nm90 : List Str := [(Str.ofString "letters"), (Str.ofString "strands"), (Str.ofString "names"), (Str.ofString "place"), (Str.ofString "rows"), (Str.ofString "crossing"), (Str.ofString "here"), (Str.ofString "crossings"), (Str.ofString "first"), (Str.ofString "index"), (Str.ofString "letter"), (Str.ofString "at"), (Str.ofString "low"), (Str.ofString "right"), (Str.ofString "left"), (Str.ofString "high"), (Str.ofString "edge")]
def nm91 : List Str := [(Str.ofString "call"), (Str.ofString "e"), (Str.ofString "rows"), (Str.ofString "word"), (Str.ofString "fits")]
def nm92 : List Str := [(Str.ofString "some"), (Str.ofString "c"), (Str.ofString "thirteen")]
def nm93 : List Str := [(Str.ofString "odd"), (Str.ofString "c"), (Str.ofString "words"), (Str.ofString "call")]
def nm94 : List Str := [(Str.ofString "words"), (Str.ofString "odd"), (Str.ofString "t"), (Str.ofString "ring"), (Str.ofString "call")]
def nm95 : List Str := [(Str.ofString "words"), (Str.ofString "odd"), (Str.ofString "seven"), (Str.ofString "six"), (Str.ofString "t"), (Str.ofString "c"), (Str.ofString "call")]
def nm96 : List Str := [(Str.ofString "script"), (Str.ofString "cup"), (Str.ofString "parts"), (Str.ofString "first"), (Str.ofString "part")]
def gs : Gs := { fnames := [(Str.ofString "is_whole"), (Str.ofString "need_whole"), (Str.ofString "is_tuple_of"), (Str.ofString "is_ascending"), (Str.ofString "is_set_below"), (Str.ofString "are_wholes"), (Str.ofString "from_dict"), (Str.ofString "plus"), (Str.ofString "times"), (Str.ofString "is_crossing_of"), (Str.ofString "ends_of"), (Str.ofString "other_end"), (Str.ofString "face_list"), (Str.ofString "piece_list"), (Str.ofString "is_picture"), (Str.ofString "cord_from"), (Str.ofString "cord_list"), (Str.ofString "need_few"), (Str.ofString "need_index"), (Str.ofString "pairs_by"), (Str.ofString "joined_labels"), (Str.ofString "opened_in"), (Str.ofString "circles_in"), (Str.ofString "counts_in"), (Str.ofString "met_in"), (Str.ofString "need_smoothing"), (Str.ofString "opened"), (Str.ofString "circles_of"), (Str.ofString "power_of"), (Str.ofString "met_at"), (Str.ofString "circle_counts"), (Str.ofString "loose_in"), (Str.ofString "bracket_in"), (Str.ofString "side_in"), (Str.ofString "bracket_sum"), (Str.ofString "loose_power"), (Str.ofString "lead_power"), (Str.ofString "fits_ways"), (Str.ofString "need_ways"), (Str.ofString "arrivals_by"), (Str.ofString "ways_by"), (Str.ofString "signs_by"), (Str.ofString "factor_by"), (Str.ofString "turned_in"), (Str.ofString "are_ways"), (Str.ofString "turn_factor"), (Str.ofString "turned_sum"), (Str.ofString "cord_turn"), (Str.ofString "quarter_in"), (Str.ofString "plain_in"), (Str.ofString "quarter_sum"), (Str.ofString "plain_number"), (Str.ofString "one_value"), (Str.ofString "size_number"), (Str.ofString "is_by_turns"), (Str.ofString "has_cut"), (Str.ofString "spread_of"), (Str.ofString "is_least_kind"), (Str.ofString "side_circles"), (Str.ofString "met_sides"), (Str.ofString "opened_along"), (Str.ofString "changed_along"), (Str.ofString "need_all"), (Str.ofString "opened_by"), (Str.ofString "changed_by"), (Str.ofString "three_sums"), (Str.ofString "need_edge"), (Str.ofString "need_both"), (Str.ofString "tied"), (Str.ofString "tied_sum"), (Str.ofString "beside_sum"), (Str.ofString "mirror_sum"), (Str.ofString "need_one_piece"), (Str.ofString "colours_in"), (Str.ofString "web_in"), (Str.ofString "labels_by"), (Str.ofString "trees_in"), (Str.ofString "is_apart"), (Str.ofString "is_alive"), (Str.ofString "weight_in"), (Str.ofString "need_colour"), (Str.ofString "need_order"), (Str.ofString "need_web"), (Str.ofString "need_tree"), (Str.ofString "tree_sum"), (Str.ofString "weights_of"), (Str.ofString "weight_of"), (Str.ofString "alive_in"), (Str.ofString "_law_cup"), (Str.ofString "_law_roll"), (Str.ofString "_law_braid"), (Str.ofString "_law_error"), (Str.ofString "_law_odd_pictures"), (Str.ofString "_law_pictures_right"), (Str.ofString "_law_numbers_right"), (Str.ofString "_law_trees_right"), (Str.ofString "law")], cnames := [(Str.ofString "CordError"), (Str.ofString "InvalidNumber"), (Str.ofString "InvalidSort"), (Str.ofString "InvalidPicture"), (Str.ofString "InvalidCrossing"), (Str.ofString "InvalidEdge"), (Str.ofString "InvalidWays"), (Str.ofString "InvalidCords"), (Str.ofString "InvalidRow"), (Str.ofString "InvalidTree"), (Str.ofString "NotNow"), (Str.ofString "TooMany")], consts := [((Str.ofString "CROSSINGS_pictures"), .int 40), ((Str.ofString "RINGS"), .int 20), ((Str.ofString "CROSSINGS_smoothings"), .int 12), ((Str.ofString "MANY"), .int 40)], blts := [(Str.ofString "ValueError"), (Str.ofString "abs"), (Str.ofString "all"), (Str.ofString "any"), (Str.ofString "bool"), (Str.ofString "dict"), (Str.ofString "enumerate"), (Str.ofString "int"), (Str.ofString "isinstance"), (Str.ofString "len"), (Str.ofString "list"), (Str.ofString "max"), (Str.ofString "min"), (Str.ofString "range"), (Str.ofString "set"), (Str.ofString "sorted"), (Str.ofString "sum"), (Str.ofString "super"), (Str.ofString "tuple"), (Str.ofString "zip")], simple := [0, 1, 2, 3, 4, 5, 6, 7, 8, 9, 10], subs := subs, lims := [11] }
def nms : List (List Str) := [nm0, nm1, nm2, nm3, nm4, nm5, nm6, nm7, nm8, nm9, nm10, nm11, nm12, nm13, nm14, nm15, nm16, nm17, nm18, nm19, nm20, nm21, nm22, nm23, nm24, nm25, nm26, nm27, nm28, nm29, nm30, nm31, nm32, nm33, nm34, nm35, nm36, nm37, nm38, nm39, nm40, nm41, nm42, nm43, nm44, nm45, nm46, nm47, nm48, nm49, nm50, nm51, nm52, nm53, nm54, nm55, nm56, nm57, nm58, nm59, nm60, nm61, nm62, nm63, nm64, nm65, nm66, nm67, nm68, nm69, nm70, nm71, nm72, nm73, nm74, nm75, nm76, nm77, nm78, nm79, nm80, nm81, nm82, nm83, nm84, nm85, nm86, nm87, nm88, nm89, nm90, nm91, nm92, nm93, nm94, nm95, nm96]
def poss : List Nat := [14, 15, 16, 17, 18, 19, 21, 22, 23, 27, 28, 29, 30, 31, 32, 33, 34, 37, 38, 39, 40, 41, 42, 43, 44, 45, 46, 47, 48, 49, 50, 54, 55, 56, 57, 58, 59, 61, 62, 63, 64, 65, 66, 67, 68, 69, 70, 71, 73, 74, 75, 76, 77, 78, 80, 81, 82, 83, 84, 85, 87, 88, 89, 90, 91, 92, 94, 95, 96, 97, 98, 99, 101, 102, 103, 104, 105, 106, 107, 108, 109, 110, 111, 112, 113, 114, 115, 116, 118, 119, 120, 121, 122, 123, 124, 125, 126]
def lawI : Nat := 96
def tops : List Stmt := poss.map fun i => PySem.Challenge.pw_cordscrossed_k38_errors_of_smoothings.main.body.getD i (.Pass ⟨0, 0, 0, 0⟩)
def pk : Pk := { md := md, gs := gs, nms := nms, tops := tops, lamd := [93, 94, 95] }
end Eng
end

section
set_option Elab.async false
set_option linter.all false
set_option maxRecDepth 100000
set_option maxHeartbeats 0
namespace Eng
open PySem PySem.Spec PyProof.Rows
/-! ### the head: what the module's top leaves -/
abbrev Rk : PySem.W.OpenRow := PySem.W.OpenLaw.row PySem.Challenge.rw_cordscrossed_k38_errors_of_smoothings
def xsK : List Str := pk.gs.lims.map pk.cname
abbrev hkK : PySem.W.Hook := hookY xsK pk.fa pk.fn pk.tf (pk.ex Rk.prog)
def obK (s : PySem.W.SharedT) : He.AlX := seenY xsK pk.fa pk.fn pk.tf (pk.ex Rk.prog) (HandSHeadRun.getT s)
theorem obK_eq (s : PySem.W.SharedT) : obK s = hkK.obs s.abs := seenY_eq (HandSHeadRun.getT_eq s)
def loose0 : List PySem.Str := [(Str.ofString "CordError"), (Str.ofString "InvalidNumber"), (Str.ofString "InvalidSort"), (Str.ofString "InvalidPicture"), (Str.ofString "InvalidCrossing"), (Str.ofString "InvalidEdge"), (Str.ofString "InvalidWays"), (Str.ofString "InvalidCords"), (Str.ofString "InvalidRow"), (Str.ofString "InvalidTree"), (Str.ofString "NotNow"), (Str.ofString "TooMany"), (Str.ofString "is_whole"), (Str.ofString "need_whole"), (Str.ofString "is_tuple_of"), (Str.ofString "is_ascending"), (Str.ofString "is_set_below"), (Str.ofString "are_wholes"), (Str.ofString "from_dict"), (Str.ofString "plus"), (Str.ofString "times"), (Str.ofString "CROSSINGS_pictures"), (Str.ofString "RINGS"), (Str.ofString "is_crossing_of"), (Str.ofString "ends_of"), (Str.ofString "other_end"), (Str.ofString "face_list"), (Str.ofString "piece_list"), (Str.ofString "is_picture"), (Str.ofString "cord_from"), (Str.ofString "cord_list"), (Str.ofString "CROSSINGS_smoothings"), (Str.ofString "need_few"), (Str.ofString "need_index"), (Str.ofString "pairs_by"), (Str.ofString "joined_labels"), (Str.ofString "opened_in"), (Str.ofString "circles_in"), (Str.ofString "counts_in"), (Str.ofString "met_in")]
def loose1 : List PySem.Str := [(Str.ofString "need_smoothing"), (Str.ofString "opened"), (Str.ofString "circles_of"), (Str.ofString "power_of"), (Str.ofString "met_at"), (Str.ofString "circle_counts"), (Str.ofString "LOOSE"), (Str.ofString "MANY"), (Str.ofString "loose_in"), (Str.ofString "bracket_in"), (Str.ofString "side_in"), (Str.ofString "bracket_sum"), (Str.ofString "loose_power"), (Str.ofString "lead_power"), (Str.ofString "fits_ways"), (Str.ofString "need_ways"), (Str.ofString "arrivals_by"), (Str.ofString "ways_by"), (Str.ofString "signs_by"), (Str.ofString "factor_by"), (Str.ofString "turned_in"), (Str.ofString "are_ways"), (Str.ofString "turn_factor"), (Str.ofString "turned_sum"), (Str.ofString "cord_turn"), (Str.ofString "quarter_in"), (Str.ofString "plain_in"), (Str.ofString "quarter_sum"), (Str.ofString "plain_number"), (Str.ofString "one_value"), (Str.ofString "size_number"), (Str.ofString "is_by_turns"), (Str.ofString "has_cut"), (Str.ofString "spread_of"), (Str.ofString "is_least_kind"), (Str.ofString "side_circles"), (Str.ofString "met_sides"), (Str.ofString "opened_along"), (Str.ofString "changed_along"), (Str.ofString "need_all")]
def loose2 : List PySem.Str := [(Str.ofString "opened_by"), (Str.ofString "changed_by"), (Str.ofString "three_sums"), (Str.ofString "need_edge"), (Str.ofString "need_both"), (Str.ofString "tied"), (Str.ofString "tied_sum"), (Str.ofString "beside_sum"), (Str.ofString "mirror_sum"), (Str.ofString "need_one_piece"), (Str.ofString "colours_in"), (Str.ofString "web_in"), (Str.ofString "labels_by"), (Str.ofString "trees_in"), (Str.ofString "is_apart"), (Str.ofString "is_alive"), (Str.ofString "weight_in"), (Str.ofString "need_colour"), (Str.ofString "need_order"), (Str.ofString "need_web"), (Str.ofString "need_tree"), (Str.ofString "tree_sum"), (Str.ofString "weights_of"), (Str.ofString "weight_of"), (Str.ofString "alive_in"), (Str.ofString "_law_cup"), (Str.ofString "_law_roll"), (Str.ofString "_law_braid"), (Str.ofString "_law_error"), (Str.ofString "_law_odd_pictures"), (Str.ofString "_law_pictures_right"), (Str.ofString "_law_numbers_right"), (Str.ofString "_law_trees_right")]
def loose : List PySem.Str := loose0 ++ loose1 ++ loose2
theorem run_ok (w : World) : HandSHeadRun.RunEq Rk (PySem.W.view Rk.prog [126]) hkK obK 40000 loose w := by
  intro os
  kernel_rfl
end Eng
end

section
set_option linter.all false
set_option maxRecDepth 100000
namespace Eng
open PySem PySem.Spec
open L2 (V HO Hp St VK TE TS TA TT WX XK SqL SqT Rd upd Key kV Mut RelV Vals)

/-- what values lean on -/
structure Par where
  K : PySem.W.Frag
  fa : Nat → Addr
  ca : Nat → Addr
  C : Addr → Nat → Env → Prop
  X : Addr → Nat → Option D → Prop
  XH : List (Addr × HO)
  xh : ∀ q ∈ XH, ¬ Mut (some q.2) ∧ ∀ ps, q.2 ≠ .tbl ps

def keyD : Key → D
  | .inl i => .int i
  | .inr s => .str s
/-- the tracked dict u has the keys ks and the values vs -/
def DicU (ks : List D) (vs : List V) (u : HO) : Prop :=
  ks.Nodup ∧ ((∃ kvs : List (Key × V), u = .dK kvs ∧ ks = kvs.map (fun p => keyD p.1) ∧ vs = kvs.map (·.2)) ∨
  ∃ kvs : List (List Key × V), u = .dT kvs ∧ ks = kvs.map (fun p => .tup (p.1.map keyD)) ∧ vs = kvs.map (·.2) ∧ kvs ≠ [])

mutual
def Rep (p : Par) (H : Hp) : D → V → Prop
  | .non, v => v = .non
  | .bl b, v => v = .bl b
  | .int i, v => v = .int i
  | .str s, v => v = .str s
  | .tup l, v => ∃ a vs, v = .ref a ∧ H a = some (.tup vs) ∧ RepL p H l vs
  | .lst l, v => ∃ a vs o, v = .ref a ∧ H a = some (.frz o (.lst vs)) ∧ RepL p H l vs
  | .dic ks ds, v => ∃ a vs o u, v = .ref a ∧ H a = some (.frz o u) ∧ DicU ks vs u ∧ RepL p H ds vs
  | .set _, _ => False
  | .fn k, v => v = .ref (p.fa k)
  | .clo k env, v => ∃ a, v = .ref a ∧ p.C a k env
  | .exc c x, v => ∃ a, v = .ref a ∧ p.X a c x ∧ ∀ q ∈ p.XH, H q.1 = some q.2
def RepL (p : Par) (H : Hp) : List D → List V → Prop
  | [], vs => vs = []
  | d :: ds, vs => ∃ v r, vs = v :: r ∧ Rep p H d v ∧ RepL p H ds r
end
mutual
/-- owned n levels: the objects F -/
def Own (p : Par) (H : Hp) : Nat → D → V → List Addr → Prop
  | n, .lst l, v, F => (n = 0 ∧ Rep p H (.lst l) v ∧ F = []) ∨ ∃ m a vs G, n = m + 1 ∧ n < 9 ∧ v = .ref a ∧ H a = some (.lst vs) ∧ OwnL p H m l vs G ∧ F = a :: G
  | n, .dic ks ds, v, F => (n = 0 ∧ Rep p H (.dic ks ds) v ∧ F = []) ∨ ∃ m a vs u G, n = m + 1 ∧ n < 9 ∧ v = .ref a ∧ H a = some u ∧ DicU ks vs u ∧ OwnL p H m ds vs G ∧ F = a :: G
  | n, .tup l, v, F => Rep p H (.tup l) v ∧ F = [] ∧ (n = 9 → D.noMutL l = true)
  | n, d, v, F => Rep p H d v ∧ F = [] ∧ (n = 9 → d.noMut = true)
def OwnL (p : Par) (H : Hp) : Nat → List D → List V → List Addr → Prop
  | _, [], vs, F => vs = [] ∧ F = []
  | n, d :: ds, vs, F => ∃ v r G1 G2, vs = v :: r ∧ Own p H n d v G1 ∧ OwnL p H n ds r G2 ∧ F = G1 ++ G2
end

theorem Own.flag {p : Par} {H : Hp} {n : Nat} {v : V} {F : List Addr} : ∀ {d : D}, Own p H n d v F → n = 9 → d.noMut = true
  | .lst _, h, e => by
    rcases h with ⟨h, _⟩ | ⟨m, _, _, _, _, h, _⟩
    · omega
    · omega
  | .dic _ _, h, e => by
    rcases h with ⟨h, _⟩ | ⟨m, _, _, _, _, _, h, _⟩
    · omega
    · omega
  | .tup _, h, e => h.2.2 e
  | .non, h, e => h.2.2 e
  | .bl _, h, e => h.2.2 e
  | .int _, h, e => h.2.2 e
  | .str _, h, e => h.2.2 e
  | .set _, h, e => h.2.2 e
  | .fn _, h, e => h.2.2 e
  | .clo _ _, h, e => h.2.2 e
  | .exc _ _, h, e => h.2.2 e
/-- what has no mutable part stands for itself, whatever the flag -/
theorem Own.rep {p : Par} {H : Hp} {n : Nat} {v : V} {F : List Addr} : ∀ {d : D}, Own p H n d v F → (n = 0 ∨ n = 9) → Rep p H d v ∧ F = []
  | .lst _, h, e => by
    rcases h with ⟨h, r, f⟩ | ⟨m, _, _, _, _, h, _⟩
    · exact ⟨r, f⟩
    · omega
  | .dic _ _, h, e => by
    rcases h with ⟨h, r, f⟩ | ⟨m, _, _, _, _, _, h, _⟩
    · exact ⟨r, f⟩
    · omega
  | .tup _, h, e => ⟨h.1, h.2.1⟩
  | .non, h, e => ⟨h.1, h.2.1⟩
  | .bl _, h, e => ⟨h.1, h.2.1⟩
  | .int _, h, e => ⟨h.1, h.2.1⟩
  | .str _, h, e => ⟨h.1, h.2.1⟩
  | .set _, h, e => ⟨h.1, h.2.1⟩
  | .fn _, h, e => ⟨h.1, h.2.1⟩
  | .clo _ _, h, e => ⟨h.1, h.2.1⟩
  | .exc _ _, h, e => ⟨h.1, h.2.1⟩
theorem Own.of {p : Par} {H : Hp} {n : Nat} {v : V} : ∀ {d : D}, Rep p H d v → (n = 0 ∨ (n = 9 ∧ d.noMut = true)) → Own p H n d v []
  | .lst _, r, e => by
    rcases e with e | ⟨_, e⟩
    · exact .inl ⟨e, r, rfl⟩
    · cases e
  | .dic _ _, r, e => by
    rcases e with e | ⟨_, e⟩
    · exact .inl ⟨e, r, rfl⟩
    · cases e
  | .tup _, r, e => ⟨r, rfl, fun z => by rcases e with e | ⟨_, e⟩; omega; exact e⟩
  | .non, r, e => ⟨r, rfl, fun _ => rfl⟩
  | .bl _, r, e => ⟨r, rfl, fun _ => rfl⟩
  | .int _, r, e => ⟨r, rfl, fun _ => rfl⟩
  | .str _, r, e => ⟨r, rfl, fun _ => rfl⟩
  | .set _, r, e => ⟨r, rfl, fun z => by rcases e with e | ⟨_, e⟩; omega; exact e⟩
  | .fn _, r, e => ⟨r, rfl, fun _ => rfl⟩
  | .clo _ _, r, e => ⟨r, rfl, fun z => by rcases e with e | ⟨_, e⟩; omega; exact e⟩
  | .exc _ _, r, e => ⟨r, rfl, fun _ => rfl⟩

/-! ### what stays -/
theorem SqT.ofKeep {K : PySem.W.Frag} {H H' : Hp} {a : Addr} {vs : List V} (h : SqT K H a vs) (k : ∀ b o, H b = some o → ¬ Mut (some o) → (∀ ps, o ≠ .tbl ps) → H' b = some o) : SqT K H' a vs := by
  rcases h with h | h
  · rcases h with h | ⟨o, h⟩
    · exact .inl (.inl (k _ _ h (fun z => z) (fun _ z => by cases z)))
    · exact .inl (.inr ⟨o, k _ _ h (fun z => z) (fun _ z => by cases z)⟩)
  · exact .inr h
section
variable {p : Par} {H H' : Hp}
mutual
theorem Rep.keep (k : ∀ b o, H b = some o → ¬ Mut (some o) → (∀ ps, o ≠ .tbl ps) → H' b = some o) : ∀ {d : D} {v : V}, Rep p H d v → Rep p H' d v
  | .non, _, h => h
  | .bl _, _, h => h
  | .int _, _, h => h
  | .str _, _, h => h
  | .tup l, _, ⟨a, vs, e, q, r⟩ => ⟨a, vs, e, k _ _ q (fun z => z) (fun _ z => by cases z), RepL.keep k r⟩
  | .lst l, _, ⟨a, vs, o, e, q, r⟩ => ⟨a, vs, o, e, k _ _ q (fun z => z) (fun _ z => by cases z), RepL.keep k r⟩
  | .dic _ _, _, ⟨a, vs, o, u, e, q, m, r⟩ => ⟨a, vs, o, u, e, k _ _ q (fun z => z) (fun _ z => by cases z), m, RepL.keep k r⟩
  | .set _, _, h => h
  | .fn _, _, h => h
  | .clo _ _, _, h => h
  | .exc _ _, _, ⟨a, e, x, q⟩ => ⟨a, e, x, fun y hy => k _ _ (q y hy) (p.xh y hy).1 (p.xh y hy).2⟩
theorem RepL.keep (k : ∀ b o, H b = some o → ¬ Mut (some o) → (∀ ps, o ≠ .tbl ps) → H' b = some o) : ∀ {l : List D} {vs : List V}, RepL p H l vs → RepL p H' l vs
  | [], _, h => h
  | _ :: _, _, ⟨v, r, e, h, t⟩ => ⟨v, r, e, Rep.keep k h, RepL.keep k t⟩
end
mutual
theorem Own.keep (k : ∀ b o, H b = some o → ¬ Mut (some o) → (∀ ps, o ≠ .tbl ps) → H' b = some o) : ∀ {d : D} {n : Nat} {v : V} {F : List Addr}, (∀ b ∈ F, H' b = H b) → Own p H n d v F → Own p H' n d v F
  | .lst l, n, v, F, f, h => by
    rcases h with ⟨e, r, z⟩ | ⟨m, a, vs, G, e, e2, e3, q, r, z⟩
    · exact .inl ⟨e, Rep.keep k r, z⟩
    · subst z
      exact .inr ⟨m, a, vs, G, e, e2, e3, (f a List.mem_cons_self).trans q, OwnL.keep k (fun b hb => f b (List.mem_cons_of_mem _ hb)) r, rfl⟩
  | .dic _ l, n, v, F, f, h => by
    rcases h with ⟨e, r, z⟩ | ⟨m, a, vs, u, G, e, e2, e3, q, c, r, z⟩
    · exact .inl ⟨e, Rep.keep k r, z⟩
    · subst z
      exact .inr ⟨m, a, vs, u, G, e, e2, e3, (f a List.mem_cons_self).trans q, c, OwnL.keep k (fun b hb => f b (List.mem_cons_of_mem _ hb)) r, rfl⟩
  | .tup _, _, _, _, _, ⟨r, e⟩ => ⟨Rep.keep k r, e⟩
  | .non, _, _, _, _, ⟨r, e⟩ => ⟨Rep.keep k r, e⟩
  | .bl _, _, _, _, _, ⟨r, e⟩ => ⟨Rep.keep k r, e⟩
  | .int _, _, _, _, _, ⟨r, e⟩ => ⟨Rep.keep k r, e⟩
  | .str _, _, _, _, _, ⟨r, e⟩ => ⟨Rep.keep k r, e⟩
  | .set _, _, _, _, _, ⟨r, e⟩ => ⟨Rep.keep k r, e⟩
  | .fn _, _, _, _, _, ⟨r, e⟩ => ⟨Rep.keep k r, e⟩
  | .clo _ _, _, _, _, _, ⟨r, e⟩ => ⟨Rep.keep k r, e⟩
  | .exc _ _, _, _, _, _, ⟨r, e⟩ => ⟨Rep.keep k r, e⟩
theorem OwnL.keep (k : ∀ b o, H b = some o → ¬ Mut (some o) → (∀ ps, o ≠ .tbl ps) → H' b = some o) : ∀ {l : List D} {n : Nat} {vs : List V} {F : List Addr}, (∀ b ∈ F, H' b = H b) → OwnL p H n l vs F → OwnL p H' n l vs F
  | [], _, _, _, _, h => h
  | _ :: _, _, _, F, f, ⟨v, r, G1, G2, e, h, t, z⟩ => by
    subst z
    exact ⟨v, r, G1, G2, e, Own.keep k (fun b hb => f b (List.mem_append_left _ hb)) h, OwnL.keep k (fun b hb => f b (List.mem_append_right _ hb)) t, rfl⟩
end
end
/-- owned objects are mutable ones -/
theorem DicU.mut {ks : List D} {vs : List V} {u : HO} (h : DicU ks vs u) : Mut (some u) := by
  rcases h.2 with ⟨_, e, _⟩ | ⟨_, e, _⟩ <;> subst e <;> trivial
mutual
theorem Own.mut {p : Par} {H : Hp} : ∀ {d : D} {n : Nat} {v : V} {F : List Addr}, Own p H n d v F → ∀ b ∈ F, Mut (H b)
  | .lst l, n, v, F, h, b, hb => by
    rcases h with ⟨e, r, z⟩ | ⟨m, a, vs, G, e, e2, e3, q, r, z⟩
    · subst z; cases hb
    · subst z
      rcases List.mem_cons.mp hb with rfl | hb
      · rw [q]; trivial
      · exact OwnL.mut r b hb
  | .dic _ l, n, v, F, h, b, hb => by
    rcases h with ⟨e, r, z⟩ | ⟨m, a, vs, u, G, e, e2, e3, q, c, r, z⟩
    · subst z; cases hb
    · subst z
      rcases List.mem_cons.mp hb with rfl | hb
      · rw [q]; exact c.mut
      · exact OwnL.mut r b hb
  | .tup _, _, _, _, h, b, hb => by rw [h.2.1] at hb; cases hb
  | .non, _, _, _, h, b, hb => by rw [h.2.1] at hb; cases hb
  | .bl _, _, _, _, h, b, hb => by rw [h.2.1] at hb; cases hb
  | .int _, _, _, _, h, b, hb => by rw [h.2.1] at hb; cases hb
  | .str _, _, _, _, h, b, hb => by rw [h.2.1] at hb; cases hb
  | .set _, _, _, _, h, b, hb => by rw [h.2.1] at hb; cases hb
  | .fn _, _, _, _, h, b, hb => by rw [h.2.1] at hb; cases hb
  | .clo _ _, _, _, _, h, b, hb => by rw [h.2.1] at hb; cases hb
  | .exc _ _, _, _, _, h, b, hb => by rw [h.2.1] at hb; cases hb
theorem OwnL.mut {p : Par} {H : Hp} : ∀ {l : List D} {n : Nat} {vs : List V} {F : List Addr}, OwnL p H n l vs F → ∀ b ∈ F, Mut (H b)
  | [], _, _, _, h, b, hb => by rw [h.2] at hb; cases hb
  | _ :: _, _, _, F, ⟨v, r, G1, G2, e, h, t, z⟩, b, hb => by
    subst z
    rcases List.mem_append.mp hb with hb | hb
    · exact Own.mut h b hb
    · exact OwnL.mut t b hb
end
end Eng
end

section
set_option linter.all false
set_option maxRecDepth 100000
namespace Eng
open PySem PySem.Spec
open L2 (V HO Hp St VK TE TS TA TT WX XK SqL SqT Rd upd upd_same upd_ne ne_of_none Key kV Mut RelV Vals Inv Cx PE PS)

/-! ### freezing -/
def frzL (ob : Addr → Obj) (L : List Addr) (H : Hp) : Hp := fun b => if b ∈ L then (H b).map (HO.frz (ob b)) else H b
theorem frzL_in {ob : Addr → Obj} {L : List Addr} {H : Hp} {b : Addr} (h : b ∈ L) : frzL ob L H b = (H b).map (HO.frz (ob b)) := if_pos h
theorem frzL_out {ob : Addr → Obj} {L : List Addr} {H : Hp} {b : Addr} (h : b ∉ L) : frzL ob L H b = H b := if_neg h
theorem inv_lockL {X : Cx} {pins : List (Addr × Obj)} {σ : St} {s : Shared} : ∀ (L : List Addr) {H : Hp}, Inv X pins σ H s → L.Nodup → (∀ b ∈ L, ∃ u, H b = some u ∧ Mut (some u)) → ∃ ob, Inv X pins σ (frzL ob L H) s
  | [], H, I, _, _ => ⟨fun _ => default, by
    have e : frzL (fun _ => default) [] H = H := by funext b; exact frzL_out (by simp)
    rw [e]; exact I⟩
  | a :: L, H, I, nd, m => by
    obtain ⟨ob, I1⟩ := inv_lockL L I (List.nodup_cons.mp nd).2 fun b hb => m b (List.mem_cons_of_mem _ hb)
    obtain ⟨u, e, mu⟩ := m a List.mem_cons_self
    have na := (List.nodup_cons.mp nd).1
    have e1 : frzL ob L H a = some u := (frzL_out na).trans e
    obtain ⟨od, I2⟩ := I1.lock e1 mu
    refine ⟨fun b => if b = a then od else ob b, ?_⟩
    have e2 : frzL (fun b => if b = a then od else ob b) (a :: L) H = upd (frzL ob L H) a (.frz od u) := by
      funext b
      by_cases hb : b = a
      · subst hb
        rw [upd_same, frzL_in List.mem_cons_self, e]
        simp
      · rw [upd_ne hb]
        by_cases hL : b ∈ L
        · rw [frzL_in (List.mem_cons_of_mem _ hL), frzL_in hL, if_neg hb]
        · rw [frzL_out (by simp [hb, hL]), frzL_out hL]
    rw [e2]
    exact I2
/-- a rule's end may freeze what is the code's own -/
def tLk (t : TE) : TE := fun σ H Q => t σ H fun v H1 => ∃ L : List Addr, L.Nodup ∧ (∀ b ∈ L, ∃ u, H1 b = some u ∧ Mut (some u)) ∧ ∀ ob, Q v (frzL ob L H1)
theorem pe_lk {X : Cx} {e : Expr} {t : TE} (h : PE X e t) : PE X e (tLk t) := ⟨fun pins s σ H Q I hw => L2.thn (h.run pins s σ H _ I hw) fun u s1 ⟨v, H1, I1, r1, L, nd, m, q⟩ => by
  obtain ⟨ob, I2⟩ := inv_lockL L I1 nd m
  exact ⟨v, _, I2, r1, q ob⟩⟩
theorem pe_mono {X : Cx} {e : Expr} {t t' : TE} (h : PE X e t) (i : ∀ σ H Q, t' σ H Q → t σ H Q) : PE X e t' := ⟨fun pins s σ H Q I hw => h.run pins s σ H Q I (i σ H Q hw)⟩
theorem ps_mono {X : Cx} {e : Stmt} {t t' : TS} (h : PS X e t) (i : ∀ D σ H, t' D σ H → t D σ H) : PS X e t' := ⟨fun pins s σ H Q I hw => h.run pins s σ H Q I (i Q σ H hw)⟩

theorem mut_ne {H : Hp} {b : Addr} (h : Mut (H b)) : ∃ u, H b = some u ∧ Mut (some u) := by
  cases e : H b with
  | none => rw [e] at h; exact h.elim
  | some u => rw [e] at h; exact ⟨u, rfl, h⟩
theorem frzL_keep {ob : Addr → Obj} {L : List Addr} {H : Hp} (m : ∀ b ∈ L, Mut (H b)) : ∀ b o, H b = some o → ¬ Mut (some o) → (∀ ps, o ≠ .tbl ps) → frzL ob L H b = some o := fun b o e n _ => by
  rw [frzL_out (fun hb => by have z := m b hb; rw [e] at z; exact n z)]
  exact e

structure Cap (F L G : List Addr) (m : Nat) : Prop where
  mem : ∀ b, b ∈ F ↔ b ∈ L ∨ b ∈ G
  ndL : L.Nodup
  ndG : G.Nodup
  dj : ∀ b, b ∈ L → b ∉ G
  zero : m = 0 → G = []
structure Fz (H H' : Hp) (L G : List Addr) : Prop where
  fz : ∀ b ∈ L, ∃ ob, H' b = (H b).map (HO.frz ob)
  ke : ∀ b ∈ G, H' b = H b
  kp : ∀ b o, H b = some o → ¬ Mut (some o) → (∀ ps, o ≠ .tbl ps) → H' b = some o
theorem Cap.nil {m : Nat} : Cap [] [] [] m := ⟨by simp, .nil, .nil, by simp, fun _ => rfl⟩
theorem Cap.cons0 {a : Addr} {F L G : List Addr} (c : Cap F L G 0) (na : a ∉ F) : Cap (a :: F) (a :: L) [] 0 := by
  have g := c.zero rfl
  subst g
  refine ⟨fun b => ?_, List.nodup_cons.mpr ⟨fun h => na ((c.mem a).mpr (.inl h)), c.ndL⟩, .nil, by simp, fun _ => rfl⟩
  simp [c.mem b]
theorem Cap.consS {a : Addr} {F L G : List Addr} {m : Nat} (c : Cap F L G m) (na : a ∉ F) : Cap (a :: F) L (a :: G) (m + 1) := by
  refine ⟨fun b => ?_, c.ndL, List.nodup_cons.mpr ⟨fun h => na ((c.mem a).mpr (.inr h)), c.ndG⟩, fun b hb hg => ?_, fun h => by omega⟩
  · simp only [List.mem_cons, c.mem b]
    constructor
    · rintro (h | h | h)
      · exact .inr (.inl h)
      · exact .inl h
      · exact .inr (.inr h)
    · rintro (h | h | h)
      · exact .inr (.inl h)
      · exact .inl h
      · exact .inr (.inr h)
  · rcases List.mem_cons.mp hg with e | hg
    · subst e; exact na ((c.mem b).mpr (.inl hb))
    · exact c.dj b hb hg
theorem Cap.append {F1 F2 L1 L2 G1 G2 : List Addr} {m : Nat} (c : Cap F1 L1 G1 m) (d : Cap F2 L2 G2 m) (nd : (F1 ++ F2).Nodup) : Cap (F1 ++ F2) (L1 ++ L2) (G1 ++ G2) m := by
  have dj : ∀ b, b ∈ F1 → b ∉ F2 := fun b h1 h2 => (List.nodup_append.mp nd).2.2 b h1 b h2 rfl
  refine ⟨fun b => ?_, List.nodup_append.mpr ⟨c.ndL, d.ndL, fun x hx y hy e => ?_⟩, List.nodup_append.mpr ⟨c.ndG, d.ndG, fun x hx y hy e => ?_⟩, fun b hb hg => ?_, fun h => by rw [c.zero h, d.zero h]; rfl⟩
  · simp only [List.mem_append, c.mem b, d.mem b]
    constructor
    · rintro ((h | h) | h | h)
      · exact .inl (.inl h)
      · exact .inr (.inl h)
      · exact .inl (.inr h)
      · exact .inr (.inr h)
    · rintro ((h | h) | h | h)
      · exact .inl (.inl h)
      · exact .inr (.inl h)
      · exact .inl (.inr h)
      · exact .inr (.inr h)
  · subst e; exact dj x ((c.mem x).mpr (.inl hx)) ((d.mem x).mpr (.inl hy))
  · subst e; exact dj x ((c.mem x).mpr (.inr hx)) ((d.mem x).mpr (.inr hy))
  · rcases List.mem_append.mp hb with hb | hb <;> rcases List.mem_append.mp hg with hg | hg
    · exact c.dj b hb hg
    · exact dj b ((c.mem b).mpr (.inl hb)) ((d.mem b).mpr (.inr hg))
    · exact dj b ((c.mem b).mpr (.inr hg)) ((d.mem b).mpr (.inl hb))
    · exact d.dj b hb hg
theorem Fz.left {H H' : Hp} {L1 L2 G1 G2 : List Addr} (f : Fz H H' (L1 ++ L2) (G1 ++ G2)) : Fz H H' L1 G1 := ⟨fun b hb => f.fz b (List.mem_append_left _ hb), fun b hb => f.ke b (List.mem_append_left _ hb), f.kp⟩
theorem Fz.right {H H' : Hp} {L1 L2 G1 G2 : List Addr} (f : Fz H H' (L1 ++ L2) (G1 ++ G2)) : Fz H H' L2 G2 := ⟨fun b hb => f.fz b (List.mem_append_right _ hb), fun b hb => f.ke b (List.mem_append_right _ hb), f.kp⟩
theorem capN_lt {k m : Nat} (h : k < 9) : capN k m = min k m := by unfold capN; rw [if_neg (by omega)]
theorem OwnL.rep0 {p : Par} {H : Hp} : ∀ {l : List D} {vs : List V} {F : List Addr}, OwnL p H 0 l vs F → RepL p H l vs
  | [], _, _, h => h.1
  | _ :: _, _, _, ⟨v, r, G1, G2, e, h, t, z⟩ => ⟨v, r, e, (Own.rep h (.inl rfl)).1, OwnL.rep0 t⟩

section
variable {p : Par} {H : Hp}
mutual
/-- capped to m levels: L is frozen, G still owned -/
theorem Own.cap (m : Nat) (hm : m < 9) : ∀ {d : D} {n : Nat} {v : V} {F : List Addr}, Own p H n d v F → F.Nodup →
    ∃ L G, Cap F L G m ∧ ∀ H' : Hp, Fz H H' L G → Own p H' (capN n m) d v G
  | .lst l, n, v, F, h, nd => by
    rcases h with ⟨e, r, z⟩ | ⟨k, a, vs, G, e, e2, e3, q, r, z⟩
    · subst e; subst z
      exact ⟨[], [], .nil, fun H' f => .inl ⟨by simp [capN], Rep.keep f.kp r, rfl⟩⟩
    · subst e; subst e3; subst z
      have nd' := List.nodup_cons.mp nd
      cases m with
      | zero =>
        obtain ⟨L, G', c, h5⟩ := OwnL.cap 0 hm r (by omega) nd'.2
        refine ⟨a :: L, [], c.cons0 nd'.1, fun H' f => ?_⟩
        have own := h5 H' ⟨fun b hb => f.fz b (List.mem_cons_of_mem _ hb), fun b hb => (by rw [c.zero rfl] at hb; cases hb), f.kp⟩
        obtain ⟨ob, ea⟩ := f.fz a List.mem_cons_self
        rw [q] at ea
        rw [Nat.min_zero] at own
        exact .inl ⟨by rw [capN_lt e2, Nat.min_zero], ⟨a, vs, ob, rfl, ea, OwnL.rep0 own⟩, rfl⟩
      | succ m =>
        obtain ⟨L, G', c, h5⟩ := OwnL.cap m (by omega) r (by omega) nd'.2
        refine ⟨L, a :: G', c.consS nd'.1, fun H' f => ?_⟩
        have own := h5 H' ⟨f.fz, fun b hb => f.ke b (List.mem_cons_of_mem _ hb), f.kp⟩
        have ea : H' a = H a := f.ke a List.mem_cons_self
        exact .inr ⟨min k m, a, vs, G', by rw [capN_lt e2]; omega, by rw [capN_lt e2]; omega, rfl, ea.trans q, own, rfl⟩
  | .dic ks l, n, v, F, h, nd => by
    rcases h with ⟨e, r, z⟩ | ⟨k, a, vs, u, G, e, e2, e3, q, cc, r, z⟩
    · subst e; subst z
      exact ⟨[], [], .nil, fun H' f => .inl ⟨by simp [capN], Rep.keep f.kp r, rfl⟩⟩
    · subst e; subst e3; subst z
      have nd' := List.nodup_cons.mp nd
      cases m with
      | zero =>
        obtain ⟨L, G', c, h5⟩ := OwnL.cap 0 hm r (by omega) nd'.2
        refine ⟨a :: L, [], c.cons0 nd'.1, fun H' f => ?_⟩
        have own := h5 H' ⟨fun b hb => f.fz b (List.mem_cons_of_mem _ hb), fun b hb => (by rw [c.zero rfl] at hb; cases hb), f.kp⟩
        obtain ⟨ob, ea⟩ := f.fz a List.mem_cons_self
        rw [q] at ea
        rw [Nat.min_zero] at own
        exact .inl ⟨by rw [capN_lt e2, Nat.min_zero], ⟨a, vs, ob, u, rfl, ea, cc, OwnL.rep0 own⟩, rfl⟩
      | succ m =>
        obtain ⟨L, G', c, h5⟩ := OwnL.cap m (by omega) r (by omega) nd'.2
        refine ⟨L, a :: G', c.consS nd'.1, fun H' f => ?_⟩
        have own := h5 H' ⟨f.fz, fun b hb => f.ke b (List.mem_cons_of_mem _ hb), f.kp⟩
        have ea : H' a = H a := f.ke a List.mem_cons_self
        exact .inr ⟨min k m, a, vs, u, G', by rw [capN_lt e2]; omega, by rw [capN_lt e2]; omega, rfl, ea.trans q, cc, own, rfl⟩
  | .tup l, n, v, F, h, nd => by
    obtain ⟨r, e, g⟩ := h
    subst e
    exact ⟨[], [], .nil, fun H' f => ⟨Rep.keep f.kp r, rfl, fun z => g (by unfold capN at z; split at z <;> omega)⟩⟩
  | .non, n, v, F, h, nd => by obtain ⟨r, e, g⟩ := h; subst e; exact ⟨[], [], .nil, fun H' f => ⟨Rep.keep f.kp r, rfl, fun _ => rfl⟩⟩
  | .bl _, n, v, F, h, nd => by obtain ⟨r, e, g⟩ := h; subst e; exact ⟨[], [], .nil, fun H' f => ⟨Rep.keep f.kp r, rfl, fun _ => rfl⟩⟩
  | .int _, n, v, F, h, nd => by obtain ⟨r, e, g⟩ := h; subst e; exact ⟨[], [], .nil, fun H' f => ⟨Rep.keep f.kp r, rfl, fun _ => rfl⟩⟩
  | .str _, n, v, F, h, nd => by obtain ⟨r, e, g⟩ := h; subst e; exact ⟨[], [], .nil, fun H' f => ⟨Rep.keep f.kp r, rfl, fun _ => rfl⟩⟩
  | .set _, n, v, F, h, nd => h.1.elim
  | .fn _, n, v, F, h, nd => by obtain ⟨r, e, g⟩ := h; subst e; exact ⟨[], [], .nil, fun H' f => ⟨Rep.keep f.kp r, rfl, fun _ => rfl⟩⟩
  | .clo _ _, n, v, F, h, nd => by obtain ⟨r, e, g⟩ := h; subst e; exact ⟨[], [], .nil, fun H' f => ⟨Rep.keep f.kp r, rfl, fun z => g (by unfold capN at z; split at z <;> omega)⟩⟩
  | .exc _ _, n, v, F, h, nd => by obtain ⟨r, e, g⟩ := h; subst e; exact ⟨[], [], .nil, fun H' f => ⟨Rep.keep f.kp r, rfl, fun _ => rfl⟩⟩
theorem OwnL.cap (m : Nat) (hm : m < 9) : ∀ {l : List D} {n : Nat} {vs : List V} {F : List Addr}, OwnL p H n l vs F → n < 9 → F.Nodup →
    ∃ L G, Cap F L G m ∧ ∀ H' : Hp, Fz H H' L G → OwnL p H' (min n m) l vs G
  | [], n, vs, F, h, hn, nd => by
    obtain ⟨e, z⟩ := h
    subst e; subst z
    exact ⟨[], [], .nil, fun H' f => ⟨rfl, rfl⟩⟩
  | d :: l, n, vs, F, h, hn, nd => by
    obtain ⟨v, r, G1, G2, e, h, t, z⟩ := h
    subst e; subst z
    have nd' := List.nodup_append.mp nd
    obtain ⟨L1, K1, c1, o1⟩ := Own.cap m hm h nd'.1
    obtain ⟨L2, K2, c2, o2⟩ := OwnL.cap m hm t hn nd'.2.1
    refine ⟨L1 ++ L2, K1 ++ K2, c1.append c2 nd, fun H' f => ⟨v, r, K1, K2, rfl, ?_, o2 H' f.right, rfl⟩⟩
    rw [← capN_lt hn]
    exact o1 H' f.left
end
end

/-! ### the state of the slots and of what is pending -/
structure Tmp where
  d : D
  n : Nat
  v : V
  F : List Addr
structure Gm where
  p : Par
  T : List (Addr × Str)
  H0 : Hp
  L0 : List Addr
  pin : List (Nat × V)
structure SR (Γ : Gm) (H : Hp) (env : Env) (σ : St) (Fs : Nat → List Addr) (ts : List Tmp) : Prop where
  len : env.length = σ.length
  at_ : ∀ i d n, getS env i = some (d, n) → ∃ v, σ[i]? = some (some v) ∧ Own Γ.p H n d v (Fs i)
  non : ∀ i, getS env i = none → Fs i = []
  tmp : ∀ t ∈ ts, Own Γ.p H t.n t.d t.v t.F
  nds : ∀ i, (Fs i).Nodup
  ndt : ∀ t ∈ ts, t.F.Nodup
  djs : ∀ i j b, b ∈ Fs i → b ∈ Fs j → i = j
  djt : ts.Pairwise fun s t => ∀ b, b ∈ s.F → b ∉ t.F
  djm : ∀ i, ∀ t ∈ ts, ∀ b ∈ t.F, b ∉ Fs i
  frs : ∀ i b, b ∈ Fs i → b ∈ Γ.L0 ∨ Γ.H0 b = none
  frt : ∀ t ∈ ts, ∀ b ∈ t.F, b ∈ Γ.L0 ∨ Γ.H0 b = none
  keep : ∀ b o, Γ.H0 b = some o → b ∉ Γ.L0 → (∀ ps, o ≠ .tbl ps) → H b = some o
  tabs : LamX.Tabs Γ.T H
  tbk : ∀ b ps, Γ.H0 b = some (.tbl ps) → ∃ ps', H b = some (.tbl ps')
  pin : ∀ q ∈ Γ.pin, σ[q.1]? = some (some q.2)

section
variable {Γ : Gm} {H H' : Hp} {env : Env} {σ : St} {Fs : Nat → List Addr} {ts us : List Tmp} {t : Tmp}
theorem SR.slot_mut (s : SR Γ H env σ Fs ts) (i : Nat) : ∀ b ∈ Fs i, Mut (H b) := fun b hb => by
  cases e : getS env i with
  | none => rw [s.non i e] at hb; cases hb
  | some x => obtain ⟨v, _, o⟩ := s.at_ i x.1 x.2 e; exact o.mut b hb
theorem SR.tmp_mut (s : SR Γ H env σ Fs ts) (h : t ∈ ts) : ∀ b ∈ t.F, Mut (H b) := (s.tmp t h).mut
theorem SR.perm (s : SR Γ H env σ Fs ts) (h : ts.Perm us) : SR Γ H env σ Fs us :=
  ⟨s.len, s.at_, s.non, fun t ht => s.tmp t (h.mem_iff.mpr ht), s.nds, fun t ht => s.ndt t (h.mem_iff.mpr ht), s.djs, (h.pairwise_iff (fun {a b} r c hb ha => r c ha hb)).mp s.djt, fun i t ht => s.djm i t (h.mem_iff.mpr ht), s.frs, fun t ht => s.frt t (h.mem_iff.mpr ht), s.keep, s.tabs, s.tbk, s.pin⟩
theorem SR.sub (s : SR Γ H env σ Fs ts) (h : us.Sublist ts) : SR Γ H env σ Fs us :=
  ⟨s.len, s.at_, s.non, fun t ht => s.tmp t (h.subset ht), s.nds, fun t ht => s.ndt t (h.subset ht), s.djs, s.djt.sublist h, fun i t ht => s.djm i t (h.subset ht), s.frs, fun t ht => s.frt t (h.subset ht), s.keep, s.tabs, s.tbk, s.pin⟩
theorem SR.pop (s : SR Γ H env σ Fs (t :: ts)) : SR Γ H env σ Fs ts := s.sub (List.sublist_cons_self _ _)
/-- nothing but new objects -/
theorem SR.ext (s : SR Γ H env σ Fs ts) (k : ∀ b o, H b = some o → H' b = some o) : SR Γ H' env σ Fs ts := by
  have kp : ∀ b o, H b = some o → ¬ Mut (some o) → (∀ ps, o ≠ .tbl ps) → H' b = some o := fun b o e _ _ => k b o e
  have ke : ∀ b, Mut (H b) → H' b = H b := fun b m => by
    obtain ⟨u, e, _⟩ := mut_ne m
    rw [e]; exact k b u e
  refine ⟨s.len, fun i d n e => ?_, s.non, fun t ht => Own.keep kp (fun b hb => ke b (s.tmp_mut ht b hb)) (s.tmp t ht), s.nds, s.ndt, s.djs, s.djt, s.djm, s.frs, s.frt, fun b o e n z => k b o (s.keep b o e n z), s.tabs.ext k, fun b ps e => by obtain ⟨q, z⟩ := s.tbk b ps e; exact ⟨q, k b _ z⟩, s.pin⟩
  obtain ⟨v, h1, h2⟩ := s.at_ i d n e
  exact ⟨v, h1, Own.keep kp (fun b hb => ke b (s.slot_mut i b hb)) h2⟩
theorem SR.push (s : SR Γ H env σ Fs ts) (o : Own Γ.p H t.n t.d t.v t.F) (nd : t.F.Nodup) (d1 : ∀ u ∈ ts, ∀ b, b ∈ t.F → b ∉ u.F) (d2 : ∀ i, ∀ b ∈ t.F, b ∉ Fs i) (fr : ∀ b ∈ t.F, b ∈ Γ.L0 ∨ Γ.H0 b = none) : SR Γ H env σ Fs (t :: ts) :=
  ⟨s.len, s.at_, s.non, fun u hu => (List.mem_cons.mp hu).elim (fun e => e ▸ o) (s.tmp u), s.nds, fun u hu => (List.mem_cons.mp hu).elim (fun e => e ▸ nd) (s.ndt u), s.djs, List.pairwise_cons.mpr ⟨d1, s.djt⟩, fun i u hu => (List.mem_cons.mp hu).elim (fun e => e ▸ d2 i) (s.djm i u), s.frs, fun u hu => (List.mem_cons.mp hu).elim (fun e => e ▸ fr) (s.frt u), s.keep, s.tabs, s.tbk, s.pin⟩
theorem SR.pushR {d : D} {n : Nat} {v : V} (s : SR Γ H env σ Fs ts) (o : Own Γ.p H n d v []) : SR Γ H env σ Fs (⟨d, n, v, []⟩ :: ts) :=
  s.push (t := ⟨d, n, v, []⟩) o .nil (fun _ _ _ h => by cases h) (fun _ _ h => by cases h) (fun _ h => by cases h)
/-- the entry's objects are new for it: not owned -/
theorem SR.free (s : SR Γ H env σ Fs ts) {b : Addr} (h : H b = none) : (∀ i, b ∉ Fs i) ∧ ∀ t ∈ ts, b ∉ t.F :=
  ⟨fun i hb => by have m := s.slot_mut i b hb; rw [h] at m; exact m, fun t ht hb => by have m := s.tmp_mut ht b hb; rw [h] at m; exact m⟩
theorem SR.fresh0 (s : SR Γ H env σ Fs ts) {b : Addr} (h : H b = none) : b ∈ Γ.L0 ∨ ∀ o, Γ.H0 b = some o → ∃ ps, o = .tbl ps := by
  by_cases hb : b ∈ Γ.L0
  · exact .inl hb
  · refine .inr fun o e => ?_
    apply Classical.byContradiction
    intro hn
    have := s.keep b o e hb (fun ps z => hn ⟨ps, z⟩)
    rw [h] at this
    cases this

theorem getS_set {env : Env} {i j : Nat} {x : Option (D × Nat)} (h : i < env.length) : getS (setS env i x) j = if j = i then x else getS env j := by
  unfold getS setS
  by_cases e : j = i
  · subst e
    rw [if_pos rfl, List.getElem?_set_self h]
    rfl
  · rw [if_neg e, List.getElem?_set_ne (Ne.symm e)]
theorem getS_set_out {env : Env} {i j : Nat} {x : Option (D × Nat)} (h : ¬ i < env.length) : getS (setS env i x) j = getS env j := by
  unfold getS setS
  rw [List.set_eq_of_length_le (by omega)]
def updF (Fs : Nat → List Addr) (i : Nat) (F : List Addr) : Nat → List Addr := fun j => if j = i then F else Fs j
/-- a slot gets what was pending -/
theorem SR.put (s : SR Γ H env σ Fs (t :: ts)) {i : Nat} (hi : i < σ.length) (hpin : ∀ q ∈ Γ.pin, q.1 = i → q.2 = t.v) : SR Γ H (setS env i (some (t.d, t.n))) (σ.set i (some t.v)) (updF Fs i t.F) ts := by
  have hi' : i < env.length := by rw [s.len]; exact hi
  have dt := List.pairwise_cons.mp s.djt
  refine ⟨by simp [setS, s.len], fun j d n e => ?_, fun j e => ?_, fun u hu => s.tmp u (List.mem_cons_of_mem _ hu), fun j => ?_, fun u hu => s.ndt u (List.mem_cons_of_mem _ hu), fun j k b hj hk => ?_, dt.2, fun j u hu b hb hj => ?_, fun j b hj => ?_, fun u hu => s.frt u (List.mem_cons_of_mem _ hu), s.keep, s.tabs, s.tbk, fun q hq => ?_⟩
  · rw [getS_set hi'] at e
    unfold updF
    by_cases q : j = i
    · subst q
      rw [if_pos rfl] at e ⊢
      cases e
      exact ⟨t.v, List.getElem?_set_self hi, s.tmp t List.mem_cons_self⟩
    · rw [if_neg q] at e ⊢
      obtain ⟨v, h1, h2⟩ := s.at_ j d n e
      exact ⟨v, by rw [List.getElem?_set_ne (Ne.symm q)]; exact h1, h2⟩
  · rw [getS_set hi'] at e
    unfold updF
    by_cases q : j = i
    · rw [if_pos q] at e; cases e
    · rw [if_neg q] at e ⊢; exact s.non j e
  · unfold updF
    split
    · exact s.ndt t List.mem_cons_self
    · exact s.nds j
  · unfold updF at hj hk
    by_cases q : j = i <;> by_cases r : k = i
    · omega
    · rw [if_pos q] at hj; rw [if_neg r] at hk
      exact absurd hk (s.djm k t List.mem_cons_self b hj)
    · rw [if_neg q] at hj; rw [if_pos r] at hk
      exact absurd hj (s.djm j t List.mem_cons_self b hk)
    · rw [if_neg q] at hj; rw [if_neg r] at hk
      exact s.djs j k b hj hk
  · unfold updF at hj
    split at hj
    · exact dt.1 u hu b hj hb
    · exact s.djm j u (List.mem_cons_of_mem _ hu) b hb hj
  · unfold updF at hj
    split at hj
    · exact s.frt t List.mem_cons_self b hj
    · exact s.frs j b hj
  · by_cases e : q.1 = i
    · rw [e, List.getElem?_set_self hi, hpin q hq e]
    · rw [List.getElem?_set_ne (Ne.symm e)]; exact s.pin q hq
/-- a slot is forgotten -/
theorem SR.drop (s : SR Γ H env σ Fs ts) (i : Nat) {σ' : St} (hl : σ'.length = σ.length) (hs : ∀ j, j ≠ i → σ'[j]? = σ[j]?) (hpin : σ'[i]? = σ[i]? ∨ ∀ q ∈ Γ.pin, q.1 ≠ i) : SR Γ H (setS env i none) σ' (updF Fs i []) ts := by
  have g : ∀ j x, getS (setS env i none) j = some x → getS env j = some x ∧ j ≠ i := fun j x e => by
    by_cases hi : i < env.length
    · rw [getS_set hi] at e
      by_cases q : j = i
      · rw [if_pos q] at e; cases e
      · rw [if_neg q] at e; exact ⟨e, q⟩
    · rw [getS_set_out hi] at e
      refine ⟨e, fun q => ?_⟩
      subst q
      unfold getS at e
      rw [List.getElem?_eq_none (by omega)] at e
      cases e
  refine ⟨by simp [setS, s.len, hl], fun j d n e => ?_, fun j e => ?_, s.tmp, fun j => ?_, s.ndt, fun j k b hj hk => ?_, s.djt, fun j u hu b hb hj => ?_, fun j b hj => ?_, s.frt, s.keep, s.tabs, s.tbk, fun q hq => ?_⟩
  · obtain ⟨e, q⟩ := g j _ e
    obtain ⟨v, h1, h2⟩ := s.at_ j d n e
    refine ⟨v, (hs j q).trans h1, ?_⟩
    unfold updF; rw [if_neg q]; exact h2
  · unfold updF
    by_cases q : j = i
    · rw [if_pos q]
    · rw [if_neg q]
      refine s.non j ?_
      by_cases hi : i < env.length
      · rw [getS_set hi, if_neg q] at e; exact e
      · rw [getS_set_out hi] at e; exact e
  · unfold updF; split
    · exact .nil
    · exact s.nds j
  · unfold updF at hj hk
    split at hj
    · cases hj
    · split at hk
      · cases hk
      · exact s.djs j k b hj hk
  · unfold updF at hj
    split at hj
    · cases hj
    · exact s.djm j u hu b hb hj
  · unfold updF at hj
    split at hj
    · cases hj
    · exact s.frs j b hj
  · by_cases e : q.1 = i
    · rcases hpin with h | h
      · rw [e, h, ← e]; exact s.pin q hq
      · exact absurd e (h q hq)
    · rw [hs _ e]; exact s.pin q hq
/-- a slot's value becomes pending, the slot forgotten -/
theorem SR.mov (s : SR Γ H env σ Fs ts) {i n : Nat} {d : D} {v : V} (e : getS env i = some (d, n)) (hv : σ[i]? = some (some v)) : SR Γ H (setS env i none) σ (updF Fs i []) (⟨d, n, v, Fs i⟩ :: ts) := by
  have h := s.drop i (σ' := σ) rfl (fun _ _ => rfl) (.inl rfl)
  obtain ⟨v', e', o⟩ := s.at_ i d n e
  rw [hv] at e'; cases e'
  refine h.push (t := ⟨d, n, v, Fs i⟩) o (s.nds i) (fun u hu b hb hu' => s.djm i u hu b hu' hb) (fun j b hb hj => ?_) (fun b hb => s.frs i b hb)
  unfold updF at hj
  split at hj
  · cases hj
  · rename_i q
    exact q (s.djs j i b hj hb)
end

/-! ### labels of owned objects -/
def Lab : Option HO → Prop
  | some (.lst _) => True
  | some (.dK _) => True
  | some (.dT _) => True
  | _ => False
theorem Lab.mut {o : Option HO} (h : Lab o) : Mut o := by
  cases o with
  | none => exact h
  | some u => cases u <;> first | trivial | exact h
theorem Lab.some {o : Option HO} (h : Lab o) : ∃ u, o = some u ∧ Mut (some u) := by
  cases o with
  | none => exact h.elim
  | some u => exact ⟨u, rfl, h.mut⟩
theorem DicU.lab {ks : List D} {vs : List V} {u : HO} (h : DicU ks vs u) : Lab (some u) := by
  rcases h.2 with ⟨_, e, _⟩ | ⟨_, e, _⟩ <;> subst e <;> trivial
mutual
theorem Own.lab {p : Par} {H : Hp} : ∀ {d : D} {n : Nat} {v : V} {F : List Addr}, Own p H n d v F → ∀ b ∈ F, Lab (H b)
  | .lst l, n, v, F, h, b, hb => by
    rcases h with ⟨e, r, z⟩ | ⟨m, a, vs, G, e, e2, e3, q, r, z⟩
    · subst z; cases hb
    · subst z
      rcases List.mem_cons.mp hb with rfl | hb
      · rw [q]; trivial
      · exact OwnL.lab r b hb
  | .dic _ l, n, v, F, h, b, hb => by
    rcases h with ⟨e, r, z⟩ | ⟨m, a, vs, u, G, e, e2, e3, q, c, r, z⟩
    · subst z; cases hb
    · subst z
      rcases List.mem_cons.mp hb with rfl | hb
      · rw [q]; exact c.lab
      · exact OwnL.lab r b hb
  | .tup _, _, _, _, h, b, hb => by rw [h.2.1] at hb; cases hb
  | .non, _, _, _, h, b, hb => by rw [h.2.1] at hb; cases hb
  | .bl _, _, _, _, h, b, hb => by rw [h.2.1] at hb; cases hb
  | .int _, _, _, _, h, b, hb => by rw [h.2.1] at hb; cases hb
  | .str _, _, _, _, h, b, hb => by rw [h.2.1] at hb; cases hb
  | .set _, _, _, _, h, b, hb => by rw [h.2.1] at hb; cases hb
  | .fn _, _, _, _, h, b, hb => by rw [h.2.1] at hb; cases hb
  | .clo _ _, _, _, _, h, b, hb => by rw [h.2.1] at hb; cases hb
  | .exc _ _, _, _, _, h, b, hb => by rw [h.2.1] at hb; cases hb
theorem OwnL.lab {p : Par} {H : Hp} : ∀ {l : List D} {n : Nat} {vs : List V} {F : List Addr}, OwnL p H n l vs F → ∀ b ∈ F, Lab (H b)
  | [], _, _, _, h, b, hb => by rw [h.2] at hb; cases hb
  | _ :: _, _, _, F, ⟨v, r, G1, G2, e, h, t, z⟩, b, hb => by
    subst z
    rcases List.mem_append.mp hb with hb | hb
    · exact Own.lab h b hb
    · exact OwnL.lab t b hb
end
theorem tabs_keepN {T : List (Addr × Str)} {H H' : Hp} (t : LamX.Tabs T H) (k : ∀ b o, H b = some o → ¬ Lab (some o) → H' b = some o) : LamX.Tabs T H' := fun q hq => by
  obtain ⟨ps, h1, h2, h3⟩ := t q hq
  refine ⟨ps, k _ _ h1 (fun z => z), h2, fun pos cv hc => ?_⟩
  obtain ⟨c, e1, e2⟩ := h3 pos cv hc
  exact ⟨c, e1, k _ _ e2 (fun z => z)⟩
section
variable {Γ : Gm} {H H' : Hp} {env : Env} {σ : St} {Fs : Nat → List Addr} {ts us : List Tmp} {t : Tmp}
theorem SR.slot_lab (s : SR Γ H env σ Fs ts) (i : Nat) : ∀ b ∈ Fs i, Lab (H b) := fun b hb => by
  cases e : getS env i with
  | none => rw [s.non i e] at hb; cases hb
  | some x => obtain ⟨v, _, o⟩ := s.at_ i x.1 x.2 e; exact o.lab b hb
theorem SR.tmp_lab (s : SR Γ H env σ Fs ts) (h : t ∈ ts) : ∀ b ∈ t.F, Lab (H b) := (s.tmp t h).lab
/-- the general step: some owned objects of the head are changed -/
theorem SR.head (s : SR Γ H env σ Fs (t :: ts)) {t' : Tmp} (kn : ∀ b o, H b = some o → ¬ Lab (some o) → H' b = some o) (ko : ∀ b, b ∉ t.F → Lab (H b) → H' b = H b) (sub : ∀ b ∈ t'.F, b ∈ t.F ∨ H b = none)
    (nd : t'.F.Nodup) (o : Own Γ.p H' t'.n t'.d t'.v t'.F) (sub0 : ∀ b ∈ t'.F, b ∈ t.F ∨ (Γ.H0 b = none ∨ b ∈ Γ.L0)) : SR Γ H' env σ Fs (t' :: ts) := by
  have dt := List.pairwise_cons.mp s.djt
  have kp : ∀ b o, H b = some o → ¬ Mut (some o) → (∀ ps, o ≠ .tbl ps) → H' b = some o := fun b o e n _ => kn b o e (fun z => n z.mut)
  have nin : ∀ b, H b = none → (∀ i, b ∉ Fs i) ∧ ∀ u ∈ t :: ts, b ∉ u.F := fun b e => s.free e
  refine ⟨s.len, fun i d n e => ?_, s.non, fun u hu => ?_, s.nds, fun u hu => ?_, s.djs, List.pairwise_cons.mpr ⟨fun u hu b hb hb' => ?_, dt.2⟩, fun i u hu b hb hi => ?_, s.frs, fun u hu b hb => ?_, fun b o e n z => ?_, tabs_keepN s.tabs kn, fun b ps e => by obtain ⟨q, z⟩ := s.tbk b ps e; exact ⟨q, kn b _ z (fun y => y)⟩, s.pin⟩
  · obtain ⟨v, h1, h2⟩ := s.at_ i d n e
    exact ⟨v, h1, Own.keep kp (fun b hb => ko b (fun h => s.djm i t List.mem_cons_self b h hb) (s.slot_lab i b hb)) h2⟩
  · rcases List.mem_cons.mp hu with e | hu
    · subst e; exact o
    · exact Own.keep kp (fun b hb => ko b (fun h => dt.1 u hu b h hb) (s.tmp_lab (List.mem_cons_of_mem _ hu) b hb)) (s.tmp u (List.mem_cons_of_mem _ hu))
  · rcases List.mem_cons.mp hu with e | hu
    · subst e; exact nd
    · exact s.ndt u (List.mem_cons_of_mem _ hu)
  · rcases sub b hb with h | h
    · exact dt.1 u hu b h hb'
    · exact (nin b h).2 u (List.mem_cons_of_mem _ hu) hb'
  · rcases List.mem_cons.mp hu with e | hu
    · subst e
      rcases sub b hb with h | h
      · exact s.djm i t List.mem_cons_self b h hi
      · exact (nin b h).1 i hi
    · exact s.djm i u (List.mem_cons_of_mem _ hu) b hb hi
  · rcases List.mem_cons.mp hu with e | hu
    · subst e
      rcases sub0 b hb with h | h | h
      · exact s.frt t List.mem_cons_self b h
      · exact .inr h
      · exact .inl h
    · exact s.frt u (List.mem_cons_of_mem _ hu) b hb
  · have q := s.keep b o e n z
    by_cases l : Lab (some o)
    · rw [ko b (fun h => ?_) (by rw [q]; exact l), q]
      rcases s.frt t List.mem_cons_self b h with h | h
      · exact n h
      · rw [e] at h; cases h
    · exact kn b o q l
/-- what is pending is frozen below m levels -/
theorem SR.cap (s : SR Γ H env σ Fs (t :: ts)) (m : Nat) (hm : m < 9) :
    ∃ L : List Addr, L.Nodup ∧ (∀ b ∈ L, ∃ u, H b = some u ∧ Mut (some u)) ∧ (∀ b ∈ L, b ∈ t.F) ∧ ∀ ob, ∃ G, (∀ b ∈ G, b ∈ t.F) ∧ (m = 0 → G = []) ∧ SR Γ (frzL ob L H) env σ Fs (⟨t.d, capN t.n m, t.v, G⟩ :: ts) := by
  have o := s.tmp t List.mem_cons_self
  obtain ⟨L, G, c, h⟩ := Own.cap m hm o (s.ndt t List.mem_cons_self)
  have hL : ∀ b ∈ L, b ∈ t.F := fun b hb => (c.mem b).mpr (.inl hb)
  have lab : ∀ b ∈ L, Lab (H b) := fun b hb => o.lab b (hL b hb)
  refine ⟨L, c.ndL, fun b hb => (lab b hb).some, hL, fun ob => ⟨G, fun b hb => (c.mem b).mpr (.inr hb), c.zero, s.head (t' := ⟨t.d, capN t.n m, t.v, G⟩) (fun b u e n => ?_) (fun b n _ => frzL_out fun z => n (hL b z)) (fun b hb => .inl ((c.mem b).mpr (.inr hb))) c.ndG (h _ ⟨fun b hb => ⟨ob b, frzL_in hb⟩, fun b hb => frzL_out fun z => c.dj b z hb, frzL_keep fun b hb => (lab b hb).mut⟩) (fun b hb => .inl ((c.mem b).mpr (.inr hb)))⟩⟩
  rw [frzL_out (fun z => n (by have l := lab b z; rw [e] at l; exact l))]
  exact e
/-- put what is pending into the slot i (the other slots as they are), its V the same -/
theorem SR.back (s : SR Γ H env σ Fs (t :: ts)) {i : Nat} (hi : i < σ.length) (hv : σ[i]? = some (some t.v)) : SR Γ H (setS env i (some (t.d, t.n))) σ (updF Fs i t.F) ts := by
  have h := s.put hi (fun q hq e => by have := s.pin q hq; rw [e, hv] at this; exact (Option.some.inj (Option.some.inj this)).symm)
  have e : σ.set i (some t.v) = σ := by
    apply List.ext_getElem?
    intro j
    by_cases q : j = i
    · subst q; rw [List.getElem?_set_self hi, hv]
    · rw [List.getElem?_set_ne (Ne.symm q)]
  rw [e] at h
  exact h
theorem setS_setS (env : Env) (i : Nat) (x y : Option (D × Nat)) : setS (setS env i x) i y = setS env i y := by
  unfold setS; rw [List.set_set]
/-- a slot read as a value: frozen -/
theorem SR.var (s : SR Γ H env σ Fs ts) {i n : Nat} {d : D} {v : V} (e : getS env i = some (d, n)) (hv : σ[i]? = some (some v)) (h9 : n ≠ 9) :
    ∃ L : List Addr, L.Nodup ∧ (∀ b ∈ L, ∃ u, H b = some u ∧ Mut (some u)) ∧ ∀ ob, ∃ Fs', SR Γ (frzL ob L H) (setS env i (some (d, 0))) σ Fs' (⟨d, 0, v, []⟩ :: ts) := by
  have hi : i < σ.length := (List.getElem?_eq_some_iff.mp hv).1
  obtain ⟨L, nd, mu, _, q⟩ := (s.mov e hv).cap 0 (by omega)
  refine ⟨L, nd, mu, fun ob => ?_⟩
  obtain ⟨G, _, g0, sr⟩ := q ob
  have g0 := g0 rfl
  subst g0
  have c0 : capN n 0 = 0 := by unfold capN; rw [if_neg h9, Nat.min_zero]
  have sr : SR Γ (frzL ob L H) (setS env i none) σ (updF Fs i []) (⟨d, 0, v, []⟩ :: ts) := by rw [← c0]; exact sr
  have o : Own Γ.p (frzL ob L H) 0 d v [] := sr.tmp ⟨d, 0, v, []⟩ List.mem_cons_self
  have b := (sr.pushR o).back (i := i) hi hv
  rw [setS_setS] at b
  exact ⟨_, b⟩
/-- a slot of no mutable part read as a value -/
theorem SR.var9 (s : SR Γ H env σ Fs ts) {i : Nat} {d : D} {v : V} (e : getS env i = some (d, 9)) (hv : σ[i]? = some (some v)) : SR Γ H env σ Fs (⟨d, 9, v, []⟩ :: ts) := by
  obtain ⟨v', e', o⟩ := s.at_ i d 9 e
  rw [hv] at e'; cases e'
  have z := (o.rep (.inr rfl)).2
  rw [z] at o
  exact s.pushR o
/-- a new object -/
theorem SR.new (s : SR Γ H env σ Fs ts) {a : Addr} {o : HO} (h : H a = none) : SR Γ (upd H a o) env σ Fs ts := s.ext fun b u e => by
  rw [upd_ne (ne_of_none' e h)]; exact e
where ne_of_none' {H : Hp} {a b : Addr} {o : HO} (h : H b = some o) (h' : H a = none) : b ≠ a := fun e => by rw [e, h'] at h; cases h
end
end Eng
end

section
set_option linter.all false
set_option maxRecDepth 100000
namespace Eng
open PySem PySem.Spec
open L2 (V HO Hp St VK TE TS TA TT TI TG WX XK SqL SqT Rd upd upd_same upd_ne Key kV Mut RelV Vals Inv Cx PE PS PT PW PA PSs Takes tVar tNil tCons tOp)

/-- what is told of an exception that flies -/
def ExR (p : Par) (k : Nat) (a : Option D) (cls : Value) (dd : Option Addr) (H : Hp) : Prop :=
  cls = .ref (p.ca k) ∧ (∀ x, a = some x → ∃ i dx, x = .int i ∧ dd = some dx ∧ H dx = some (.xd [("limit", .int i)])) ∧ (a = none → dd = none)

section
variable (v : Ev) (Γ : Gm) (W : WX)
def PR (σ : St) (ts : List Tmp) (Q : VK) : R → Prop
  | .ok d n env => ∀ u H F Fs, SR Γ H env σ Fs (⟨d, n, u, F⟩ :: ts) → Q u H
  | .ex k a env => ∀ cls dd H Fs, SR Γ H env σ Fs ts → ExR Γ.p k a cls dd H → W cls dd σ H
  | .bad => False
def tE (i : E) : TE := fun σ H Q => ∃ env Fs ts, SR Γ H env σ Fs ts ∧ PR Γ W σ ts Q (v.e i env)
/-- capped at c -/
def PRc (c : Nat) (σ : St) (ts : List Tmp) (Q : VK) : R → Prop
  | .ok d n env => ∀ u H F Fs, SR Γ H env σ Fs (⟨d, capN n c, u, F⟩ :: ts) → Q u H
  | .ex k a env => ∀ cls dd H Fs, SR Γ H env σ Fs ts → ExR Γ.p k a cls dd H → W cls dd σ H
  | .bad => False
def tEc (c : Nat) (i : E) : TE := fun σ H Q => ∃ env Fs ts, SR Γ H env σ Fs ts ∧ PRc Γ W c σ ts Q (v.e i env)
def tO (c : Nat) (i : E) : TE := match isPl i with
  | some k => tVar k
  | none => tEc v Γ W c i
def tOs (c : Nat) : List E → TA
  | [] => tNil
  | i :: is => tCons (tO v Γ W c i) (tOs c is)
end
theorem pe_cap {X : Cx} {v : Ev} {Γ : Gm} {W : WX} {i : E} {e : Expr} (c : Nat) (hc : c < 9) (h : PE X e (tE v Γ W i)) : PE X e (tEc v Γ W c i) := by
  refine pe_mono (pe_lk h) fun σ H Q ⟨env, Fs, ts, s, q⟩ => ⟨env, Fs, ts, s, ?_⟩
  cases r : v.e i env with
  | ok d n env' =>
    rw [r] at q
    intro u H' F Fs' s'
    obtain ⟨L, nd, mu, _, k⟩ := s'.cap c hc
    exact ⟨L, nd, mu, fun ob => by
      obtain ⟨G, _, _, s2⟩ := k ob
      exact q u _ G Fs' s2⟩
  | ex k a env' => rw [r] at q; exact q
  | bad => rw [r] at q; exact q

/-! ### operands -/
inductive OpT (σ : St) (c : Nat) : List E → List (D × Nat) → List V → List Tmp → Prop where
  | nil : OpT σ c [] [] [] []
  | pl {e es x ds u us tl k} (h : isPl e = some k) (hu : σ[k]? = some (some u)) (r : OpT σ c es ds us tl) : OpT σ c (e :: es) (x :: ds) (u :: us) tl
  | val {e es d n ds u us F tl} (h : isPl e = none) (r : OpT σ c es ds us tl) : OpT σ c (e :: es) ((d, capN n c) :: ds) (u :: us) (⟨d, capN n c, u, F⟩ :: tl)
section
variable {v : Ev} {Γ : Gm} {W : WX} {c : Nat} {H : Hp} {env : Env} {σ : St} {Fs : Nat → List Addr} {ts : List Tmp}
def PL (Γ : Gm) (W : WX) (σ : St) (ts : List Tmp) (P : List (D × Nat) → Env → Prop) : RL → Prop
  | .ok ds env => P ds env
  | .ex k a env => ∀ cls dd H Fs, SR Γ H env σ Fs ts → ExR Γ.p k a cls dd H → W cls dd σ H
  | .bad => False
theorem evL_run : ∀ (es : List E) {H : Hp} {env : Env} {Fs : Nat → List Addr} {ts : List Tmp} {Q : List V → Hp → Prop}, SR Γ H env σ Fs ts →
    PL Γ W σ ts (fun ds env' => ∀ us H' Fs' tl, SR Γ H' env' σ Fs' (tl ++ ts) → OpT σ c es ds us tl → Q us H') (evL v c es env) → tOs v Γ W c es σ H Q
  | [], H, env, Fs, ts, Q, s, h => h [] H Fs [] s .nil
  | e :: es, H, env, Fs, ts, Q, s, h => by
    show tO v Γ W c e σ H fun x H1 => tOs v Γ W c es σ H1 fun xs H2 => Q (x :: xs) H2
    unfold evL at h
    unfold tO
    cases hp : isPl e with
    | some i =>
      rw [hp] at h
      dsimp only at h ⊢
      cases hg : getS env i with
      | none => rw [hg] at h; exact h.elim
      | some x =>
        rw [hg] at h
        dsimp only at h
        obtain ⟨u, hu, _⟩ := s.at_ i x.1 x.2 hg
        refine ⟨u, hu, evL_run es s ?_⟩
        cases hr : evL v c es env with
        | ok ds env' => rw [hr] at h; exact fun us H' Fs' tl s' o => h (u :: us) H' Fs' tl s' (.pl hp hu o)
        | ex k a env' => rw [hr] at h; exact h
        | bad => rw [hr] at h; exact h
    | none =>
      rw [hp] at h
      dsimp only at h ⊢
      refine ⟨env, Fs, ts, s, ?_⟩
      cases hr : v.e e env with
      | ok d n env' =>
        rw [hr] at h
        dsimp only at h
        intro u H' F Fs' s'
        refine evL_run es s' ?_
        cases hr2 : evL v c es env' with
        | ok ds env'' =>
          rw [hr2] at h
          exact fun us H2 Fs2 tl s2 o => h (u :: us) H2 Fs2 (⟨d, capN n c, u, F⟩ :: tl) (s2.perm List.perm_middle) (.val hp o)
        | ex k a env'' => rw [hr2] at h; exact fun cls dd H2 Fs2 s2 x => h cls dd H2 Fs2 s2.pop x
        | bad => rw [hr2] at h; exact h
      | ex k a env' => rw [hr] at h; exact h
      | bad => rw [hr] at h; exact h
theorem ops_run {es : List E} {k : List (D × Nat) → Env → R} {Q : VK} {Q' : List V → Hp → Prop} (s : SR Γ H env σ Fs ts) (h : PR Γ W σ ts Q (ops v c es env k))
    (hk : ∀ ds dsP env' us H' Fs' tl, SR Γ H' env' σ Fs' (tl ++ ts) → OpT σ c es ds us tl → patch env' es ds = some dsP → PR Γ W σ ts Q (k dsP env') → Q' us H') : tOs v Γ W c es σ H Q' := by
  refine evL_run es s ?_
  unfold ops at h
  cases hr : evL v c es env with
  | ok ds env' =>
    rw [hr] at h
    dsimp only at h
    intro us H' Fs' tl s' o
    cases hp : patch env' es ds with
    | none => rw [hp] at h; exact h.elim
    | some dsP => rw [hp] at h; exact hk ds dsP env' us H' Fs' tl s' o hp h
  | ex k a env' => rw [hr] at h; exact h
  | bad => rw [hr] at h; exact h
/-- the operands as they stand -/
inductive Views (p : Par) (H : Hp) : List (D × Nat) → List V → Prop where
  | nil : Views p H [] []
  | cons {d n u F ds us} (o : Own p H n d u F) (r : Views p H ds us) : Views p H ((d, n) :: ds) (u :: us)
theorem opv {es : List E} {ds : List (D × Nat)} {us : List V} {tl : List Tmp} (o : OpT σ c es ds us tl) : ∀ {dsP : List (D × Nat)} {H' : Hp} {env' : Env} {Fs' : Nat → List Addr} {tr : List Tmp}, SR Γ H' env' σ Fs' (tl ++ tr) → patch env' es ds = some dsP → Views Γ.p H' dsP us := by
  induction o with
  | nil => intro dsP H' env' Fs' tr s hp; cases hp; exact .nil
  | pl h hu r ih =>
    intro dsP H' env' Fs' tr s hp
    unfold patch at hp
    rw [h] at hp
    dsimp only at hp
    rename_i k
    cases hg : getS env' k with
    | none => rw [hg] at hp; cases hp
    | some x =>
      rw [hg] at hp
      simp only [Option.bind_some] at hp
      obtain ⟨ds', hp', e⟩ := Option.map_eq_some_iff.mp hp
      subst e
      obtain ⟨u', hu', o⟩ := s.at_ k x.1 x.2 hg
      rw [hu] at hu'; cases hu'
      exact .cons o (ih s hp')
  | val h r ih =>
    intro dsP H' env' Fs' tr s hp
    unfold patch at hp
    rw [h] at hp
    dsimp only at hp
    obtain ⟨ds', hp', e⟩ := Option.map_eq_some_iff.mp hp
    subst e
    exact .cons (s.tmp _ List.mem_cons_self) (ih (SR.pop s) hp')
theorem views1 {p : Par} {H : Hp} {d n us} (h : Views p H [(d, n)] us) : ∃ u F, us = [u] ∧ Own p H n d u F := by
  cases h with | cons o r => cases r; exact ⟨_, _, rfl, o⟩
theorem views2 {p : Par} {H : Hp} {d n d' n' us} (h : Views p H [(d, n), (d', n')] us) : ∃ u F u' F', us = [u, u'] ∧ Own p H n d u F ∧ Own p H n' d' u' F' := by
  cases h with | cons o r => cases r with | cons o' r => cases r; exact ⟨_, _, _, _, rfl, o, o'⟩
theorem Views.len {p : Par} {H : Hp} : ∀ {ds us}, Views p H ds us → us.length = ds.length
  | _, _, .nil => rfl
  | _, _, .cons _ r => by simp [r.len]

/-! ### results -/
variable {tl : List Tmp} {Q : VK}
theorem SR.tail (s : SR Γ H env σ Fs (tl ++ ts)) : SR Γ H env σ Fs ts := s.sub (List.sublist_append_right _ _)
/-- a value that has no objects of its own -/
theorem res0 {d : D} {n : Nat} {u : V} (s : SR Γ H env σ Fs (tl ++ ts)) (h : PR Γ W σ ts Q (.ok d n env)) (o : Own Γ.p H n d u []) : Q u H := h u H [] Fs (s.tail.pushR o)
theorem resI {i : Int} (s : SR Γ H env σ Fs (tl ++ ts)) (h : PR Γ W σ ts Q (.ok (.int i) 9 env)) : Q (.int i) H := res0 s h ⟨rfl, rfl, fun _ => rfl⟩
theorem resB {i : Bool} (s : SR Γ H env σ Fs (tl ++ ts)) (h : PR Γ W σ ts Q (.ok (.bl i) 9 env)) : Q (.bl i) H := res0 s h ⟨rfl, rfl, fun _ => rfl⟩
theorem resS {i : Str} (s : SR Γ H env σ Fs (tl ++ ts)) (h : PR Γ W σ ts Q (.ok (.str i) 9 env)) : Q (.str i) H := res0 s h ⟨rfl, rfl, fun _ => rfl⟩
theorem resN (s : SR Γ H env σ Fs (tl ++ ts)) (h : PR Γ W σ ts Q (.ok .non 9 env)) : Q .non H := res0 s h ⟨rfl, rfl, fun _ => rfl⟩
theorem SR.fresh (s : SR Γ H env σ Fs ts) {b : Addr} (h : H b = none) : b ∈ Γ.L0 ∨ Γ.H0 b = none := by
  rcases s.fresh0 h with h1 | h1
  · exact .inl h1
  · refine .inr ?_
    cases e : Γ.H0 b with
    | none => rfl
    | some o =>
      obtain ⟨ps, rfl⟩ := h1 o e
      obtain ⟨q, z⟩ := s.tbk b ps e
      rw [h] at z; cases z
/-- a new tuple -/
theorem resT {l : List D} {vs : List V} {n : Nat} {a : Addr} (s : SR Γ H env σ Fs (tl ++ ts)) (h : PR Γ W σ ts Q (.ok (.tup l) n env)) (ha : H a = none) (r : RepL Γ.p H l vs) (hn : n = 9 → D.noMutL l = true) : Q (.ref a) (upd H a (.tup vs)) := by
  have s1 : SR Γ (upd H a (.tup vs)) env σ Fs ts := s.tail.new ha
  refine h _ _ [] Fs (s1.pushR ⟨⟨a, vs, rfl, upd_same, ?_⟩, rfl, hn⟩)
  exact RepL.keep (fun b o e _ _ => by rw [upd_ne (L2.ne_of_none e ha)]; exact e) r
/-- a new list of what stands for itself -/
theorem Own.any9 {p : Par} {H : Hp} {d : D} {u : V} {F : List Addr} (h : Own p H 9 d u F) (n : Nat) (hn : n ≠ 9) : Own p H n d u F := by
  cases d with
  | lst l => rcases h with ⟨h, _⟩ | ⟨m, _, _, _, _, h, _⟩ <;> omega
  | dic l k => rcases h with ⟨h, _⟩ | ⟨m, _, _, _, _, _, h, _⟩ <;> omega
  | _ => exact ⟨h.1, h.2.1, fun z => absurd z hn⟩
theorem ownL_any {p : Par} {H : Hp} {n : Nat} : ∀ {l : List D} {vs : List V}, RepL p H l vs → D.noMutL l = true → OwnL p H n l vs []
  | [], vs, r, _ => ⟨r, rfl⟩
  | d :: l, vs, ⟨v, r, e, h, t⟩, m => by
    have m := Bool.and_eq_true_iff.mp m
    refine ⟨v, r, [], [], e, ?_, ownL_any t m.2, rfl⟩
    by_cases e9 : n = 9
    · exact Own.of h (.inr ⟨e9, m.1⟩)
    · exact (Own.of h (.inr ⟨rfl, m.1⟩)).any9 n e9
theorem ownL_0 {p : Par} {H : Hp} : ∀ {l : List D} {vs : List V}, RepL p H l vs → OwnL p H 0 l vs []
  | [], vs, r => ⟨r, rfl⟩
  | d :: l, vs, ⟨v, r, e, h, t⟩ => ⟨v, r, [], [], e, Own.of h (.inl rfl), ownL_0 t, rfl⟩
theorem resL {l : List D} {vs : List V} {n : Nat} {a : Addr} (s : SR Γ H env σ Fs (tl ++ ts)) (h : PR Γ W σ ts Q (.ok (.lst l) n env)) (ha : H a = none) (r : RepL Γ.p H l vs) (hn : n = 1 ∨ (0 < n ∧ n < 9 ∧ D.noMutL l = true)) : Q (.ref a) (upd H a (.lst vs)) := by
  have s1 : SR Γ (upd H a (.lst vs)) env σ Fs ts := s.tail.new ha
  have r1 : RepL Γ.p (upd H a (.lst vs)) l vs := RepL.keep (fun b o e _ _ => by rw [upd_ne (L2.ne_of_none e ha)]; exact e) r
  have fr := s.tail.free ha
  have own : Own Γ.p (upd H a (.lst vs)) n (.lst l) (.ref a) [a] := by
    refine .inr ⟨n - 1, a, vs, [], by omega, by omega, rfl, upd_same, ?_, rfl⟩
    rcases hn with hn | hn
    · subst hn; exact ownL_0 r1
    · exact ownL_any r1 hn.2.2
  refine h _ _ [a] Fs (s1.push (t := ⟨.lst l, n, .ref a, [a]⟩) own (by simp) (fun u hu b hb hb' => ?_) (fun i b hb hb' => ?_) (fun b hb => ?_))
  · rw [List.mem_singleton.mp hb] at hb'; exact fr.2 u hu hb'
  · rw [List.mem_singleton.mp hb] at hb'; exact fr.1 i hb'
  · rw [List.mem_singleton.mp hb]; exact s.tail.fresh ha
end
end Eng
end

section
set_option linter.all false
set_option maxRecDepth 100000
namespace Eng
open PySem PySem.Spec
open L2 (V HO Hp St VK TE TS TA TT TI TG WX XK SqL SqT Rd upd upd_same upd_ne Key kV Mut RelV Vals Inv Cx PE PS PT PW PA PI PG PSs Takes tVar tNil tCons tOp Vis Loc Gl Room)

/-- what is known of a block: the names of the slots, the kinds of the names -/
structure Sx where
  g : Gs
  N : List Str
  names : List (Str × NameKind)
  hot : Bool
  /-- a plain def's block: calls of defs may stand in it -/
  plain : Bool
  /-- the slots that are never assigned -/
  pins : List Nat
  /-- statements may stand -/
  stm : Bool
  /-- the suite that holds the exception -/
  exc : Bool
  /-- lambdas may be made -/
  lam : Bool
def visK : Option NameKind → Bool
  | some .local => true
  | some .cell => true
  | some .free => true
  | _ => false
def locK : Option NameKind → Bool
  | some .local => true
  | some .cell => true
  | _ => false
def nmOk (x : Str) : Bool := !(x == ("__debug__" : Str)) && !(x == ("__classdict__" : Str))
def Sx.slot (S : Sx) (i : Nat) (x : Str) : Bool := decide (S.N[i]? = some x) && (visK (S.names.lookup x) && nmOk x)
def Sx.loc (S : Sx) (i : Nat) (x : Str) : Bool := decide (S.N[i]? = some x) && locK (S.names.lookup x)
def Sx.glob (S : Sx) (x : Str) : Bool := decide (S.names.lookup x = some .globalImplicit) && nmOk x
def Sx.fnn (S : Sx) (k : Nat) (x : Str) : Bool := S.glob x && decide (S.g.fnames[k]? = some x)
def Sx.clsn (S : Sx) (k : Nat) (x : Str) : Bool := S.glob x && decide (S.g.cnames[k]? = some x)
def Sx.blt (S : Sx) (y x : Str) : Bool := decide (x = y) && (S.glob x && S.g.blts.contains x)
def notStar : Expr → Bool
  | .Starred _ _ => false
  | _ => true
def plainT : Expr → Bool
  | .UnaryOp .Not _ _ => false
  | .BoolOp _ _ _ => false
  | .IfExp _ _ _ _ => false
  | .Compare _ _ _ _ => false
  | _ => true
/-- a subscript's index: no slice -/
def plainIx : Expr → Bool
  | .Slice _ _ _ _ => false
  | _ => true
def bopOf : Op → Operator
  | .add => .Add | .sub => .Sub | .mul => .Mult | .mod => .Mod | .fdiv => .FloorDiv | .pow => .Pow | .shl => .LShift | .xor => .BitXor | .and => .BitAnd
def cmOf : Cm → CmpOp
  | .eq => .Eq | .ne => .NotEq | .lt => .Lt | .le => .LtE | .gt => .Gt | .ge => .GtE | .is => .Is | .isnot => .IsNot | .isin => .In | .notin => .NotIn
def noSet : Expr → Bool
  | .Set _ _ _ => false
  | _ => true
/-- a constant's value -/
def conOk (S : Sx) : D → Expr → Bool
  | .non, .Constant .none _ _ => true
  | .bl b, .Constant (.bool c) _ _ => b == c
  | .int i, .Constant (.int j) _ _ => i == j
  | .int i, .UnaryOp .USub (.Constant (.int j) _ _) _ => i == -j
  | .str s, .Constant (.str t) _ _ => decide (s = t)
  | .int i, .Name x _ => S.glob x && (match S.g.consts.lookup x with | some (.int j) => i == j | _ => false)
  | _, _ => false

/-- the world of the text -/
structure Wd where
  P : Program
  w : World
  K : PySem.W.Frag
  mg : Str → Option Value
  base : Heap
  fa : Nat → Addr
  ca : Nat → Addr
def Wd.p0 (D : Wd) : Par := { K := D.K, fa := D.fa, ca := D.ca, C := fun _ _ _ => False, X := fun _ _ _ => False, XH := [], xh := fun q h => by cases h }
structure GlobOk (Dw : Wd) (g : Gs) : Prop where
  fn : ∀ k x, g.fnames[k]? = some x → Dw.mg x = some (.ref (Dw.fa k)) ∧ PySem.W.keepIn Dw.K (.ref (Dw.fa k)) = true
  cls : ∀ k x, g.cnames[k]? = some x → Dw.mg x = some (.ref (Dw.ca k)) ∧ PySem.W.keepIn Dw.K (.ref (Dw.ca k)) = true
  con : ∀ x d, g.consts.lookup x = some (.int d) → ∃ t, Dw.mg x = some (.int d t)
  blt : ∀ x, g.blts.contains x = true → Dw.mg x = none
  exc : ∀ k, g.simple.contains k = true → ∃ (B newId initId : String) (bmB : List Value), PySem.W.excIn Dw.K (Dw.ca k) bmB newId = true ∧ ExcBaseFacts B newId initId bmB ∧ PySem.W.subIn Dw.K (.ref (Dw.ca k)) (.type "BaseException") = some true ∧ PySem.W.typeIn Dw.K (.ref (Dw.ca k)) = some (.type "type")
  sub : ∀ c k, c < g.cnames.length → k < g.cnames.length → PySem.W.kitOne Dw.K (.ref (Dw.ca c)) (.ref (Dw.ca k)) = some (g.subs.contains (c, k))
  exm : ∀ c k, c < g.cnames.length → k < g.cnames.length → PySem.W.exmOne Dw.K (.ref (Dw.ca c)) (.ref (Dw.ca k)) = some (g.subs.contains (c, k))
  excC : ∀ c, c < g.cnames.length → L2.ExcC Dw.K (Dw.ca c) ∧ PySem.W.findIn Dw.K (.ref (Dw.ca c)) "limit" = some none
  lim : ∀ k, g.lims.contains k = true → ∃ fI fd, L2.SupI Dw.P Dw.K Dw.mg (Dw.ca k) fI fd
/-- the suite that holds the exception at a -/
def ExcAt (Dw : Wd) (g : Gs) (X : Cx) (Γ : Gm) : Prop := ∃ (X0 : Cx) (a : Addr) (oe : Obj) (pn : List (Addr × Obj)) (c : Nat) (pay : Option D) (d : Option Addr), X = X0.suite a ((a, oe) :: pn) ∧ L2N.Zn (.ref (Dw.ca c)) d oe ∧ (∃ vs, oe.data = .fields vs) ∧ c < g.cnames.length ∧
  (∀ a' c' x', Γ.p.X a' c' x' → a' = a ∧ c' = c ∧ x' = pay) ∧ (∀ x, pay = some x → ∃ i dx, x = .int i ∧ d = some dx ∧ (dx, HO.xd [("limit", .int i)]) ∈ Γ.p.XH) ∧ ∀ dx, d = some dx → ∃ fs, (dx, HO.xd fs) ∈ Γ.p.XH
/-- lambdas may be made: the code object and its table -/
def LamAt (X : Cx) (T : List (Addr × Str)) : Prop := ∃ c P, X.env.code = .ref c ∧ LamX.TabB X.base X.mg c P ∧ (P, X.env.qual ++ "<lambda>") ∈ T ∧ ∀ p ∈ T, p.1 = P → p.2 = X.env.qual ++ "<lambda>"
structure Ctx (Dw : Wd) (n : Nat) (S : Sx) (X : Cx) (Γ : Gm) (W : WX) : Prop where
  prog : X.prog = Dw.P
  w : X.w = Dw.w
  K : X.K = Dw.K
  mg : X.mg = Dw.mg
  base : X.base = Dw.base
  pK : Γ.p.K = Dw.K
  pfa : Γ.p.fa = Dw.fa
  pca : Γ.p.ca = Dw.ca
  g : GlobOk Dw S.g
  N : X.N = S.N
  kind : X.env.scope.kind = .function
  nd : S.N.Nodup
  sc : ∀ x k, S.names.lookup x = some k → X.env.scope.names.lookup x = some k ∨ (k = .free ∧ X.env.scope.names.lookup x = some .cell)
  fn : ∀ x, S.names.lookup x = some .cell → X.fn x = true
  tk : L2N.Takes X W
  pas : S.stm = true → PySem.PassesOwn (model X.prog X.w) X.A X.env X.xe
  p0 : S.plain = true → Γ.p = Dw.p0
  pn : ∀ q ∈ Γ.pin, q.1 ∈ S.pins
  un : X.A.units + 70 < cLine
  calm : S.hot = false → X.calm = true
  room : S.hot = false → Room n X.A
  exc : S.exc = true → ExcAt Dw S.g X Γ
  lam : S.lam = true → LamAt X Γ.T
section
variable {Dw : Wd} {n : Nat} {S : Sx} {X : Cx} {Γ : Gm} {W : WX}
theorem and_ok {a b : Bool} (h : (a && b) = true) : a = true ∧ b = true := Bool.and_eq_true_iff.mp h
theorem Ctx.vis (C : Ctx Dw n S X Γ W) {x : Str} (h : visK (S.names.lookup x) = true) : Vis X.env.scope x := by
  cases e : S.names.lookup x with
  | none => rw [e] at h; cases h
  | some k =>
    rw [e] at h
    rcases C.sc x k e with r | ⟨_, r⟩
    · cases k <;> first | exact .inl r | exact .inr (.inl r) | exact .inr (.inr r) | cases h
    · exact .inr (.inl r)
theorem Ctx.loc (C : Ctx Dw n S X Γ W) {x : Str} (h : locK (S.names.lookup x) = true) : Loc X.env.scope x ∧ (X.fn x = true ∨ X.env.scope.names.lookup x = some .local) := by
  cases e : S.names.lookup x with
  | none => rw [e] at h; cases h
  | some k =>
    rw [e] at h
    rcases C.sc x k e with r | ⟨q, r⟩
    · cases k <;> first | exact ⟨.inl r, .inr r⟩ | exact ⟨.inr r, .inl (C.fn x e)⟩ | cases h
    · subst q; cases h
theorem nmOk_ok {x : Str} (h : nmOk x = true) : (x == ("__debug__" : Str)) = false ∧ (x == ("__classdict__" : Str)) = false := by
  obtain ⟨h1, h2⟩ := and_ok h
  exact ⟨by simpa using h1, by simpa using h2⟩
theorem Ctx.slot (C : Ctx Dw n S X Γ W) {i : Nat} {x : Str} {pos : Pos} (h : S.slot i x = true) : PE X (.Name x pos) (tVar i) := by
  obtain ⟨h1, h2⟩ := and_ok h
  obtain ⟨h2, h3⟩ := and_ok h2
  obtain ⟨h3, h4⟩ := nmOk_ok h3
  exact L2.pe_var (by rw [C.N]; exact of_decide_eq_true h1) (C.vis h2) h3 h4
theorem Ctx.glob (C : Ctx Dw n S X Γ W) {x : Str} (h : S.glob x = true) : Gl X x ∧ (x == ("__debug__" : Str)) = false := by
  obtain ⟨h1, h2⟩ := and_ok h
  refine ⟨?_, (nmOk_ok h2).1⟩
  rcases C.sc x _ (of_decide_eq_true h1) with r | ⟨q, _⟩
  · exact r
  · cases q
theorem Ctx.fnn (C : Ctx Dw n S X Γ W) {k : Nat} {x : Str} (h : S.fnn k x = true) : Gl X x ∧ (x == ("__debug__" : Str)) = false ∧ X.mg x = some (.ref (Dw.fa k)) ∧ PySem.W.keepIn X.K (.ref (Dw.fa k)) = true := by
  obtain ⟨h1, h2⟩ := and_ok h
  obtain ⟨a, b⟩ := C.glob h1
  obtain ⟨c, d⟩ := C.g.fn k x (of_decide_eq_true h2)
  exact ⟨a, b, by rw [C.mg]; exact c, by rw [C.K]; exact d⟩
theorem Ctx.blt (C : Ctx Dw n S X Γ W) {y x : Str} (h : S.blt y x = true) : x = y ∧ Gl X x ∧ (x == ("__debug__" : Str)) = false ∧ X.mg x = none := by
  obtain ⟨h1, h2⟩ := and_ok h
  obtain ⟨h2, h3⟩ := and_ok h2
  obtain ⟨a, b⟩ := C.glob h2
  exact ⟨of_decide_eq_true h1, a, b, by rw [C.mg]; exact C.g.blt x h3⟩
theorem star_ok {e : Expr} {es : List Expr} {env : PySem.Env} (h : notStar e = true) : starEach (e :: es) env = (false, eval e env) :: starEach es env := by
  cases e <;> first | rfl | cases h
theorem plainT_ok {e : Expr} {env : PySem.Env} (h : plainT e = true) : ∀ whole, isTrue e env whole = (do let v ← whole; standAt e.pos; holding [v] (truthy v)) := by
  intro whole
  cases e with
  | UnaryOp op a p => cases op <;> first | rfl | cases h
  | _ => first | rfl | cases h
end

/-! ### the leaves -/
section
variable {Dw : Wd} {n : Nat} {S : Sx} {X : Cx} {Γ : Gm} {W : WX} {v : Ev}
variable (m : Mod)
abbrev Stp (m : Mod) (v : Ev) : Ev := step m v
theorem nd_var {i : Nat} {x : Str} {pos : Pos} (C : Ctx Dw n S X Γ W) (h : S.slot i x = true) : PE X (.Name x pos) (tE (step m v) Γ W (.var i)) := by
  refine pe_mono (pe_lk (C.slot h)) fun σ H Q ⟨env, Fs, ts, s, q⟩ => ?_
  have q : PR Γ W σ ts Q (match getS env i with | some (d, n) => if n = 9 then .ok d 9 env else .ok d 0 (setS env i (some (d, 0))) | none => .bad) := q
  cases hg : getS env i with
  | none => rw [hg] at q; exact q.elim
  | some x =>
    obtain ⟨d, k⟩ := x
    rw [hg] at q
    dsimp only at q
    obtain ⟨u, hu, o⟩ := s.at_ i d k hg
    refine ⟨u, hu, ?_⟩
    by_cases h9 : k = 9
    · rw [if_pos h9] at q
      subst h9
      refine ⟨[], .nil, fun b hb => by (cases hb), fun ob => ?_⟩
      have e : frzL ob [] H = H := by funext b; exact frzL_out (by simp)
      rw [e]
      exact q u H [] Fs (s.var9 hg hu)
    · rw [if_neg h9] at q
      obtain ⟨L, nd, mu, r⟩ := s.var hg hu h9
      refine ⟨L, nd, mu, fun ob => ?_⟩
      obtain ⟨Fs', s'⟩ := r ob
      exact q u _ [] Fs' s'
theorem nd_mov {i : Nat} {x : Str} {pos : Pos} (C : Ctx Dw n S X Γ W) (h : S.slot i x = true) : PE X (.Name x pos) (tE (step m v) Γ W (.mov i)) := by
  refine pe_mono (C.slot h) fun σ H Q ⟨env, Fs, ts, s, q⟩ => ?_
  have q : PR Γ W σ ts Q (match getS env i with | some (d, n) => .ok d n (setS env i none) | none => .bad) := q
  cases hg : getS env i with
  | none => rw [hg] at q; exact q.elim
  | some x =>
    obtain ⟨d, k⟩ := x
    rw [hg] at q
    dsimp only at q
    obtain ⟨u, hu, o⟩ := s.at_ i d k hg
    exact ⟨u, hu, q u H _ _ (s.mov hg hu)⟩
theorem nd_c {d : D} {e : Expr} {u : V} (h : PE X e (L2.tC u)) (hd : d.noMut = true) (hr : ∀ H, Rep Γ.p H d u) : PE X e (tE (step m v) Γ W (.con d)) := by
  refine pe_mono h fun σ H Q ⟨env, Fs, ts, s, q⟩ => ?_
  have q : PR Γ W σ ts Q (if d.noMut then .ok d 9 env else .bad) := q
  rw [if_pos hd] at q
  exact q u H [] Fs (s.pushR (Own.of (hr H) (.inr ⟨rfl, hd⟩)))
theorem pe_unC {X : Cx} {e : Expr} {u : V} {op : UnaryOp} {r : V → Hp → VK → Prop} {pos : Pos} {u' : V} (ho : L2.UnR X (unaryOp op) r) (he : PE X e (L2.tC u)) (hr : ∀ H Q, Q u' H → r u H Q) : PE X (.UnaryOp op e pos) (L2.tC u') :=
  pe_mono (L2.pe_un ho he) fun σ H Q q => hr H Q q
theorem nd_con {d : D} {e : Expr} (C : Ctx Dw n S X Γ W) (h : conOk S d e = true) : PE X e (tE (step m v) Γ W (.con d)) := by
  unfold conOk at h
  split at h
  · exact nd_c m L2.pe_non rfl fun H => rfl
  · rename_i b c _ _; cases b <;> cases c <;> first | exact nd_c m L2.pe_bl rfl (fun H => rfl) | cases h
  · have e := eq_of_beq h; subst e; exact nd_c m L2.pe_int rfl fun H => rfl
  · have e := eq_of_beq h; subst e
    exact nd_c m (pe_unC L2.un_neg L2.pe_int (u' := .int _) fun H Q q => ⟨_, rfl, q⟩) rfl fun H => rfl
  · have e := of_decide_eq_true h; subst e; exact nd_c m L2.pe_str rfl fun H => rfl
  · obtain ⟨h1, h2⟩ := and_ok h
    obtain ⟨a, b⟩ := C.glob h1
    split at h2
    · rename_i j hl
      have e := eq_of_beq h2; subst e
      obtain ⟨t, ht⟩ := C.g.con _ _ hl
      exact nd_c m (L2.pe_glob a (by rw [C.mg]; exact ht) (v := .int _) ⟨t, rfl⟩ b) rfl fun H => rfl
    · cases h2
  · cases h
theorem nd_fn {k : Nat} {x : Str} {pos : Pos} (C : Ctx Dw n S X Γ W) (h : S.fnn k x = true) : PE X (.Name x pos) (tE (step m v) Γ W (.fn k)) := by
  obtain ⟨a, b, c, d⟩ := C.fnn h
  refine pe_mono (L2.pe_glob a c (v := .ref (Dw.fa k)) rfl b) fun σ H Q ⟨env, Fs, ts, s, q⟩ => ?_
  have q : PR Γ W σ ts Q (.ok (.fn k) 9 env) := q
  exact q _ H [] Fs (s.pushR ⟨by show _ = V.ref (Γ.p.fa k); rw [C.pfa], rfl, fun _ => rfl⟩)
end
end Eng
end

section
set_option linter.all false
set_option maxRecDepth 100000
namespace Eng
open PySem PySem.Spec
open L2 (V HO Hp St VK TE TS TA TT TI TG WX XK SqL SqT Rd upd upd_same upd_ne Key kV Mut RelV Vals Inv Cx PE PS PT PW PA PI PG PSs Takes tVar tNil tCons tOp Vis Loc Gl Room OpR R2 EP)

/-! ### products of great numbers -/
def MulFit (x y : Int) : Prop := x.natAbs.log2 + y.natAbs.log2 < 4000000
theorem MulFit.fits {x y : Int} (h : MulFit x y) : IntMulOk x y := fun z => by
  have big := of_decide_eq_true (Bool.and_eq_true_iff.mp z).2
  have bits : ∀ k : Int, Builtin.Int.intBits k ≤ k.natAbs.log2 + 1 := fun k => by
    unfold Builtin.Int.intBits
    split <;> omega
  have b1 := bits x
  have b2 := bits y
  have lim : bitsLine = 134217728 := by decide
  have h : x.natAbs.log2 + y.natAbs.log2 < 4000000 := h
  omega
theorem op_mulF {X : Cx} : OpR X (binaryOp .Mult) (L2.rI MulFit fun i j => .int (i * j)) := L2.opI fun _ _ _ _ _ _ _ hc q => PySem.P.mul_int q (MulFit.fits hc)
/-! ### what stands at a value -/
section
variable {p : Par} {H : Hp} {n : Nat} {u : V} {F : List Addr}
theorem own_int {i : Int} (o : Own p H n (.int i) u F) : u = .int i := o.1
theorem own_bl {i : Bool} (o : Own p H n (.bl i) u F) : u = .bl i := o.1
theorem own_str {i : Str} (o : Own p H n (.str i) u F) : u = .str i := o.1
theorem own_non (o : Own p H n .non u F) : u = .non := o.1
theorem own_tup {l : List D} (o : Own p H n (.tup l) u F) : ∃ a vs, u = .ref a ∧ H a = some (.tup vs) ∧ RepL p H l vs := o.1
theorem OwnL.repM : ∀ {l : List D} {vs : List V} {F : List Addr}, OwnL p H n l vs F → D.noMutL l = true → RepL p H l vs
  | [], vs, F, h, _ => h.1
  | d :: l, vs, F, ⟨v, r, G1, G2, e, h, t, z⟩, m => by
    have m := and_ok m
    refine ⟨v, r, e, ?_, OwnL.repM t m.2⟩
    cases d with
    | lst l => cases m.1
    | dic l k => cases m.1
    | _ => exact h.1
theorem shareOk_lst {l : List D} (h : shareOk (.lst l) n = true) : n = 9 ∨ n ≤ 1 ∨ D.noMutL l = true := by
  unfold shareOk at h
  simp only [Bool.or_eq_true, beq_iff_eq, decide_eq_true_eq] at h
  rcases h with (h | h) | h
  · exact .inl h
  · exact .inr (.inl h)
  · exact .inr (.inr h)
theorem own_lst {l : List D} (o : Own p H n (.lst l) u F) : ∃ a vs, u = .ref a ∧ Rd H a (.lst vs) ∧ (n = 0 → RepL p H l vs) ∧ ∀ m, n = m + 1 → ∃ G, OwnL p H m l vs G := by
  rcases o with ⟨e, ⟨a, vs, ob, e1, e2, r⟩, _⟩ | ⟨m, a, vs, G, e, _, e1, e2, r, _⟩
  · exact ⟨a, vs, e1, .inr ⟨ob, e2⟩, fun _ => r, fun m z => by omega⟩
  · exact ⟨a, vs, e1, .inl e2, fun z => by omega, fun m' z => by have : m' = m := by omega
                                                                 subst this; exact ⟨G, r⟩⟩
theorem own_lstR {l : List D} (o : Own p H n (.lst l) u F) (h : shareOk (.lst l) n = true) : ∃ a vs, u = .ref a ∧ Rd H a (.lst vs) ∧ RepL p H l vs := by
  have n9 : n ≠ 9 := fun e => by have := o.flag e; cases this
  obtain ⟨a, vs, e1, e2, r0, r1⟩ := own_lst o
  refine ⟨a, vs, e1, e2, ?_⟩
  cases n with
  | zero => exact r0 rfl
  | succ m =>
    obtain ⟨G, r⟩ := r1 m rfl
    rcases shareOk_lst h with h | h | h
    · exact absurd h n9
    · have : m = 0 := by omega
      subst this; exact r.rep0
    · exact r.repM h
/-- the shallow part -/
theorem own_lstS {l : List D} (o : Own p H n (.lst l) u F) : ∃ a vs, u = .ref a ∧ Rd H a (.lst vs) ∧ vs.length = l.length := by
  have len0 : ∀ {l : List D} {vs : List V}, RepL p H l vs → vs.length = l.length := by
    intro l
    induction l with
    | nil => intro vs r; rw [show vs = [] from r]; rfl
    | cons d l ih => intro vs ⟨v, r, e, _, t⟩; rw [e]; simp [ih t]
  have len1 : ∀ {m : Nat} {l : List D} {vs : List V} {G : List Addr}, OwnL p H m l vs G → vs.length = l.length := by
    intro m l
    induction l with
    | nil => intro vs G r; rw [r.1]; rfl
    | cons d l ih => intro vs G ⟨v, r, _, _, e, _, t, _⟩; rw [e]; simp [ih t]
  obtain ⟨a, vs, e1, e2, r0, r1⟩ := own_lst o
  refine ⟨a, vs, e1, e2, ?_⟩
  cases n with
  | zero => exact len0 (r0 rfl)
  | succ m => obtain ⟨G, r⟩ := r1 m rfl; exact len1 r
theorem RepL.len : ∀ {l : List D} {vs : List V}, RepL p H l vs → vs.length = l.length
  | [], vs, r => by rw [show vs = [] from r]; rfl
  | d :: l, vs, ⟨v, r, e, _, t⟩ => by rw [e]; simp [RepL.len t]
theorem OwnL.len {m : Nat} : ∀ {l : List D} {vs : List V} {G : List Addr}, OwnL p H m l vs G → vs.length = l.length
  | [], vs, G, r => by rw [r.1]; rfl
  | d :: l, vs, G, ⟨v, r, _, _, e, _, t, _⟩ => by rw [e]; simp [OwnL.len t]
theorem RepL.append : ∀ {l k : List D} {vs ws : List V}, RepL p H l vs → RepL p H k ws → RepL p H (l ++ k) (vs ++ ws)
  | [], k, vs, ws, r, t => by rw [show vs = [] from r]; exact t
  | d :: l, k, vs, ws, ⟨v, r, e, h, q⟩, t => by rw [e]; exact ⟨v, r ++ ws, rfl, h, RepL.append q t⟩
theorem RepL.rep {l : List D} {vs : List V} (h : RepL p H l vs) : ∀ k, RepL p H (List.replicate k l).flatten (List.replicate k vs).flatten
  | 0 => rfl
  | k + 1 => by
    rw [List.replicate_succ, List.replicate_succ, List.flatten_cons, List.flatten_cons]
    exact h.append (RepL.rep h k)
theorem RepL.get : ∀ {l : List D} {vs : List V} {i : Nat} {d : D}, RepL p H l vs → l[i]? = some d → ∃ v, vs[i]? = some v ∧ Rep p H d v
  | [], _, _, _, _, e => by simp at e
  | x :: l, vs, 0, d, ⟨v, r, e, h, q⟩, g => by
    simp at g; subst g; subst e; exact ⟨v, rfl, h⟩
  | x :: l, vs, i + 1, d, ⟨v, r, e, h, q⟩, g => by
    subst e
    obtain ⟨w, a, b⟩ := RepL.get (i := i) q (by simpa using g)
    exact ⟨w, by simpa using a, b⟩
theorem RepL.take : ∀ {l : List D} {vs : List V} (k : Nat), RepL p H l vs → RepL p H (l.take k) (vs.take k)
  | _, _, 0, _ => rfl
  | [], vs, k + 1, r => by rw [show vs = [] from r]; rfl
  | x :: l, vs, k + 1, ⟨v, r, e, h, q⟩ => by subst e; exact ⟨v, r.take k, rfl, h, RepL.take k q⟩
theorem RepL.drop : ∀ {l : List D} {vs : List V} (k : Nat), RepL p H l vs → RepL p H (l.drop k) (vs.drop k)
  | _, _, 0, r => r
  | [], vs, k + 1, r => by rw [show vs = [] from r]; rfl
  | x :: l, vs, k + 1, ⟨v, r, e, h, q⟩ => by subst e; exact RepL.drop k q
theorem RepL.rev {l : List D} {vs : List V} (h : RepL p H l vs) : RepL p H l.reverse vs.reverse := by
  induction l generalizing vs with
  | nil => rw [show vs = [] from h]; rfl
  | cons d l ih =>
    obtain ⟨v, r, e, h, q⟩ := h
    subst e
    rw [List.reverse_cons, List.reverse_cons]
    exact (ih q).append ⟨v, [], rfl, h, rfl⟩
theorem noMutL_append {l k : List D} : D.noMutL (l ++ k) = (D.noMutL l && D.noMutL k) := by
  induction l with
  | nil => rfl
  | cons d l ih => show (d.noMut && D.noMutL (l ++ k)) = ((d.noMut && D.noMutL l) && D.noMutL k); rw [ih, Bool.and_assoc]
end

/-! ### operators on values -/
section
variable {X : Cx}
def rCatR : R2 := fun x y H Q => ∃ l b xs zs, x = .ref l ∧ y = .ref b ∧ Rd H l (.lst xs) ∧ Rd H b (.lst zs) ∧ xs.length + zs.length ≤ sizeLine ∧ ∀ p, H p = none → Q (.ref p) (upd H p (.lst (xs ++ zs)))
theorem op_catR : OpR X (binaryOp .Add) rCatR := by
  intro pins s σ H x y v u Q I rx ry h
  obtain ⟨l, b, xs, zs, rfl, rfl, hH, hB, hz, q⟩ := h
  cases rx
  cases ry
  obtain ⟨z, its, n, r, e⟩ := hH.ok I.hok
  obtain ⟨z2, its2, n2, r2, e2⟩ := hB.ok I.hok
  have hl := r.length
  have hl2 := r2.length
  refine PySem.P.add_list e e2 ?_ (by rw [List.size_toArray, List.size_toArray]; omega)
  have ea : its.toArray ++ its2.toArray = (its ++ its2).toArray := by simp
  rw [ea]
  exact ⟨.ref _, _, I.lnew (t' := s.toks) (r.append r2) (by rw [List.length_append]; omega), rfl, q _ I.fresh⟩
def rBin (K : PySem.W.Frag) : Op → R2
  | .add => fun x y H Q => ((L2.rI0 fun i j => .int (i + j)) x y H Q ∨ (fun x y H Q => ∃ i j, x = V.str i ∧ y = V.str j ∧ i.length + j.length ≤ sizeLine ∧ Q (.str (i ++ j)) H) x y H Q) ∨ (L2.rCatA K x y H Q ∨ rCatR x y H Q)
  | .sub => L2.rI0 fun i j => .int (i - j)
  | .mul => fun x y H Q => (L2.rI MulFit fun i j => .int (i * j)) x y H Q ∨ (L2.rRep x y H Q ∨ L2.rRepT K x y H Q)
  | .mod => L2.rI (fun _ j => j ≠ 0) fun i j => .int (i.fmod j)
  | .fdiv => fun x y H Q => (L2.rI L2.CDivW fun i j => .int (i / j)) x y H Q ∨ (L2.rI L2.CDivN fun i j => .int (i.fdiv j)) x y H Q
  | .pow => L2.rI L2.CPow fun i j => .int (i ^ j.toNat)
  | .shl => L2.rI L2.CPow fun i j => .int (i * 2 ^ j.toNat)
  | .xor => L2.rI0 fun i j => .int (Builtin.bitXor i j)
  | .and => L2.rI0 fun i j => .int (Builtin.bitAnd i j)
theorem op_bin (o : Op) : OpR X (binaryOp (bopOf o)) (rBin X.K o) := by
  cases o with
  | add => exact (L2.op_add.or L2.op_add_str).or (L2.op_catA.or op_catR)
  | sub => exact L2.op_sub
  | mul => exact op_mulF.or (L2.op_rep.or L2.op_repT)
  | mod => exact L2.op_modN
  | fdiv => exact L2.op_fdivW.or L2.op_fdivN
  | pow => exact L2.op_pow
  | shl => exact L2.op_shl
  | xor => exact L2.op_xor
  | and => exact L2.op_and
end
end Eng
end

section
set_option linter.all false
set_option maxRecDepth 100000
namespace Eng
open PySem PySem.Spec
open L2 (V HO Hp St VK TE TS TA TT TI TG WX XK SqL SqT Rd upd upd_same upd_ne Key kV Mut RelV Vals Inv Cx PE PS PT PW PA PI PG PSs Takes tVar tNil tCons tOp Vis Loc Gl Room OpR R2 EP)
section
variable {v : Ev} {Γ : Gm} {W : WX} {c : Nat} {H : Hp} {env : Env} {σ : St} {Fs : Nat → List Addr} {ts tl : List Tmp}
theorem OpT.len {es ds us} (o : OpT σ c es ds us tl) : us.length = es.length := by induction o <;> simp_all
theorem opv1 {a : E} {ds dsP us} (o : OpT σ c [a] ds us tl) (s : SR Γ H env σ Fs (tl ++ ts)) (hp : patch env [a] ds = some dsP) :
    ∃ d n u F, dsP = [(d, n)] ∧ us = [u] ∧ Own Γ.p H n d u F := by
  have hl := o.len
  have vw := opv o s hp
  cases vw with
  | nil => cases hl
  | cons o1 r => cases r with
    | nil => exact ⟨_, _, _, _, rfl, rfl, o1⟩
    | cons _ _ => cases hl
theorem opv2 {a b : E} {ds dsP us} (o : OpT σ c [a, b] ds us tl) (s : SR Γ H env σ Fs (tl ++ ts)) (hp : patch env [a, b] ds = some dsP) :
    ∃ d n u F d' n' u' F', dsP = [(d, n), (d', n')] ∧ us = [u, u'] ∧ Own Γ.p H n d u F ∧ Own Γ.p H n' d' u' F' := by
  have hl := o.len
  have vw := opv o s hp
  cases vw with
  | nil => cases hl
  | cons o1 r => cases r with
    | nil => cases hl
    | cons o2 r => cases r with
      | nil => exact ⟨_, _, _, _, _, _, _, _, rfl, rfl, o1, o2⟩
      | cons _ _ => cases hl
end
section
variable {Dw : Wd} {n : Nat} {S : Sx} {X : Cx} {Γ : Gm} {W : WX} {v : Ev} {m : Mod} {c : Nat}
/-- an operation on two operands that reads them -/
theorem nd_op2 {i a b : E} {e : Expr} {r : R2} {k : List (D × Nat) → Env → R} (h : PE X e (tOp r (tO v Γ W c a) (tO v Γ W c b))) (hi : ∀ env, stepE m v i env = ops v c [a, b] env k)
    (hk : ∀ (σ : St) (ts tl : List Tmp) (Q : VK) (env : Env) (Fs : Nat → List Addr) (H : Hp) d n u F d' n' u' F', SR Γ H env σ Fs (tl ++ ts) → Own Γ.p H n d u F → Own Γ.p H n' d' u' F' → PR Γ W σ ts Q (k [(d, n), (d', n')] env) → r u u' H Q) : PE X e (tE (step m v) Γ W i) := by
  refine pe_mono h fun σ H Q ⟨env, Fs, ts, s, q⟩ => ?_
  have q : PR Γ W σ ts Q (stepE m v i env) := q
  rw [hi] at q
  exact ops_run (Q' := fun us H => match us with | [x, y] => r x y H Q | _ => False) s q fun ds dsP env' us H' Fs' tl s' o hp q' => by
    obtain ⟨d, n, u, F, d', n', u', F', rfl, rfl, o1, o2⟩ := opv2 o s' hp
    exact hk σ ts tl Q env' Fs' H' d n u F d' n' u' F' s' o1 o2 q'
theorem nd_op1 {i a : E} {e : Expr} {r : V → Hp → VK → Prop} {k : List (D × Nat) → Env → R} (h : PE X e (fun σ H Q => tO v Γ W c a σ H fun x H1 => r x H1 Q)) (hi : ∀ env, stepE m v i env = ops v c [a] env k)
    (hk : ∀ (σ : St) (ts tl : List Tmp) (Q : VK) (env : Env) (Fs : Nat → List Addr) (H : Hp) d n u F, SR Γ H env σ Fs (tl ++ ts) → Own Γ.p H n d u F → PR Γ W σ ts Q (k [(d, n)] env) → r u H Q) : PE X e (tE (step m v) Γ W i) := by
  refine pe_mono h fun σ H Q ⟨env, Fs, ts, s, q⟩ => ?_
  have q : PR Γ W σ ts Q (stepE m v i env) := q
  rw [hi] at q
  exact ops_run (Q' := fun us H => match us with | [x] => r x H Q | _ => False) s q fun ds dsP env' us H' Fs' tl s' o hp q' => by
    obtain ⟨d, n, u, F, rfl, rfl, o1⟩ := opv1 o s' hp
    exact hk σ ts tl Q env' Fs' H' d n u F s' o1 q'
theorem nd_neg {a : E} {e : Expr} {pos : Pos} (h : PE X e (tO v Γ W 1 a)) : PE X (.UnaryOp .USub e pos) (tE (step m v) Γ W (.neg a)) := by
  refine nd_op1 (c := 1) (r := L2.rU fun i => .int (-i)) (L2.pe_un L2.un_neg h) (fun env => rfl) fun σ ts tl Q env Fs H d n u F s o q => ?_
  cases d with
  | int i => exact ⟨i, own_int o, resI s q⟩
  | _ => exact q.elim
theorem noMutL_rep {l : List D} : ∀ {i : Nat}, D.noMutL l = true → D.noMutL (List.replicate i l).flatten = true
  | 0, _ => rfl
  | i + 1, h => by rw [List.replicate_succ, List.flatten_cons, noMutL_append, h, noMutL_rep h]; rfl
theorem SZ_le : SZ ≤ sizeLine := by decide
theorem nd_bin {o : Op} {a b : E} {ea eb : Expr} {pos : Pos} (hK : X.K = Γ.p.K) (ha : PE X ea (tO v Γ W 1 a)) (hb : PE X eb (tO v Γ W 1 b)) : PE X (.BinOp ea (bopOf o) eb pos) (tE (step m v) Γ W (.bin o a b)) := by
  refine nd_op2 (c := 1) (r := rBin X.K o) (L2.pe_op (op_bin o) ha hb) (fun env => rfl) fun σ ts tl Q env Fs H d n u F d' n' u' F' s o1 o2 q => ?_
  have q : PR Γ W σ ts Q (if shareOk d n && (shareOk d' n' && mulOk o d n) then okO (binop o d d') env else .bad) := q
  split at q
  · rename_i hs
    obtain ⟨hs1, hs0⟩ := and_ok hs
    obtain ⟨hs2, hm⟩ := and_ok hs0
    unfold okO at q
    split at q
    · rename_i d3 n3 hb
      unfold binop at hb
      split at hb
      · cases hb; exact .inl (.inl ⟨_, _, own_int o1, own_int o2, resI s q⟩)
      · cases hb; exact ⟨_, _, own_int o1, own_int o2, resI s q⟩
      · split at hb
        · cases hb; exact .inl ⟨_, _, own_int o1, own_int o2, by assumption, resI s q⟩
        · cases hb
      · split at hb
        · cases hb
        · cases hb; exact ⟨_, _, own_int o1, own_int o2, by assumption, resI s q⟩
      · split at hb
        · cases hb; exact .inl ⟨_, _, own_int o1, own_int o2, by assumption, resI s q⟩
        · split at hb
          · cases hb; exact .inr ⟨_, _, own_int o1, own_int o2, by assumption, resI s q⟩
          · cases hb
      · split at hb
        · rename_i i j hc
          cases hb; exact ⟨_, _, own_int o1, own_int o2, ⟨hc.1, by omega, hc.2.2⟩, resI s q⟩
        · cases hb
      · split at hb
        · rename_i i j hc
          cases hb; exact ⟨_, _, own_int o1, own_int o2, ⟨hc.1, by omega, hc.2.2⟩, resI s q⟩
        · cases hb
      · cases hb; exact ⟨_, _, own_int o1, own_int o2, resI s q⟩
      · cases hb; exact ⟨_, _, own_int o1, own_int o2, resI s q⟩
      · split at hb
        · rename_i i j hc
          cases hb; exact .inl (.inr ⟨_, _, own_str o1, own_str o2, Nat.le_trans hc SZ_le, resS s q⟩)
        · cases hb
      · split at hb
        · rename_i i j hc
          cases hb
          obtain ⟨a1, vs1, e1, h1, r1⟩ := own_tup o1
          obtain ⟨a2, vs2, e2, h2, r2⟩ := own_tup o2
          have l1 := r1.len
          have l2 := r2.len
          have fl : flagOf (Eng.D.tup (i ++ j)) = 9 → D.noMutL (i ++ j) = true := fun z => by
            unfold flagOf at z
            split at z
            · rename_i zz; exact zz
            · omega
          refine .inr (.inl ⟨a1, a2, vs1, vs2, e1, e2, .inl (.inl h1), .inl (.inl h2), Nat.le_trans (by rw [l1, l2]; exact hc) SZ_le, fun z => ?_, fun z1 z2 => ?_, fun z1 z2 p hp => ?_⟩)
          · have z : i = [] := List.length_eq_zero_iff.mp (by rw [← l1, z]; rfl)
            subst z
            exact res0 s q ⟨⟨a2, vs2, rfl, h2, r2⟩, rfl, fl⟩
          · have z : j = [] := List.length_eq_zero_iff.mp (by rw [← l2, z2]; rfl)
            subst z
            rw [List.append_nil] at q fl
            exact res0 s q ⟨⟨a1, vs1, rfl, h1, r1⟩, rfl, fl⟩
          · exact resT s q hp (r1.append r2) fl
        · cases hb
      · split at hb
        · rename_i i j hc
          cases hb
          obtain ⟨a1, vs1, e1, h1, r1⟩ := own_lstR o1 hs1
          obtain ⟨a2, vs2, e2, h2, r2⟩ := own_lstR o2 hs2
          exact .inr (.inr ⟨a1, a2, vs1, vs2, e1, e2, h1, h2, Nat.le_trans (by rw [r1.len, r2.len]; exact hc) SZ_le, fun p hp => resL s q hp (r1.append r2) (.inl rfl)⟩)
        · cases hb
      · split at hb
        · rename_i i j hc
          cases hb
          obtain ⟨a1, vs1, e1, h1, r1⟩ := own_lstR o1 hs1
          have h1 : H a1 = some (.lst vs1) := by
            rcases o1 with ⟨e, _⟩ | ⟨_, a, vs, _, e, _, e3, e4, _⟩
            · subst e; cases hm
            · rw [e1] at e3; cases e3
              rcases h1 with h1 | ⟨_, h1⟩
              · exact h1
              · rw [e4] at h1; cases h1
          have l1 := r1.len
          have hlen : vs1.length * j.toNat ≤ sizeLine := by
            have a1 : vs1.length ≤ 100 := by rw [l1]; exact hc.2.2
            have a2 : j.toNat ≤ 1000 := by omega
            exact Nat.le_trans (Nat.mul_le_mul a1 a2) (by decide)
          refine .inr (.inl ⟨a1, _, vs1, e1, own_int o2, h1, ?_, ?_, hlen, fun p hp => resL s q hp (r1.rep _) (.inl rfl)⟩)
          · have := hc.1; omega
          · have := hc.2.1; omega
        · cases hb
      · split at hb
        · rename_i i j hc
          cases hb
          obtain ⟨a1, vs1, e1, h1, r1⟩ := own_tup o1
          have l1 := r1.len
          refine .inr (.inr ⟨a1, _, vs1, e1, own_int o2, .inl (.inl h1), ?_, hc.1, hc.2.1, by rw [l1]; exact hc.2.2.1, fun p hp => ?_⟩)
          · intro z; rw [z] at l1; exact hc.2.2.2 l1.symm
          · refine resT s q hp (r1.rep _) fun z => noMutL_rep (i := j.toNat) ?_
            unfold flagOf at z
            split at z
            · rename_i zz; exact zz
            · omega
        · cases hb
      · cases hb
    · exact q.elim
  · exact q.elim
end
end Eng
end

section
set_option linter.all false
set_option maxRecDepth 100000
namespace Eng
open PySem PySem.Spec
open L2 (V HO Hp St VK TE TS TA TT TI TG WX XK SqL SqT Rd upd upd_same upd_ne Key kV Mut RelV Vals Inv Cx PE PS PT PW PA PI PG PSs Takes tVar tNil tCons tOp Vis Loc Gl Room OpR R2 EP Dp DpAll)
mutual
def toPy : D → PyData
  | .bl b => .bool b | .int i => .int i | .str s => .str s
  | .tup l => .tuple (toPyL l) | .lst l => .list (toPyL l)
  | _ => .none
def toPyL : List D → List PyData
  | [] => []
  | d :: l => toPy d :: toPyL l
end
section
variable {p : Par} {H : Hp}
mutual
theorem Rep.dp : ∀ {d : D} {k : Nat} {u : V}, Rep p H d u → D.dat k d = true → Dp p.K H u (toPy d)
  | .non, _, _, r, _ => by rw [show _ = V.non from r]; exact .non
  | .bl b, _, _, r, _ => by rw [show _ = V.bl b from r]; exact .bl b
  | .int i, _, _, r, _ => by rw [show _ = V.int i from r]; exact .int i
  | .str i, _, _, r, _ => by rw [show _ = V.str i from r]; exact .str i
  | .tup l, 0, _, _, h => by cases h
  | .tup l, k + 1, _, ⟨a, vs, e, q, r⟩, h => by subst e; exact .tup (.inl (.inl q)) (RepL.dp r h)
  | .lst l, 0, _, _, h => by cases h
  | .lst l, k + 1, _, ⟨a, vs, o, e, q, r⟩, h => by subst e; exact .lst (.inl (.inr ⟨o, q⟩)) (RepL.dp r h)
  | .dic _ _, k, _, _, h => by cases k <;> cases h
  | .set _, k, _, _, h => by cases k <;> cases h
  | .fn _, k, _, _, h => by cases k <;> cases h
  | .clo _ _, k, _, _, h => by cases k <;> cases h
  | .exc _ _, k, _, _, h => by cases k <;> cases h
theorem RepL.dp : ∀ {l : List D} {k : Nat} {vs : List V}, RepL p H l vs → D.datL k l = true → DpAll p.K H vs (toPyL l)
  | [], _, _, r, _ => by rw [show _ = [] from r]; exact .nil
  | d :: l, k, _, ⟨v, r, e, h, t⟩, m => by
    subst e
    have m := and_ok m
    exact .cons (Rep.dp h m.1) (RepL.dp t m.2)
end
mutual
theorem Own.dp : ∀ {d : D} {k n : Nat} {u : V} {F : List Addr}, Own p H n d u F → D.dat k d = true → Dp p.K H u (toPy d)
  | .non, _, _, _, _, o, h => Rep.dp o.1 h
  | .bl b, _, _, _, _, o, h => Rep.dp o.1 h
  | .int i, _, _, _, _, o, h => Rep.dp o.1 h
  | .str i, _, _, _, _, o, h => Rep.dp o.1 h
  | .tup l, _, _, _, _, o, h => Rep.dp o.1 h
  | .lst l, 0, _, _, _, _, h => by cases h
  | .lst l, k + 1, n, u, F, o, h => by
    rcases o with ⟨_, r, _⟩ | ⟨m, a, vs, G, e, _, e1, e2, r, _⟩
    · exact Rep.dp r h
    · subst e1; exact .lst (.inl (.inl e2)) (OwnL.dp r h)
  | .dic _ _, k, _, _, _, _, h => by cases k <;> cases h
  | .set _, k, _, _, _, _, h => by cases k <;> cases h
  | .fn _, k, _, _, _, _, h => by cases k <;> cases h
  | .clo _ _, k, _, _, _, _, h => by cases k <;> cases h
  | .exc _ _, k, _, _, _, _, h => by cases k <;> cases h
theorem OwnL.dp : ∀ {l : List D} {k n : Nat} {vs : List V} {F : List Addr}, OwnL p H n l vs F → D.datL k l = true → DpAll p.K H vs (toPyL l)
  | [], _, _, _, _, r, _ => by rw [r.1]; exact .nil
  | d :: l, k, n, _, _, ⟨v, r, G1, G2, e, h, t, z⟩, m => by
    subst e
    have m := and_ok m
    exact .cons (Own.dp h m.1) (OwnL.dp t m.2)
end
end
mutual
theorem lay_py : ∀ {d : D} {k : Nat}, D.dat k d = true → (toPy d).canLay0 = true ∧ (toPy d).depth ≤ k
  | .non, k, _ => ⟨rfl, Nat.zero_le _⟩
  | .bl b, k, _ => ⟨rfl, Nat.zero_le _⟩
  | .int i, k, _ => ⟨rfl, Nat.zero_le _⟩
  | .str i, k, h => ⟨by cases k <;> exact h, Nat.zero_le _⟩
  | .tup l, 0, h => by cases h
  | .tup l, k + 1, h => by
    have := lay_pyL (l := l) (k := k) h
    exact ⟨this.1, Nat.succ_le_succ this.2⟩
  | .lst l, 0, h => by cases h
  | .lst l, k + 1, h => by
    have := lay_pyL (l := l) (k := k) h
    exact ⟨this.1, Nat.succ_le_succ this.2⟩
  | .dic _ _, k, h => by cases k <;> cases h
  | .set _, k, h => by cases k <;> cases h
  | .fn _, k, h => by cases k <;> cases h
  | .clo _ _, k, h => by cases k <;> cases h
  | .exc _ _, k, h => by cases k <;> cases h
theorem lay_pyL : ∀ {l : List D} {k : Nat}, D.datL k l = true → PyData.canLayAll0 (toPyL l) = true ∧ PyData.depthAll (toPyL l) ≤ k
  | [], k, _ => ⟨rfl, Nat.zero_le _⟩
  | d :: l, k, m => by
    have m := and_ok m
    have h1 := lay_py m.1
    have h2 := lay_pyL m.2
    refine ⟨?_, Nat.max_le.mpr ⟨h1.2, h2.2⟩⟩
    show ((toPy d).canLay0 && PyData.canLayAll0 (toPyL l)) = true
    rw [h1.1, h2.1]; rfl
end
theorem shaped_py {d : D} (h : d.isData = true) : SeqAt.shaped (toPy d) = true := by
  have := lay_py h
  show ((toPy d).canLay0 && decide _) = true
  rw [this.1, decide_eq_true (by omega)]
  rfl
mutual
theorem eqv_py : ∀ {a b : D} {k j : Nat}, D.dat k a = true → D.dat j b = true → PyData.eqv (toPy a) (toPy b) = D.eqv a b
  | .non, b, k, j, ha, hb => by cases b <;> first | rfl | (cases j <;> cases hb)
  | .bl x, b, k, j, ha, hb => by cases b <;> first | rfl | (cases j <;> cases hb)
  | .int x, b, k, j, ha, hb => by cases b <;> first | rfl | (cases j <;> cases hb)
  | .str x, b, k, j, ha, hb => by cases b <;> first | rfl | (cases j <;> cases hb)
  | .tup l, b, 0, j, ha, hb => by cases ha
  | .tup l, b, k + 1, j, ha, hb => by
    cases b with
    | tup l' => cases j with
      | zero => cases hb
      | succ j => exact eqv_pyL ha hb
    | _ => first | rfl | (cases j <;> cases hb)
  | .lst l, b, 0, j, ha, hb => by cases ha
  | .lst l, b, k + 1, j, ha, hb => by
    cases b with
    | lst l' => cases j with
      | zero => cases hb
      | succ j => exact eqv_pyL ha hb
    | _ => first | rfl | (cases j <;> cases hb)
  | .dic _ _, b, k, j, ha, hb => by cases k <;> cases ha
  | .set _, b, k, j, ha, hb => by cases k <;> cases ha
  | .fn _, b, k, j, ha, hb => by cases k <;> cases ha
  | .clo _ _, b, k, j, ha, hb => by cases k <;> cases ha
  | .exc _ _, b, k, j, ha, hb => by cases k <;> cases ha
theorem eqv_pyL : ∀ {a b : List D} {k j : Nat}, D.datL k a = true → D.datL j b = true → PyData.eqvAll (toPyL a) (toPyL b) = D.eqvL a b
  | [], [], _, _, _, _ => rfl
  | [], _ :: _, _, _, _, _ => rfl
  | _ :: _, [], _, _, _, _ => rfl
  | x :: a, y :: b, k, j, ha, hb => by
    have ha := and_ok ha
    have hb := and_ok hb
    show (PyData.eqv (toPy x) (toPy y) && PyData.eqvAll (toPyL a) (toPyL b)) = (D.eqv x y && D.eqvL a b)
    rw [eqv_py ha.1 hb.1, eqv_pyL ha.2 hb.2]
end
theorem any_py {x : D} {j : Nat} (hx : D.dat j x = true) : ∀ {l : List D} {k : Nat}, D.datL k l = true → ((toPyL l).any fun z => PyData.eqv z (toPy x)) = l.any fun y => D.eqv y x
  | [], _, _ => rfl
  | d :: l, k, h => by
    have h := and_ok h
    show (PyData.eqv (toPy d) (toPy x) || (toPyL l).any fun z => PyData.eqv z (toPy x)) = (D.eqv d x || l.any fun y => D.eqv y x)
    rw [eqv_py h.1 hx, any_py hx h.2]
theorem shaped_pyL {l : List D} (h : isDataL l = true) : SeqAt.shaped (.list (toPyL l)) = true ∧ SeqAt.shaped (.tuple (toPyL l)) = true := by
  have := lay_pyL h
  constructor
  · show (PyData.canLayAll0 (toPyL l) && decide (PyData.depthAll (toPyL l) + 1 ≤ 64)) = true
    rw [this.1, decide_eq_true (by omega)]; rfl
  · show (PyData.canLayAll0 (toPyL l) && decide (PyData.depthAll (toPyL l) + 1 ≤ 64)) = true
    rw [this.1, decide_eq_true (by omega)]; rfl
end Eng
end

section
set_option linter.all false
set_option maxRecDepth 100000
namespace Eng
open PySem PySem.Spec PyProof.Rows
open L2 (V HO Hp St VK TE TS TA TT TI TG WX XK SqL SqT Rd upd upd_same upd_ne Key kV Mut RelV Vals Inv Cx PE PS PT PW PA PI PG PSs Takes tVar tNil tCons tOp Vis Loc Gl Room OpR R2 EP DGet DPut valV putK mixKind KV)
/-! ### keys -/
theorem keyD_inj {a b : Key} (h : keyD a = keyD b) : a = b := by
  cases a <;> cases b <;> simp [keyD] at h <;> simp [h]
theorem eqv_keyD {a b : Key} : D.eqv (keyD a) (keyD b) = decide (a = b) := by
  cases a with
  | inl i => cases b with
    | inl j =>
      show (i == j) = _
      rw [show decide ((Sum.inl i : Key) = Sum.inl j) = (i == j) from L2.key_ll i j]
    | inr t => exact (L2.key_lr i t).symm
  | inr s => cases b with
    | inl j => exact (L2.key_rl s j).symm
    | inr t =>
      show (s == t) = _
      rw [L2.key_rr s t]
      rfl
theorem eqv_keyDs : ∀ {a b : List Key}, D.eqvL (a.map keyD) (b.map keyD) = decide (a = b)
  | [], [] => rfl
  | [], _ :: _ => rfl
  | _ :: _, [] => rfl
  | x :: a, y :: b => by
    show (D.eqv (keyD x) (keyD y) && D.eqvL (a.map keyD) (b.map keyD)) = _
    rw [eqv_keyD, eqv_keyDs]
    by_cases h1 : x = y <;> by_cases h2 : a = b <;> simp [h1, h2]
theorem flatKeys : ∀ {l : List D}, l.all flatKey = true → ∃ k : List Key, l = k.map keyD
  | [], _ => ⟨[], rfl⟩
  | d :: l, h => by
    rw [List.all_cons] at h
    obtain ⟨h1, h2⟩ := and_ok h
    obtain ⟨k, e⟩ := flatKeys h2
    cases d with
    | int i => exact ⟨.inl i :: k, by rw [e]; rfl⟩
    | str s => exact ⟨.inr s :: k, by rw [e]; rfl⟩
    | _ => cases h1
section
variable {p : Par} {H : Hp}
theorem rep_keyD {k : Key} {y : V} (r : Rep p H (keyD k) y) : y = kV k := by cases k <;> exact r
theorem rep_keyDs : ∀ {k : List Key} {vs : List V}, RepL p H (k.map keyD) vs → vs = k.map kV
  | [], vs, r => r
  | x :: k, vs, ⟨v, r, e, h, t⟩ => by rw [e, rep_keyD h, rep_keyDs t]; rfl
/-- what a key's value is -/
theorem rep_key {k : D} {y : V} (r : Rep p H k y) (h : isKey k = true) : (∃ q : Key, k = keyD q ∧ y = kV q) ∨ ∃ (q : List Key) (b : Addr), k = .tup (q.map keyD) ∧ y = .ref b ∧ H b = some (.tup (q.map kV)) := by
  cases k with
  | int i => exact .inl ⟨.inl i, rfl, r⟩
  | str i => exact .inl ⟨.inr i, rfl, r⟩
  | tup l =>
    obtain ⟨q, e⟩ := flatKeys h
    subst e
    obtain ⟨b, vs, e1, e2, r⟩ := r
    have := rep_keyDs r
    subst this
    exact .inr ⟨q, b, rfl, e1, e2⟩
  | _ => cases h
end
def dgetV (k : D) : List D → List V → Option V
  | a :: ks, b :: vs => if D.eqv a k then some b else dgetV k ks vs
  | _, _ => none
theorem dgetV_k {k : Key} : ∀ {kvs : List (Key × V)}, dgetV (keyD k) (kvs.map fun p => keyD p.1) (kvs.map (·.2)) = valV kvs k
  | [] => rfl
  | q :: r => by
    show (if D.eqv (keyD q.1) (keyD k) = true then some q.2 else dgetV (keyD k) (r.map fun p => keyD p.1) (r.map (·.2))) = _
    rw [eqv_keyD]
    by_cases e : q.1 = k
    · rw [if_pos (decide_eq_true e), L2.valV_pos e]
    · rw [if_neg (by simpa using e), L2.valV_neg e, dgetV_k]
theorem dgetV_t {k : List Key} : ∀ {kvs : List (List Key × V)}, dgetV (.tup (k.map keyD)) (kvs.map fun p => .tup (p.1.map keyD)) (kvs.map (·.2)) = valV kvs k
  | [] => rfl
  | q :: r => by
    show (if D.eqvL (q.1.map keyD) (k.map keyD) = true then some q.2 else dgetV (.tup (k.map keyD)) (r.map fun p => .tup (p.1.map keyD)) (r.map (·.2))) = _
    rw [eqv_keyDs]
    by_cases e : q.1 = k
    · rw [if_pos (decide_eq_true e), L2.valV_pos e]
    · rw [if_neg (by simpa using e), L2.valV_neg e, dgetV_t]
theorem any_dgetV {k : D} : ∀ {ks : List D} {vs : List V}, vs.length = ks.length → (ks.any fun y => D.eqv y k) = (dgetV k ks vs).isSome
  | [], [], _ => rfl
  | a :: ks, b :: vs, h => by
    show (D.eqv a k || ks.any fun y => D.eqv y k) = (if D.eqv a k = true then some b else dgetV k ks vs).isSome
    rw [any_dgetV (by simpa using h)]
    cases D.eqv a k <;> rfl
theorem DicU.len {ks : List D} {vs : List V} {u : HO} (h : DicU ks vs u) : vs.length = ks.length := by
  rcases h.2 with ⟨kvs, _, e1, e2⟩ | ⟨kvs, _, e1, e2, _⟩ <;> rw [e1, e2] <;> simp
/-! ### reading -/
/-- what stands at the key y; an empty dict bears any key -/
def GetD (H : Hp) (a : Addr) (y : V) (r : Option V) : Prop := DGet H a y r ∨ (r = none ∧ Rd H a (.dK []) ∧ ∃ (b : Addr) (k : List Key), y = .ref b ∧ H b = some (.tup (k.map kV)))
theorem keyFor_ok {ks : List D} {k : D} (h : keyFor ks k = true) : isKey k = true := (and_ok h).1
theorem DicU.get {p : Par} {H : Hp} {ks : List D} {vs : List V} {u : HO} {a : Addr} {k : D} {y : V} (hu : DicU ks vs u) (hr : Rd H a u) (r : Rep p H k y) (h : keyFor ks k = true) : GetD H a y (dgetV k ks vs) := by
  obtain ⟨h1, h2⟩ := and_ok h
  rcases hu.2 with ⟨kvs, e, e1, e2⟩ | ⟨kvs, e, e1, e2, ne⟩
  · subst e e1 e2
    rcases rep_key r h1 with ⟨q, rfl, ey⟩ | ⟨q, b, rfl, ey, eb⟩
    · exact .inl (.inl ⟨kvs, q, hr, ey, dgetV_k⟩)
    · cases kvs with
      | nil => exact .inr ⟨rfl, hr, b, q, ey, eb⟩
      | cons x kvs =>
        exfalso
        obtain ⟨x1, x2⟩ := x
        cases x1 <;> cases h2
  · subst e e1 e2
    rcases rep_key r h1 with ⟨q, rfl, ey⟩ | ⟨q, b, rfl, ey, eb⟩
    · cases kvs with
      | nil => exact absurd rfl ne
      | cons x kvs => exfalso; cases q <;> cases h2
    · exact .inl (.inr ⟨kvs, q, b, hr, ey, eb, dgetV_t⟩)
theorem dk_dt {P : Program} {w : World} {h : Heap} {a : Addr} (x : h.DictOf (mixKind P w) a []) : h.DictOfH (tupleKind (mixKind P w)) a [] := by
  obtain ⟨o, es, ep, e, c, d, k, pr, nd⟩ := x
  have he : es.toList = [] := by
    cases hl : es.toList with
    | nil => rfl
    | cons z r => rw [hl] at pr; cases pr
  exact ⟨o, es, ep, e, c, d, he, (fun x hx => by simp at hx), List.nodup_nil⟩
section
variable {X : Cx} {pins : List (Addr × Obj)} {σ : L2.St} {H : Hp} {s : Shared} {a : Addr} {y v : V} {u r : Value} {o : Option V} {A : Around} {E : Value → Shared → Prop}
theorem g_getItem {Q : Value → Shared → Prop} (hu : A.units + 1 < cLine) (I : Inv X pins σ H s) (g : GetD H a y (some v)) (ry : RelV y u) (h : ∀ w' s', Inv X pins σ H s' → RelV v w' → Q w' s') :
    wpAny (model X.prog X.w) A (getItem (.ref a) u) Q E s := by
  rcases g with g | ⟨z, _⟩
  · exact L2.d_getItem hu I g ry h
  · cases z
theorem g_in {Q : Value → Shared → Prop} (hu : A.units + 1 < cLine) (I : Inv X pins σ H s) (g : GetD H a y o) (ry : RelV y u) (h : ∀ s', Inv X pins σ H s' → Q (.bool o.isSome) s') :
    wpAny (model X.prog X.w) A (compareOp .In u (.ref a)) Q E s := by
  rcases g with g | ⟨z, e, b, k, ey, eb⟩
  · exact L2.d_in hu I g ry h
  · subst z ey
    cases (show u = Value.ref b from ry)
    obtain ⟨z, hd, vs, rel, dd⟩ := L2.dk_rd I.hok e
    cases rel
    exact wpAny_in_heap (tupleKind_room_in1 hu) (L2.key_of I.hok eb) hd (dk_dt dd) (h _ (I.tok _))
theorem g_notIn {Q : Value → Shared → Prop} (hu : A.units + 1 < cLine) (I : Inv X pins σ H s) (g : GetD H a y o) (ry : RelV y u) (h : ∀ s', Inv X pins σ H s' → Q (.bool (!o.isSome)) s') :
    wpAny (model X.prog X.w) A (compareOp .NotIn u (.ref a)) Q E s := by
  rcases g with g | ⟨z, e, b, k, ey, eb⟩
  · exact L2.d_notIn hu I g ry h
  · subst z ey
    cases (show u = Value.ref b from ry)
    obtain ⟨z, hd, vs, rel, dd⟩ := L2.dk_rd I.hok e
    cases rel
    exact wpAny_notIn_heap (tupleKind_room_in1 hu) (L2.key_of I.hok eb) hd (dk_dt dd) (h _ (I.tok _))
end
end Eng
end

section
set_option linter.all false
set_option maxRecDepth 100000
namespace Eng
open PySem PySem.Spec PyProof.Rows
open L2 (V HO Hp VK TE TS TA TT TI TG WX XK SqL SqT Rd upd upd_same upd_ne Key kV Mut RelV Vals Inv Cx PE PS PT PW PA PI PG PSs Takes tVar tNil tCons tOp Vis Loc Gl Room OpR R2 EP Dp DpAll)
/-! ### comparisons -/
section
variable {p : Par} {H : Hp}
theorem ints_of : ∀ {l : List D} {ns : List Int} {vs : List V}, intsOf l = some ns → RepL p H l vs → vs = ns.map V.int
  | [], ns, vs, e, r => by cases e; exact r
  | d :: l, ns, vs, e, ⟨v, r, e1, h, t⟩ => by
    cases d with
    | int i =>
      obtain ⟨ms, e2, e3⟩ := Option.map_eq_some_iff.mp e
      subst e3 e1
      rw [ints_of e2 t, show v = V.int i from h]
      rfl
    | _ => cases e
theorem bools_of : ∀ {l : List D} {ns : List Bool} {vs : List V}, boolsOf l = some ns → RepL p H l vs → vs = ns.map V.bl
  | [], ns, vs, e, r => by cases e; exact r
  | d :: l, ns, vs, e, ⟨v, r, e1, h, t⟩ => by
    cases d with
    | bl i =>
      obtain ⟨ms, e2, e3⟩ := Option.map_eq_some_iff.mp e
      subst e3 e1
      rw [bools_of e2 t, show v = V.bl i from h]
      rfl
    | _ => cases e
theorem strs_of : ∀ {l : List D} {ns : List Str} {vs : List V}, strsOf l = some ns → RepL p H l vs → vs = ns.map V.str
  | [], ns, vs, e, r => by cases e; exact r
  | d :: l, ns, vs, e, ⟨v, r, e1, h, t⟩ => by
    cases d with
    | str i =>
      obtain ⟨ms, e2, e3⟩ := Option.map_eq_some_iff.mp e
      subst e3 e1
      rw [strs_of e2 t, show v = V.str i from h]
      rfl
    | _ => cases e
theorem ltI_lex : ∀ (a b : List Int), cmpop.ltI a b = HT.lexLt a b
  | [], [] => rfl
  | [], _ :: _ => rfl
  | _ :: _, [] => rfl
  | x :: a, y :: b => by
    show (if x = y then cmpop.ltI a b else decide (x < y)) = if x = y then HT.lexLt a b else decide (x < y)
    rw [ltI_lex]
theorem strLt_lt : ∀ (a b : List Nat), strLt a b = decide (a < b)
  | [], [] => by simp [strLt]
  | [], _ :: _ => by simp [strLt]
  | _ :: _, [] => by simp [strLt]
  | x :: a, y :: b => by
    show (if x = y then strLt a b else decide (x < y)) = _
    by_cases e : x = y
    · subst e
      rw [if_pos rfl, strLt_lt]
      simp
    · rw [if_neg e]
      simp [List.cons_lt_cons_iff, e]
end
section
variable {X : Cx}
def rDEq0 (b : Bool) : R2 := fun x y H Q => ∃ a c u w ks vs, x = .ref a ∧ y = .ref c ∧ Rd H a u ∧ DicU ks vs u ∧ ks.all flatKey = true ∧ Rd H c w ∧ DicU [] [] w ∧ Q (.bl (if b then ks.isEmpty else !ks.isEmpty)) H
theorem dic0 {P : Program} {w : World} {H : Hp} {h : Heap} {c : Addr} {u : HO} (ok : L2.HOk P w H h) (r : Rd H c u) (d : DicU [] [] u) : (c == sysModules) = false ∧ h.DictOf (L2.mixKind P w) c [] := by
  rcases d.2 with ⟨kvs, e, e1, _⟩ | ⟨kvs, e, e1, _, ne⟩
  · have : kvs = [] := by cases kvs with | nil => rfl | cons _ _ => cases e1
    subst this e
    obtain ⟨_, hd, vs, rel, dd⟩ := L2.dk_rd ok r
    cases rel
    exact ⟨hd, dd⟩
  · have : kvs = [] := by cases kvs with | nil => rfl | cons _ _ => cases e1
    exact absurd this ne
theorem dicK {P : Program} {w : World} {H : Hp} {h : Heap} {c : Addr} {u : HO} {ks : List D} {vs : List V} (ok : L2.HOk P w H h) (r : Rd H c u) (d : DicU ks vs u) (f : ks.all flatKey = true) : (c == sysModules) = false ∧ ∃ kb, kb.length = ks.length ∧ kb.length ≤ sizeLine ∧ h.DictOf (L2.mixKind P w) c kb := by
  rcases d.2 with ⟨kvs, e, e1, _⟩ | ⟨kvs, e, e1, _, ne⟩
  · subst e e1
    obtain ⟨z, hd, vs, rel, dd⟩ := L2.dk_rd ok r
    exact ⟨hd, vs, by rw [← rel.length]; simp, by rw [← rel.length]; exact z, dd⟩
  · have : kvs = [] := by cases kvs with | nil => rfl | cons _ _ => subst e1; cases f
    exact absurd this ne
theorem op_dEq0 (hu : X.A.units < cLine) : OpR X (compareOp .Eq) (rDEq0 true) := by
  intro pins s σ H x y v u Q I rx ry h
  obtain ⟨a, c, o, w, ks, vs, rfl, rfl, h1, d1, f, h2, d2, q⟩ := h
  cases rx
  cases ry
  obtain ⟨s1, kb, e, _, D1⟩ := dicK I.hok h1 d1 f
  obtain ⟨s2, D2⟩ := dic0 I.hok h2 d2
  refine PySem.W.keq_eq s1 s2 D1 D2 hu (r := true) (fun z => ?_) ⟨.bl _, H, I, rfl, ?_⟩
  · have : kb = [] := List.length_eq_zero_iff.mp z
    subst this; exact .nil
  · rw [Bool.and_true, e]
    cases ks <;> exact q
theorem op_dNe0 (hu : X.A.units < cLine) : OpR X (compareOp .NotEq) (rDEq0 false) := by
  intro pins s σ H x y v u Q I rx ry h
  obtain ⟨a, c, o, w, ks, vs, rfl, rfl, h1, d1, f, h2, d2, q⟩ := h
  cases rx
  cases ry
  obtain ⟨s1, kb, e, _, D1⟩ := dicK I.hok h1 d1 f
  obtain ⟨s2, D2⟩ := dic0 I.hok h2 d2
  refine PySem.W.keq_ne s1 s2 D1 D2 hu (r := true) (fun z => ?_) ⟨.bl _, H, I, rfl, ?_⟩
  · have : kb = [] := List.length_eq_zero_iff.mp z
    subst this; exact .nil
  · rw [Bool.and_true, e]
    cases ks <;> exact q
def rInC (K : PySem.W.Frag) (neg : Bool) : R2 := fun x y H Q => (∃ d ds, Dp K H x d ∧ (Dp K H y (.list ds) ∨ Dp K H y (.tuple ds)) ∧ SeqAt.shaped d = true ∧ SeqAt.shaped (.list ds) = true ∧ SeqAt.shaped (.tuple ds) = true ∧ Q (.bl (if neg then !ds.any fun z => PyData.eqv z d else ds.any fun z => PyData.eqv z d)) H) ∨
  (∃ a o, y = .ref a ∧ GetD H a x o ∧ Q (.bl (if neg then !o.isSome else o.isSome)) H) ∨ (∃ (c : Nat) (z : Str), x = .str ⟨#[c]⟩ ∧ y = .str z ∧ Q (.bl (if neg then !decide (c ∈ z.cps.toList) else decide (c ∈ z.cps.toList))) H)
theorem op_inC (hu : X.A.units + 70 < cLine) : OpR X (compareOp .In) (rInC X.K false) := by
  intro pins s σ H x y v u Q I rx ry h
  rcases h with ⟨d, ds, hd, he, sd, sl, st, q⟩ | ⟨a, o, rfl, g, q⟩ | ⟨c, z, h1, h2, q⟩
  · obtain ⟨as, r1⟩ := Dp.reads I d x v hd rx
    rcases he with he | he
    · obtain ⟨bs, r2⟩ := Dp.reads I _ y u he ry
      exact SeqAt.in_list_reads r2 r1 (SeqAt.canLay_of_shaped sl) (SeqAt.canLay_of_shaped sd) (room_in_shaped sd (by omega)) ⟨.bl _, H, I, rfl, q⟩
    · obtain ⟨bs, r2⟩ := Dp.reads I _ y u he ry
      exact SeqAt.in_tuple_reads r2 r1 (SeqAt.canLay_of_shaped st) (SeqAt.canLay_of_shaped sd) (room_in_shaped sd (by omega)) ⟨.bl _, H, I, rfl, q⟩
  · cases (show u = Value.ref a from ry)
    exact g_in (by omega) I g rx fun s' I' => ⟨.bl _, H, I', rfl, q⟩
  · exact L2.op_inS pins s σ H x y v u Q I rx ry ⟨c, z, h1, h2, q⟩
theorem op_notInC (hu : X.A.units + 70 < cLine) : OpR X (compareOp .NotIn) (rInC X.K true) := by
  intro pins s σ H x y v u Q I rx ry h
  rcases h with ⟨d, ds, hd, he, sd, sl, st, q⟩ | ⟨a, o, rfl, g, q⟩ | ⟨c, z, h1, h2, q⟩
  · obtain ⟨as, r1⟩ := Dp.reads I d x v hd rx
    rcases he with he | he
    · obtain ⟨bs, r2⟩ := Dp.reads I _ y u he ry
      exact SeqAt.notIn_list_reads r2 r1 (SeqAt.canLay_of_shaped sl) (SeqAt.canLay_of_shaped sd) (room_in_shaped sd (by omega)) ⟨.bl _, H, I, rfl, q⟩
    · obtain ⟨bs, r2⟩ := Dp.reads I _ y u he ry
      exact SeqAt.notIn_tuple_reads r2 r1 (SeqAt.canLay_of_shaped st) (SeqAt.canLay_of_shaped sd) (room_in_shaped sd (by omega)) ⟨.bl _, H, I, rfl, q⟩
  · cases (show u = Value.ref a from ry)
    exact g_notIn (by omega) I g rx fun s' I' => ⟨.bl _, H, I', rfl, q⟩
  · exact L2.op_notInS pins s σ H x y v u Q I rx ry ⟨c, z, h1, h2, q⟩
def rCm (K : PySem.W.Frag) : Cm → R2
  | .eq => fun x y H Q => L2.rEqD K x y H Q ∨ rDEq0 true x y H Q
  | .ne => fun x y H Q => L2.rNeD K x y H Q ∨ rDEq0 false x y H Q
  | .lt => fun x y H Q => (L2.rI0 fun i j => .bl (decide (i < j))) x y H Q ∨ (L2.rLtT K x y H Q ∨ ∃ i j, x = V.str i ∧ y = V.str j ∧ Q (.bl (decide (i.cps.toList < j.cps.toList))) H)
  | .le => L2.rI0 fun i j => .bl (decide (i ≤ j))
  | .gt => L2.rI0 fun i j => .bl (decide (j < i))
  | .ge => L2.rI0 fun i j => .bl (decide (j ≤ i))
  | .is => fun x y H Q => (y = .non ∧ Q (.bl (decide (x = .non))) H) ∨ L2.rIsB x y H Q
  | .isnot => fun x y H Q => y = .non ∧ Q (.bl (!decide (x = .non))) H
  | .isin => rInC K false
  | .notin => rInC K true
theorem op_cm (hu : X.A.units + 70 < cLine) (o : Cm) : OpR X (compareOp (cmOf o)) (rCm X.K o) := by
  cases o with
  | eq => exact (L2.op_eqD (by omega)).or (op_dEq0 (by omega))
  | ne => exact (L2.op_neD (by omega)).or (op_dNe0 (by omega))
  | lt => exact L2.op_lt.or ((L2.op_ltT (by omega)).or L2.op_lt_str)
  | le => exact L2.op_le
  | gt => exact L2.op_gt
  | ge => exact L2.op_ge
  | «is» => exact L2.op_isN.or L2.op_isBl
  | isnot => exact L2.op_notN
  | isin => exact op_inC hu
  | notin => exact op_notInC hu
end
section
variable {p : Par} {H : Hp}
theorem own_dic {n : Nat} {ks ds : List D} {u : V} {F : List Addr} (o : Own p H n (.dic ks ds) u F) : ∃ a w vs, u = .ref a ∧ Rd H a w ∧ DicU ks vs w := by
  rcases o with ⟨e, ⟨a, vs, ob, w, e1, e2, d, r⟩, _⟩ | ⟨m, a, vs, w, G, e, _, e1, e2, d, r, _⟩
  · exact ⟨a, w, vs, e1, .inr ⟨ob, e2⟩, d⟩
  · exact ⟨a, w, vs, e1, .inl e2, d⟩
theorem own_key {n : Nat} {k : D} {u : V} {F : List Addr} (o : Own p H n k u F) (h : isKey k = true) : Rep p H k u := by
  cases k with
  | lst l => cases h
  | dic l k => cases h
  | _ => exact o.1
theorem in_ok {K : PySem.W.Frag} (hK : K = p.K) (neg : Bool) {d d' : D} {b : Bool} {n n' : Nat} {u u' : V} {F F' : List Addr} {Q : VK} (h : isIn d d' = some b) (o1 : Own p H n d u F) (o2 : Own p H n' d' u' F') (q : Q (.bl (if neg then !b else b)) H) : rInC K neg u u' H Q := by
  subst hK
  unfold isIn at h
  split at h
  · rename_i l
    split at h
    · rename_i hd
      obtain ⟨h1, h2⟩ := and_ok hd
      cases h
      refine .inl ⟨toPy d, toPyL l, o1.dp h1, .inr (o2.dp (d := .tup l) (k := 60) h2), shaped_py h1, (shaped_pyL h2).1, (shaped_pyL h2).2, ?_⟩
      rw [any_py h1 h2]; exact q
    · cases h
  · rename_i l
    split at h
    · rename_i hd
      obtain ⟨h1, h2⟩ := and_ok hd
      cases h
      refine .inl ⟨toPy d, toPyL l, o1.dp h1, .inl (o2.dp (d := .lst l) (k := 60) h2), shaped_py h1, (shaped_pyL h2).1, (shaped_pyL h2).2, ?_⟩
      rw [any_py h1 h2]; exact q
    · cases h
  · rename_i ks ds
    split at h
    · rename_i hk
      cases h
      obtain ⟨a, w, vs, e1, r1, d1⟩ := own_dic o2
      refine .inr (.inl ⟨a, dgetV d ks vs, e1, d1.get r1 (own_key o1 (keyFor_ok hk)) hk, ?_⟩)
      rw [← any_dgetV d1.len]; exact q
    · cases h
  · rename_i s
    split at h
    · rename_i t
      split at h
      · rename_i c hc
        cases h
        have e : t = ⟨#[c]⟩ := by
          obtain ⟨⟨l⟩⟩ := t
          simp at hc
          rw [hc]
        subst e
        refine .inr (.inr ⟨c, s, own_str o1, own_str o2, ?_⟩)
        rw [show decide (c ∈ s.cps.toList) = s.cps.toList.contains c by simp]; exact q
      · cases h
    · cases h
  · cases h
/-- an answer, by its rule -/
theorem cm_ok {K : PySem.W.Frag} (hK : K = p.K) {o : Cm} {d d' : D} {b : Bool} {n n' : Nat} {u u' : V} {F F' : List Addr} {Q : VK} (h : cmpop o d d' = some b) (o1 : Own p H n d u F) (o2 : Own p H n' d' u' F') (q : Q (.bl b) H) : rCm K o u u' H Q := by
  subst hK
  unfold cmpop at h
  split at h
  · split at h
    · rename_i ks vs hf
      cases h
      obtain ⟨a, w, ws, e1, r1, d1⟩ := own_dic o1
      obtain ⟨a2, w2, ws2, e2, r2, d2⟩ := own_dic o2
      have : ws2 = [] := by have := d2.len; exact List.length_eq_zero_iff.mp this
      subst this
      exact .inr ⟨a, a2, w, w2, ks, ws, e1, e2, r1, d1, hf, r2, d2, q⟩
    · cases h
  · split at h
    · rename_i ks vs hf
      cases h
      obtain ⟨a, w, ws, e1, r1, d1⟩ := own_dic o1
      obtain ⟨a2, w2, ws2, e2, r2, d2⟩ := own_dic o2
      have : ws2 = [] := by have := d2.len; exact List.length_eq_zero_iff.mp this
      subst this
      exact .inr ⟨a, a2, w, w2, ks, ws, e1, e2, r1, d1, hf, r2, d2, q⟩
    · cases h
  · split at h
    · rename_i hd
      obtain ⟨h1, h2⟩ := and_ok hd
      cases h
      refine .inl ⟨_, _, o1.dp h1, o2.dp h2, shaped_py h1, shaped_py h2, ?_⟩
      rw [eqv_py h1 h2]; exact q
    · cases h
  · split at h
    · rename_i hd
      obtain ⟨h1, h2⟩ := and_ok hd
      cases h
      refine .inl ⟨_, _, o1.dp h1, o2.dp h2, shaped_py h1, shaped_py h2, ?_⟩
      rw [eqv_py h1 h2]; exact q
    · cases h
  · cases h; exact .inl ⟨_, _, own_int o1, own_int o2, q⟩
  · cases h; exact ⟨_, _, own_int o1, own_int o2, q⟩
  · cases h; exact ⟨_, _, own_int o1, own_int o2, q⟩
  · cases h; exact ⟨_, _, own_int o1, own_int o2, q⟩
  · obtain ⟨ns, e1, h⟩ := Option.bind_eq_some_iff.mp h
    obtain ⟨ms, e2, h⟩ := Option.map_eq_some_iff.mp h
    subst h
    obtain ⟨a, vs, e3, h1, r1⟩ := own_tup o1
    obtain ⟨c, ws, e4, h2, r2⟩ := own_tup o2
    have := ints_of e1 r1
    subst this
    have := ints_of e2 r2
    subst this
    exact .inr (.inl ⟨a, c, ns, ms, e3, e4, .inl (.inl h1), .inl (.inl h2), by rw [← ltI_lex]; exact q⟩)
  · cases h; exact .inr (.inr ⟨_, _, own_str o1, own_str o2, by rw [← strLt_lt]; exact q⟩)
  · cases h
    rename_i x y
    refine .inr ⟨x, y, own_bl o1, own_bl o2, ?_⟩
    rw [show decide (x = y) = (x == y) by cases x <;> cases y <;> rfl]
    exact q
  · cases h
    refine .inl ⟨own_non o2, ?_⟩
    have e : decide (u = V.non) = isNone d := by
      cases d with
      | lst l => obtain ⟨a, vs, e, _⟩ := own_lst o1; rw [e]; rfl
      | dic l k => obtain ⟨a, w, vs, e, _⟩ := own_dic o1; rw [e]; rfl
      | set l => exact o1.1.elim
      | tup l => obtain ⟨a, vs, e, _⟩ := o1.1; rw [e]; rfl
      | fn k => rw [show u = V.ref _ from o1.1]; rfl
      | clo k e => obtain ⟨a, e, _⟩ := o1.1; rw [e]; rfl
      | exc k e => obtain ⟨a, e, _⟩ := o1.1; rw [e]; rfl
      | non => rw [show u = V.non from o1.1]; rfl
      | bl b => rw [show u = V.bl b from o1.1]; rfl
      | int b => rw [show u = V.int b from o1.1]; rfl
      | str b => rw [show u = V.str b from o1.1]; rfl
    rw [e]; exact q
  · cases h
    refine ⟨own_non o2, ?_⟩
    have e : decide (u = V.non) = isNone d := by
      cases d with
      | lst l => obtain ⟨a, vs, e, _⟩ := own_lst o1; rw [e]; rfl
      | dic l k => obtain ⟨a, w, vs, e, _⟩ := own_dic o1; rw [e]; rfl
      | set l => exact o1.1.elim
      | tup l => obtain ⟨a, vs, e, _⟩ := o1.1; rw [e]; rfl
      | fn k => rw [show u = V.ref _ from o1.1]; rfl
      | clo k e => obtain ⟨a, e, _⟩ := o1.1; rw [e]; rfl
      | exc k e => obtain ⟨a, e, _⟩ := o1.1; rw [e]; rfl
      | non => rw [show u = V.non from o1.1]; rfl
      | bl b => rw [show u = V.bl b from o1.1]; rfl
      | int b => rw [show u = V.int b from o1.1]; rfl
      | str b => rw [show u = V.str b from o1.1]; rfl
    rw [e]; exact q
  · exact in_ok rfl false h o1 o2 q
  · obtain ⟨r, e, h⟩ := Option.map_eq_some_iff.mp h
    subst h
    exact in_ok rfl true e o1 o2 q
  · cases h
end
end Eng
end

section
set_option linter.all false
set_option maxRecDepth 100000
namespace Eng
open PySem PySem.Spec PyProof.Rows
open L2 (V HO Hp VK TE TS TA TT TI TG WX XK SqL SqT Rd upd upd_same upd_ne Key kV Mut RelV Vals Inv Cx PE PS PT PW PA PI PG PSs Takes tVar tNil tCons tOp Vis Loc Gl Room OpR R2 EP Dp DpAll TruR TruV)
/-! ### truth -/
section
variable {X : Cx}
def rTru (K : PySem.W.Frag) : V → Hp → (Bool → Hp → Prop) → Prop := fun x H Q => (∃ k, TruV K x H k ∧ Q k H) ∨ (∃ a w ks vs, x = .ref a ∧ Rd H a w ∧ DicU ks vs w ∧ ks.all flatKey = true ∧ Q (!ks.isEmpty) H)
theorem rTru_ok : TruR X (rTru X.K) := by
  intro pins s σ H x v Q I rx h
  rcases h with h | ⟨a, w, ks, vs, rfl, r, d, f, q⟩
  · exact L2.tru_ok pins s σ H x v Q I rx h
  · cases rx
    obtain ⟨hS, kb, e, z, m⟩ := dicK I.hok r d f
    have e2 : (!ks.isEmpty) = !kb.isEmpty := by
      cases kb <;> cases ks <;> first | rfl | cases e
    rw [e2] at q
    have := L2.line63
    exact wpAny_truthy_dict hS m (by omega) ⟨H, I.tok _, q⟩
theorem tru_own {K : PySem.W.Frag} {p : Par} {H : Hp} (hK : K = p.K) {d : D} {b : Bool} {n : Nat} {u : V} {F : List Addr} {Q : Bool → Hp → Prop} (h : truth d = some b) (o : Own p H n d u F) (q : Q b H) : rTru K u H Q := by
  subst hK
  cases d with
  | non => cases h; exact .inl ⟨false, by rw [show u = V.non from o.1]; rfl, q⟩
  | bl c => cases h; exact .inl ⟨_, by rw [show u = V.bl b from o.1]; rfl, q⟩
  | int i => cases h; exact .inl ⟨_, by rw [show u = V.int i from o.1]; rfl, q⟩
  | str s =>
    have h : (if s.cps.size ≤ SZ then some (s.cps.size != 0) else none) = some b := h
    split at h
    · rename_i hz
      cases h
      refine .inl ⟨_, ?_, q⟩
      rw [show u = V.str s from o.1]
      have : s.length ≤ sizeLine := Nat.le_trans hz SZ_le
      refine ⟨this, ?_⟩
      show (s.cps.size != 0) = ((s.cps.size : Int) != 0)
      by_cases e : s.cps.size = 0
      · rw [e]; rfl
      · have e' : ((s.cps.size : Int)) ≠ 0 := by omega
        rw [bne_iff_ne.mpr e, bne_iff_ne.mpr e']
    · cases h
  | tup l =>
    cases h
    obtain ⟨a, vs, e, h1, r⟩ := own_tup o
    subst e
    refine .inl ⟨_, .inr (.inl ⟨vs, .inl (.inl h1), ?_⟩), q⟩
    have := r.len
    cases l <;> cases vs <;> first | rfl | cases this
  | lst l =>
    cases h
    obtain ⟨a, vs, e, h1, hl⟩ := own_lstS o
    subst e
    refine .inl ⟨_, .inl ⟨vs, .inl h1, ?_⟩, q⟩
    cases l <;> cases vs <;> first | rfl | cases hl
  | dic ks ds =>
    have h : (if ks.all flatKey then some (!ks.isEmpty) else none) = some b := h
    split at h
    · rename_i hf
      cases h
      obtain ⟨a, w, vs, e, r, d⟩ := own_dic o
      exact .inr ⟨a, w, ks, vs, e, r, d, hf, q⟩
    · cases h
  | _ => cases h
theorem pt_tru {a : Expr} {ta : TE} (ha : PE X a ta) (he : plainT a = true) : PT X a (fun σ H Q => ta σ H fun x H' => rTru X.K x H' Q) := by
  refine ⟨fun pins s σ H Q I h => ?_⟩
  exact isTrue_plain (L2.thn (ha.run pins s σ H _ I h) fun v s1 ⟨x, H1, I1, r1, q1⟩ => rTru_ok pins s1 σ H1 x v Q I1 r1 q1) (plainT_ok he _)
theorem pe_notG {a : Expr} {ta : TE} {pos : Pos} (ha : PE X a ta) : PE X (.UnaryOp .Not a pos) (fun σ H Q => ta σ H fun x H' => rTru X.K x H' fun b H2 => Q (.bl (!b)) H2) := by
  refine ⟨fun pins s σ H Q I h => ?_⟩
  refine UnaryOp_ (L2.thn (ha.run pins s σ H _ I h) fun v s1 ⟨x, H1, I1, r1, q1⟩ => ?_)
  exact not_of (L2.thn (rTru_ok pins s1 σ H1 x v _ I1 r1 q1) fun b s2 ⟨H2, I2, q2⟩ => ⟨.bl (!b), H2, I2, rfl, q2⟩)
theorem pe_andG {a b : Expr} {rest : List Expr} {ta tb : TE} {pos : Pos} (ha : PE X a ta) (hb : PE X (.BoolOp .And (b :: rest) pos) tb) : PE X (.BoolOp .And (a :: b :: rest) pos) (fun σ H Q => ta σ H fun x H' => rTru X.K x H' fun k H2 => if k = true then tb σ H2 Q else Q x H2) := by
  refine ⟨fun pins s σ H Q I h => ?_⟩
  refine BoolOp_and (L2.thn (ha.run pins s σ H _ I h) fun v s1 ⟨x, H1, I1, r1, q1⟩ => ?_)
  refine L2.thn (rTru_ok pins s1 σ H1 x v _ I1 r1 q1) fun k s2 ⟨H2, I2, q2⟩ => ?_
  cases k with
  | true => exact hb.run pins s2 σ H2 Q I2 q2
  | false => exact ⟨x, H2, I2, r1, q2⟩
theorem pe_orG {a b : Expr} {rest : List Expr} {ta tb : TE} {pos : Pos} (ha : PE X a ta) (hb : PE X (.BoolOp .Or (b :: rest) pos) tb) : PE X (.BoolOp .Or (a :: b :: rest) pos) (fun σ H Q => ta σ H fun x H' => rTru X.K x H' fun k H2 => if k = true then Q x H2 else tb σ H2 Q) := by
  refine ⟨fun pins s σ H Q I h => ?_⟩
  refine BoolOp_or (L2.thn (ha.run pins s σ H _ I h) fun v s1 ⟨x, H1, I1, r1, q1⟩ => ?_)
  refine L2.thn (rTru_ok pins s1 σ H1 x v _ I1 r1 q1) fun k s2 ⟨H2, I2, q2⟩ => ?_
  cases k with
  | true => exact ⟨x, H2, I2, r1, q2⟩
  | false => exact hb.run pins s2 σ H2 Q I2 q2
end
/-! ### the value of a test -/
inductive TRes where
  | ok (b : Bool) (env : Env)
  | ex (k : Nat) (a : Option D) (env : Env)
  | bad
def tstR (v : Ev) (i : E) (env : Env) : TRes := match isPl i with
  | some k => (match (getS env k).bind fun x => truth x.1 with | some b => .ok b env | none => .bad)
  | none => match v.e i env with
    | .ok d _ env' => (match truth d with | some b => .ok b env' | none => .bad)
    | .ex c a env' => .ex c a env'
    | .bad => .bad
theorem testE_eq (v : Ev) (i : E) (env : Env) (k : Bool → Env → R) : testE v i env k = match tstR v i env with | .ok b env' => k b env' | .ex c a env' => .ex c a env' | .bad => .bad := by
  unfold testE tstR
  cases isPl i with
  | some j =>
    dsimp only
    cases (getS env j).bind fun x => truth x.1 <;> rfl
  | none =>
    dsimp only
    cases v.e i env with
    | ok d n env' => dsimp only; cases truth d <;> rfl
    | ex c a env' => rfl
    | bad => rfl
theorem testL_eq (v : Ev) (i : E) (env : Env) (k : Bool → Env → RL) : testL v i env k = match tstR v i env with | .ok b env' => k b env' | .ex c a env' => .ex c a env' | .bad => .bad := by
  unfold testL tstR
  cases isPl i with
  | some j =>
    dsimp only
    cases (getS env j).bind fun x => truth x.1 <;> rfl
  | none =>
    dsimp only
    cases v.e i env with
    | ok d n env' => dsimp only; cases truth d <;> rfl
    | ex c a env' => rfl
    | bad => rfl
theorem testF_eq (v : Ev) (i : E) (env : Env) (k : Bool → Env → F) : testF v i env k = match tstR v i env with | .ok b env' => k b env' | .ex c a env' => .ex c a env' | .bad => .bad := by
  unfold testF tstR
  cases isPl i with
  | some j =>
    dsimp only
    cases (getS env j).bind fun x => truth x.1 <;> rfl
  | none =>
    dsimp only
    cases v.e i env with
    | ok d n env' => dsimp only; cases truth d <;> rfl
    | ex c a env' => rfl
    | bad => rfl
def PTr (Γ : Gm) (W : WX) (σ : L2.St) (ts : List Tmp) (Q : Bool → Hp → Prop) : TRes → Prop
  | .ok b env => ∀ H Fs, SR Γ H env σ Fs ts → Q b H
  | .ex k a env => ∀ cls dd H Fs, SR Γ H env σ Fs ts → ExR Γ.p k a cls dd H → W cls dd σ H
  | .bad => False
def tT (v : Ev) (Γ : Gm) (W : WX) (i : E) : TT := fun σ H Q => ∃ env Fs ts, SR Γ H env σ Fs ts ∧ PTr Γ W σ ts Q (tstR v i env)
section
variable {Dw : Wd} {n : Nat} {S : Sx} {X : Cx} {Γ : Gm} {W : WX} {v : Ev} {m : Mod} {c : Nat}
theorem nt_pl {i k : _} {x : Str} {pos : Pos} (C : Ctx Dw n S X Γ W) (hi : isPl i = some k) (h : S.slot k x = true) : PT X (.Name x pos) (tT v Γ W i) := by
  refine ⟨fun pins s σ H Q I ⟨env, Fs, ts, r, q⟩ => (pt_tru (C.slot h) rfl).run pins s σ H Q I ?_⟩
  unfold tstR at q
  rw [hi] at q
  dsimp only at q
  cases hg : getS env k with
  | none => rw [hg] at q; exact q.elim
  | some y =>
    rw [hg] at q
    simp only [Option.bind_some] at q
    obtain ⟨u, hu, o⟩ := r.at_ k y.1 y.2 hg
    cases ht : truth y.1 with
    | none => rw [ht] at q; exact q.elim
    | some b =>
      rw [ht] at q
      exact ⟨u, hu, tru_own (C.K.trans C.pK.symm) ht o (q H Fs r)⟩
theorem nt_gen {i : E} {e : Expr} (C : Ctx Dw n S X Γ W) (hi : isPl i = none) (hp : plainT e = true) (h : PE X e (tE v Γ W i)) : PT X e (tT v Γ W i) := by
  refine ⟨fun pins s σ H Q I ⟨env, Fs, ts, r, q⟩ => (pt_tru h hp).run pins s σ H Q I ⟨env, Fs, ts, r, ?_⟩⟩
  unfold tstR at q
  rw [hi] at q
  dsimp only at q
  cases hr : v.e i env with
  | ok d k env' =>
    rw [hr] at q
    dsimp only at q
    intro u H' F Fs' s'
    cases ht : truth d with
    | none => rw [ht] at q; exact q.elim
    | some b =>
      rw [ht] at q
      exact tru_own (C.K.trans C.pK.symm) ht (s'.tmp _ List.mem_cons_self) (q H' Fs' s'.pop)
  | ex k a env' => rw [hr] at q; exact q
  | bad => rw [hr] at q; exact q
/-- a comparison's test -/
theorem nt_cmp {o : Cm} {a b : E} {ea eb : Expr} {pos : Pos} (C : Ctx Dw n S X Γ W) (ha : PE X ea (tO v Γ W 1 a)) (hb : PE X eb (tO v Γ W 1 b)) (hs : behindInMarks (cmOf o) eb = false) : PT X (.Compare ea [cmOf o] [eb] pos) (tT (step m v) Γ W (.cmp o a b)) := by
  refine ⟨fun pins s σ H Q I ⟨env, Fs, ts, r, q⟩ => (L2.pt_cmpR (op_cm C.un o) ha hb hs).run pins s σ H Q I ?_⟩
  have q : PTr Γ W σ ts Q (match ops v 1 [a, b] env (fun ds env => match ds with
    | [x, y] => (match cmpop o x.1 y.1 with | some k => .ok (.bl k) 9 env | none => .bad)
    | _ => .bad) with
    | .ok d _ env' => (match truth d with | some b => .ok b env' | none => .bad)
    | .ex c a env' => .ex c a env'
    | .bad => .bad) := q
  refine evL_run (Q := fun us H2 => match us with | [x, y] => rCm X.K o x y H2 (fun x H' => ∃ k, x = .bl k ∧ Q k H') | _ => False) [a, b] r ?_
  unfold ops at q
  cases hr : evL v 1 [a, b] env with
  | ok ds env' =>
    rw [hr] at q
    dsimp only at q
    intro us H' Fs' tl s' ot
    cases hp : patch env' [a, b] ds with
    | none => rw [hp] at q; exact q.elim
    | some dsP =>
      rw [hp] at q
      obtain ⟨d, n, u, F, d', n', u', F', rfl, rfl, o1, o2⟩ := opv2 ot s' hp
      dsimp only at q ⊢
      cases hc : cmpop o d d' with
      | none => rw [hc] at q; exact q.elim
      | some k =>
        rw [hc] at q
        exact cm_ok (C.K.trans C.pK.symm) hc o1 o2 ⟨k, rfl, q H' Fs' s'.tail⟩
  | ex k a env' => rw [hr] at q; exact q
  | bad => rw [hr] at q; exact q
theorem nd_cmp {o : Cm} {a b : E} {ea eb : Expr} {pos : Pos} (C : Ctx Dw n S X Γ W) (ha : PE X ea (tO v Γ W 1 a)) (hb : PE X eb (tO v Γ W 1 b)) (hs : behindInMarks (cmOf o) eb = false) : PE X (.Compare ea [cmOf o] [eb] pos) (tE (step m v) Γ W (.cmp o a b)) := by
  refine nd_op2 (c := 1) (r := rCm X.K o) (L2.pe_cmpR (op_cm C.un o) ha hb hs) (fun env => rfl) fun σ ts tl Q env Fs H d n u F d' n' u' F' s o1 o2 q => ?_
  have q : PR Γ W σ ts Q (match cmpop o d d' with | some k => .ok (.bl k) 9 env | none => .bad) := q
  cases hc : cmpop o d d' with
  | none => rw [hc] at q; exact q.elim
  | some k => rw [hc] at q; exact cm_ok (C.K.trans C.pK.symm) hc o1 o2 (resB s q)
/-! ### not, and, or -/
theorem nt_not {a : E} {e : Expr} {pos : Pos} (h : PT X e (tT v Γ W a)) : PT X (.UnaryOp .Not e pos) (tT (step m v) Γ W (.not a)) := by
  refine ⟨fun pins s σ H Q I ⟨env, Fs, ts, r, q⟩ => (L2.pt_not h).run pins s σ H Q I ⟨env, Fs, ts, r, ?_⟩⟩
  have q : PTr Γ W σ ts Q (match testE v a env (fun b env => .ok (.bl (!b)) 9 env) with
    | .ok d _ env' => (match truth d with | some b => .ok b env' | none => .bad)
    | .ex c a env' => .ex c a env'
    | .bad => .bad) := q
  rw [testE_eq] at q
  cases hr : tstR v a env with
  | ok b env' => rw [hr] at q; exact q
  | ex k x env' => rw [hr] at q; exact q
  | bad => rw [hr] at q; exact q
theorem tst_none {i : E} (h : isPl i = none) (v : Ev) (env : Env) : tstR v i env = match v.e i env with
    | .ok d _ env' => (match truth d with | some b => .ok b env' | none => .bad)
    | .ex c a env' => .ex c a env'
    | .bad => .bad := by unfold tstR; rw [h]
theorem nw_and {a b : E} {ea eb : Expr} {rest : List Expr} {pos : Pos} (hb0 : isPl b = none) (ha : PT X ea (tT v Γ W a)) (hb : PW X (.BoolOp .And (eb :: rest) pos) (tT v Γ W b)) : PW X (.BoolOp .And (ea :: eb :: rest) pos) (tT (step m v) Γ W (.and a b)) := by
  refine ⟨fun whole pins s σ H Q I ⟨env, Fs, ts, r, q⟩ => (L2.pw_and ha hb).run whole pins s σ H Q I ⟨env, Fs, ts, r, ?_⟩⟩
  have q : PTr Γ W σ ts Q (match (match isPl a with
    | some _ => testE v a env fun k env => if k then v.e b env else .ok (.bl false) 9 env
    | none => match v.e a env with
      | .ok d n env' => (match truth d with | some true => v.e b env' | some false => .ok d n env' | none => .bad)
      | r => r) with
    | .ok d _ env' => (match truth d with | some b => .ok b env' | none => .bad)
    | .ex c a env' => .ex c a env'
    | .bad => .bad) := q
  have key : ∀ env', PTr Γ W σ ts Q (match v.e b env' with
    | .ok d _ env' => (match truth d with | some b => .ok b env' | none => .bad)
    | .ex c a env' => .ex c a env'
    | .bad => .bad) → ∀ H' Fs', SR Γ H' env' σ Fs' ts → tT v Γ W b σ H' Q := fun env' q H' Fs' s' => ⟨env', Fs', ts, s', by rw [tst_none hb0]; exact q⟩
  cases hp : isPl a with
  | some j =>
    rw [hp] at q
    dsimp only at q
    rw [testE_eq] at q
    cases hr : tstR v a env with
    | ok k env' =>
      rw [hr] at q
      cases k with
      | true => exact key env' q
      | false => exact q
    | ex k x env' => rw [hr] at q; exact q
    | bad => rw [hr] at q; exact q
  | none =>
    rw [hp] at q
    rw [tst_none hp]
    dsimp only at q
    cases hr : v.e a env with
    | ok d n env' =>
      rw [hr] at q
      dsimp only at q ⊢
      cases ht : truth d with
      | none => rw [ht] at q; exact q.elim
      | some k =>
        rw [ht] at q
        cases k with
        | true => exact key env' q
        | false => dsimp only at q; rw [ht] at q; exact q
    | ex k x env' => rw [hr] at q; exact q
    | bad => rw [hr] at q; exact q
theorem nw_or {a b : E} {ea eb : Expr} {rest : List Expr} {pos : Pos} (ha0 : isPl a = none) (hb0 : isPl b = none) (ha : PT X ea (tT v Γ W a)) (hb : PW X (.BoolOp .Or (eb :: rest) pos) (tT v Γ W b)) : PW X (.BoolOp .Or (ea :: eb :: rest) pos) (tT (step m v) Γ W (.or a b)) := by
  refine ⟨fun whole pins s σ H Q I ⟨env, Fs, ts, r, q⟩ => (L2.pw_or ha hb).run whole pins s σ H Q I ⟨env, Fs, ts, r, ?_⟩⟩
  have q : PTr Γ W σ ts Q (match (match isPl a with
    | some _ => R.bad
    | none => match v.e a env with
      | .ok d n env' => (match truth d with | some false => v.e b env' | some true => .ok d n env' | none => .bad)
      | r => r) with
    | .ok d _ env' => (match truth d with | some b => .ok b env' | none => .bad)
    | .ex c a env' => .ex c a env'
    | .bad => .bad) := q
  have key : ∀ env', PTr Γ W σ ts Q (match v.e b env' with
    | .ok d _ env' => (match truth d with | some b => .ok b env' | none => .bad)
    | .ex c a env' => .ex c a env'
    | .bad => .bad) → ∀ H' Fs', SR Γ H' env' σ Fs' ts → tT v Γ W b σ H' Q := fun env' q H' Fs' s' => ⟨env', Fs', ts, s', by rw [tst_none hb0]; exact q⟩
  rw [ha0] at q
  rw [tst_none ha0]
  dsimp only at q
  cases hr : v.e a env with
  | ok d n env' =>
    rw [hr] at q
    dsimp only at q ⊢
    cases ht : truth d with
    | none => rw [ht] at q; exact q.elim
    | some k =>
      rw [ht] at q
      cases k with
      | true => dsimp only at q; rw [ht] at q; exact q
      | false => exact key env' q
  | ex k x env' => rw [hr] at q; exact q
  | bad => rw [hr] at q; exact q
/-- as values -/
theorem nd_not {a : E} {e : Expr} {pos : Pos} (C : Ctx Dw n S X Γ W) (h : PE X e (tO v Γ W 8 a)) : PE X (.UnaryOp .Not e pos) (tE (step m v) Γ W (.not a)) := by
  refine pe_mono (pe_notG h) fun σ H Q ⟨env, Fs, ts, r, q⟩ => ?_
  have q : PR Γ W σ ts Q (testE v a env (fun b env => .ok (.bl (!b)) 9 env)) := q
  rw [testE_eq] at q
  unfold tstR at q
  unfold tO
  cases hp : isPl a with
  | some j =>
    rw [hp] at q
    dsimp only at q ⊢
    cases hg : getS env j with
    | none => rw [hg] at q; exact q.elim
    | some y =>
      rw [hg] at q
      simp only [Option.bind_some] at q
      obtain ⟨u, hu, o⟩ := r.at_ j y.1 y.2 hg
      cases ht : truth y.1 with
      | none => rw [ht] at q; exact q.elim
      | some b =>
        rw [ht] at q
        exact ⟨u, hu, tru_own (C.K.trans C.pK.symm) ht o (res0 (tl := []) r q ⟨rfl, rfl, fun _ => rfl⟩)⟩
  | none =>
    rw [hp] at q
    dsimp only at q ⊢
    refine ⟨env, Fs, ts, r, ?_⟩
    cases hr : v.e a env with
    | ok d k env' =>
      rw [hr] at q
      dsimp only at q
      intro u H' F Fs' s'
      cases ht : truth d with
      | none => rw [ht] at q; exact q.elim
      | some b =>
        rw [ht] at q
        exact tru_own (C.K.trans C.pK.symm) ht (s'.tmp _ List.mem_cons_self) (res0 (tl := [_]) s' q ⟨rfl, rfl, fun _ => rfl⟩)
    | ex k x env' => rw [hr] at q; exact q
    | bad => rw [hr] at q; exact q
theorem nd_and {a b : E} {ea eb : Expr} {rest : List Expr} {pos : Pos} (C : Ctx Dw n S X Γ W) (ha0 : isPl a = none) (ha : PE X ea (tE v Γ W a)) (hb : PE X (.BoolOp .And (eb :: rest) pos) (tE v Γ W b)) : PE X (.BoolOp .And (ea :: eb :: rest) pos) (tE (step m v) Γ W (.and a b)) := by
  refine pe_mono (pe_andG ha hb) fun σ H Q ⟨env, Fs, ts, r, q⟩ => ⟨env, Fs, ts, r, ?_⟩
  have q : PR Γ W σ ts Q (match isPl a with
    | some _ => testE v a env fun k env => if k then v.e b env else .ok (.bl false) 9 env
    | none => match v.e a env with
      | .ok d n env' => (match truth d with | some true => v.e b env' | some false => .ok d n env' | none => .bad)
      | r => r) := q
  rw [ha0] at q
  dsimp only at q
  cases hr : v.e a env with
  | ok d n env' =>
    rw [hr] at q
    dsimp only at q
    intro u H' F Fs' s'
    cases ht : truth d with
    | none => rw [ht] at q; exact q.elim
    | some k =>
      rw [ht] at q
      refine tru_own (C.K.trans C.pK.symm) ht (s'.tmp _ List.mem_cons_self) ?_
      cases k with
      | true => exact ⟨env', Fs', ts, s'.pop, q⟩
      | false => exact q u H' F Fs' s'
  | ex k x env' => rw [hr] at q; exact q
  | bad => rw [hr] at q; exact q
theorem nd_or {a b : E} {ea eb : Expr} {rest : List Expr} {pos : Pos} (C : Ctx Dw n S X Γ W) (ha0 : isPl a = none) (ha : PE X ea (tE v Γ W a)) (hb : PE X (.BoolOp .Or (eb :: rest) pos) (tE v Γ W b)) : PE X (.BoolOp .Or (ea :: eb :: rest) pos) (tE (step m v) Γ W (.or a b)) := by
  refine pe_mono (pe_orG ha hb) fun σ H Q ⟨env, Fs, ts, r, q⟩ => ⟨env, Fs, ts, r, ?_⟩
  have q : PR Γ W σ ts Q (match isPl a with
    | some _ => R.bad
    | none => match v.e a env with
      | .ok d n env' => (match truth d with | some false => v.e b env' | some true => .ok d n env' | none => .bad)
      | r => r) := q
  rw [ha0] at q
  dsimp only at q
  cases hr : v.e a env with
  | ok d n env' =>
    rw [hr] at q
    dsimp only at q
    intro u H' F Fs' s'
    cases ht : truth d with
    | none => rw [ht] at q; exact q.elim
    | some k =>
      rw [ht] at q
      refine tru_own (C.K.trans C.pK.symm) ht (s'.tmp _ List.mem_cons_self) ?_
      cases k with
      | true => exact q u H' F Fs' s'
      | false => exact ⟨env', Fs', ts, s'.pop, q⟩
  | ex k x env' => rw [hr] at q; exact q
  | bad => rw [hr] at q; exact q
theorem nd_ite {t a b : E} {et ea eb : Expr} {pos : Pos} (ht : PT X et (tT v Γ W t)) (ha : PE X ea (tE v Γ W a)) (hb : PE X eb (tE v Γ W b)) : PE X (.IfExp et ea eb pos) (tE (step m v) Γ W (.ite t a b)) := by
  refine pe_mono (L2.pe_ifExp ht ha hb) fun σ H Q ⟨env, Fs, ts, r, q⟩ => ⟨env, Fs, ts, r, ?_⟩
  have q : PR Γ W σ ts Q (testE v t env fun k env => if k then v.e a env else v.e b env) := q
  rw [testE_eq] at q
  cases hr : tstR v t env with
  | ok k env' =>
    rw [hr] at q
    intro H' Fs' s'
    cases k with
    | true => exact ⟨env', Fs', ts, s', q⟩
    | false => exact ⟨env', Fs', ts, s', q⟩
  | ex k x env' => rw [hr] at q; exact q
  | bad => rw [hr] at q; exact q
end
end Eng
end

section
set_option linter.all false
set_option maxRecDepth 100000
namespace Eng
open PySem PySem.Spec PyProof.Rows
open L2 (V HO Hp VK TE TS TA TT TI TG WX XK SqL SqT Rd upd upd_same upd_ne Key kV Mut RelV Vals Inv Cx PE PS PT PW PA PI PG PSs Takes tVar tNil tCons tOp Vis Loc Gl Room OpR R2 EP Dp DpAll TruR TruV)
/-! ### several freezings -/
inductive Lk (Q : Hp → Prop) : Hp → Prop where
  | done {H} : Q H → Lk Q H
  | frz {H} (L : List Addr) (nd : L.Nodup) (mu : ∀ b ∈ L, ∃ u, H b = some u ∧ Mut (some u)) : (∀ ob, Lk Q (frzL ob L H)) → Lk Q H
theorem Lk.inv {Q : Hp → Prop} {X : Cx} {pins : List (Addr × Obj)} {σ : L2.St} {s : Shared} {H : Hp} (k : Lk Q H) (I : Inv X pins σ H s) : ∃ H', Inv X pins σ H' s ∧ Q H' := by
  induction k with
  | done q => exact ⟨_, I, q⟩
  | frz L nd mu _ ih =>
    obtain ⟨ob, I2⟩ := inv_lockL L I nd mu
    exact ih ob I2
def tLkS (t : TE) : TE := fun σ H Q => t σ H fun v H1 => Lk (Q v) H1
theorem pe_lkS {X : Cx} {e : Expr} {t : TE} (h : PE X e t) : PE X e (tLkS t) := ⟨fun pins s σ H Q I hw => L2.thn (h.run pins s σ H _ I hw) fun u s1 ⟨v, H1, I1, r1, k⟩ => by
  obtain ⟨H2, I2, q⟩ := k.inv I1
  exact ⟨v, H2, I2, r1, q⟩⟩
inductive Caps (m : Nat) : List Tmp → List Tmp → Prop where
  | nil : Caps m [] []
  | cons {t t' tl tl'} (d : t'.d = t.d) (v : t'.v = t.v) (n : t'.n = capN t.n m) (F : ∀ b ∈ t'.F, b ∈ t.F) (r : Caps m tl tl') : Caps m (t :: tl) (t' :: tl')
section
variable {Γ : Gm} {env : Env} {σ : L2.St} {Fs : Nat → List Addr} {ts : List Tmp}
theorem SR.capS {Q : Hp → Prop} {m : Nat} (hm : m < 9) : ∀ (tl acc : List Tmp) {H : Hp}, SR Γ H env σ Fs (tl ++ (acc ++ ts)) →
    (∀ H' tl', Caps m tl tl' → (∀ b, (∀ t ∈ tl, b ∉ t.F) → H' b = H b) → SR Γ H' env σ Fs (tl' ++ (acc ++ ts)) → Q H') → Lk Q H
  | [], acc, H, s, h => .done (h H [] .nil (fun _ _ => rfl) s)
  | t :: tl, acc, H, s, h => by
    obtain ⟨L, nd, mu, sub, k⟩ := SR.cap s m hm
    refine .frz L nd mu fun ob => ?_
    obtain ⟨G, gs, _, s2⟩ := k ob
    have s3 : SR Γ (frzL ob L H) env σ Fs (tl ++ ((⟨t.d, capN t.n m, t.v, G⟩ :: acc) ++ ts)) := s2.perm List.perm_middle.symm
    refine SR.capS hm tl _ s3 fun H' tl' c fr s4 => h H' (⟨t.d, capN t.n m, t.v, G⟩ :: tl') (.cons rfl rfl rfl gs c) (fun b hb => ?_) (s4.perm List.perm_middle)
    rw [fr b fun t' ht => hb t' (List.mem_cons_of_mem _ ht)]
    exact frzL_out fun z => hb t List.mem_cons_self (sub b z)
theorem Caps.mem {m : Nat} {tl tl' : List Tmp} (c : Caps m tl tl') : ∀ t' ∈ tl', ∃ t ∈ tl, t'.n = capN t.n m ∧ ∀ b ∈ t'.F, b ∈ t.F := by
  induction c with
  | nil => intro t h; cases h
  | cons d v n F r ih =>
    intro t' h
    rcases List.mem_cons.mp h with e | h
    · subst e; exact ⟨_, List.mem_cons_self, n, F⟩
    · obtain ⟨t, ht, q⟩ := ih t' h; exact ⟨t, List.mem_cons_of_mem _ ht, q⟩
theorem Caps.ds {m : Nat} {tl tl' : List Tmp} (c : Caps m tl tl') : tl'.map (·.d) = tl.map (·.d) ∧ tl'.map (·.v) = tl.map (·.v) := by
  induction c with
  | nil => exact ⟨rfl, rfl⟩
  | cons d v n F r ih => simp [d, v, ih]
/-- items joined -/
theorem SR.join {H : Hp} {m : Nat} (hm : m ≠ 9) : ∀ (tl : List Tmp), SR Γ H env σ Fs (tl ++ ts) → (∀ t ∈ tl, t.n = m ∨ t.n = 9) →
    OwnL Γ.p H m (tl.map (·.d)) (tl.map (·.v)) (tl.flatMap (·.F)) ∧ (tl.flatMap (·.F)).Nodup ∧ (∀ b ∈ tl.flatMap (·.F), (∀ i, b ∉ Fs i) ∧ (∀ u ∈ ts, b ∉ u.F) ∧ (b ∈ Γ.L0 ∨ Γ.H0 b = none) ∧ H b ≠ none)
  | [], s, h => ⟨⟨rfl, rfl⟩, List.nodup_nil, fun b hb => by cases hb⟩
  | t :: tl, s, h => by
    obtain ⟨o, nd, fr⟩ := SR.join hm tl s.pop fun t ht => h t (List.mem_cons_of_mem _ ht)
    have ot := s.tmp t List.mem_cons_self
    have pw := List.pairwise_cons.mp s.djt
    have ot' : Own Γ.p H m t.d t.v t.F := by
      rcases h t List.mem_cons_self with e | e
      · rw [← e]; exact ot
      · rw [e] at ot; exact ot.any9 m hm
    refine ⟨⟨t.v, _, t.F, _, rfl, ot', o, rfl⟩, ?_, ?_⟩
    · show (t.F ++ tl.flatMap (·.F)).Nodup
      refine List.nodup_append.mpr ⟨s.ndt t List.mem_cons_self, nd, fun x hx y hy e => ?_⟩
      subst e
      obtain ⟨u, hu, hb⟩ := List.mem_flatMap.mp hy
      exact pw.1 u (List.mem_append_left _ hu) x hx hb
    · intro b hb
      rcases List.mem_append.mp (show b ∈ t.F ++ tl.flatMap (·.F) from hb) with hb | hb
      · refine ⟨fun i => s.djm i t List.mem_cons_self b hb, fun u hu => pw.1 u (List.mem_append_right _ hu) b hb, s.frt t List.mem_cons_self b hb, fun e => ?_⟩
        have := s.tmp_mut List.mem_cons_self b hb
        rw [e] at this; exact this
      · exact fr b hb
/-- a list's cell and its items make a list -/
theorem SR.pack {H : Hp} {m : Nat} {tl : List Tmp} {p : Addr} (s : SR Γ H env σ Fs (tl ++ ts)) (hm : m < 8) (hn : ∀ t ∈ tl, t.n = m ∨ t.n = 9) (hp : H p = some (.lst (tl.map (·.v)))) (h1 : ∀ t ∈ tl, p ∉ t.F) (h2 : ∀ t ∈ ts, p ∉ t.F) (h3 : ∀ i, p ∉ Fs i) (h4 : p ∈ Γ.L0 ∨ Γ.H0 p = none) :
    SR Γ H env σ Fs (⟨.lst (tl.map (·.d)), m + 1, .ref p, p :: tl.flatMap (·.F)⟩ :: ts) := by
  obtain ⟨o, nd, fr⟩ := s.join (by omega) tl hn
  have own : Own Γ.p H (m + 1) (.lst (tl.map (·.d))) (.ref p) (p :: tl.flatMap (·.F)) := .inr ⟨m, p, _, _, rfl, by omega, rfl, hp, o, rfl⟩
  have np : p ∉ tl.flatMap (·.F) := fun h => by
    obtain ⟨u, hu, hb⟩ := List.mem_flatMap.mp h
    exact h1 u hu hb
  refine s.tail.push (t := ⟨.lst (tl.map (·.d)), m + 1, .ref p, p :: tl.flatMap (·.F)⟩) own (List.nodup_cons.mpr ⟨np, nd⟩) (fun u hu b hb hb' => ?_) (fun i b hb hb' => ?_) (fun b hb => ?_)
  · rcases List.mem_cons.mp hb with e | hb
    · subst e; exact h2 u hu hb'
    · exact (fr b hb).2.1 u hu hb'
  · rcases List.mem_cons.mp hb with e | hb
    · subst e; exact h3 i hb'
    · exact (fr b hb).1 i hb'
  · rcases List.mem_cons.mp hb with e | hb
    · subst e; exact h4
    · exact (fr b hb).2.2.1
theorem OpT.np {c : Nat} {tl : List Tmp} {es ds us} (o : OpT σ c es ds us tl) (h : es.all (fun e => (isPl e).isNone) = true) : ds = tl.map (fun t => (t.d, t.n)) ∧ us = tl.map (·.v) ∧ (∀ t ∈ tl, ∃ k, t.n = capN k c) ∧ ∀ env, patch env es ds = some ds := by
  induction o with
  | nil => exact ⟨rfl, rfl, (fun t h => by cases h), fun _ => rfl⟩
  | pl hp hu r ih => rw [List.all_cons, hp] at h; cases h
  | val hp r ih =>
    rw [List.all_cons] at h
    obtain ⟨i1, i2, i3, i4⟩ := ih (and_ok h).2
    refine ⟨by rw [i1]; rfl, by rw [i2]; rfl, fun t ht => ?_, fun env => ?_⟩
    · rcases List.mem_cons.mp ht with e | ht
      · subst e; exact ⟨_, rfl⟩
      · exact i3 t ht
    · unfold patch
      rw [hp]
      dsimp only
      rw [i4 env]
      rfl
theorem minOwn_le : ∀ {ds : List (D × Nat)} {x : D × Nat}, x ∈ ds → minOwn ds ≤ x.2
  | y :: ds, x, h => by
    show min y.2 (minOwn ds) ≤ x.2
    rcases List.mem_cons.mp h with e | h
    · subst e; exact Nat.min_le_left _ _
    · exact Nat.le_trans (Nat.min_le_right _ _) (minOwn_le h)
end
section
variable {Dw : Wd} {n : Nat} {S : Sx} {X : Cx} {Γ : Gm} {W : WX} {v : Ev} {m : Mod} {c : Nat}
/-- the items stand for themselves -/
theorem repL_tmp {H : Hp} {env : Env} {σ : L2.St} {Fs : Nat → List Addr} {ts : List Tmp} : ∀ (tl : List Tmp), SR Γ H env σ Fs (tl ++ ts) → (∀ t ∈ tl, ∃ k, t.n = capN k 0) → RepL Γ.p H (tl.map (·.d)) (tl.map (·.v))
  | [], s, h => rfl
  | t :: tl, s, h => by
    refine ⟨t.v, _, rfl, ?_, repL_tmp tl s.pop fun t ht => h t (List.mem_cons_of_mem _ ht)⟩
    obtain ⟨k, e⟩ := h t List.mem_cons_self
    refine ((s.tmp t List.mem_cons_self).rep ?_).1
    rw [e]
    unfold capN
    split
    · exact .inr rfl
    · exact .inl (by omega)
theorem flag9 {l : List D} (z : flagOf (.tup l) = 9) : D.noMutL l = true := by
  unfold flagOf at z
  split at z
  · rename_i zz; exact zz
  · omega
theorem nd_tup {is : List E} {es : List Expr} {k : Nat} {pos : Pos} (hn : is.all (fun e => (isPl e).isNone) = true) (h : PA X es (tOs v Γ W 0 is)) : PE X (.Tuple es k pos) (tE (step m v) Γ W (.tup is)) := by
  refine pe_mono (L2.pe_tup h) fun σ H Q ⟨env, Fs, ts, s, q⟩ => ?_
  have q : PR Γ W σ ts Q (ops v 0 is env fun ds env => if ds.length ≤ SZ then .ok (.tup (ds.map (·.1))) (flagOf (.tup (ds.map (·.1)))) env else .bad) := q
  refine ops_run s q fun ds dsP env' us H' Fs' tl s' o hp q' => ?_
  obtain ⟨i1, i2, i3, i4⟩ := o.np hn
  rw [i4] at hp
  cases hp
  split at q'
  · rename_i hz
    have e1 : ds.map (·.1) = tl.map (·.d) := by rw [i1]; simp
    rw [e1] at q'
    subst i2
    refine ⟨Nat.le_trans (by rw [i1] at hz; simpa using hz) SZ_le, fun p hp => resT s' q' hp (repL_tmp tl s' i3) flag9⟩
  · exact q'.elim
theorem nd_lst {is : List E} {es : List Expr} {pos : Pos} (hn : is.all (fun e => (isPl e).isNone) = true) (h : PA X es (tOs v Γ W 8 is)) : PE X (.List es pos) (tE (step m v) Γ W (.lst is)) := by
  refine pe_mono (pe_lkS (L2.pe_lst h)) fun σ H Q ⟨env, Fs, ts, s, q⟩ => ?_
  have q : PR Γ W σ ts Q (ops v 8 is env fun ds env => if ds.length ≤ SZ then .ok (.lst (ds.map (·.1))) (lstLv ds) env else .bad) := q
  refine ops_run s q fun ds dsP env' us H' Fs' tl s' o hp q' => ?_
  obtain ⟨i1, i2, i3, i4⟩ := o.np hn
  rw [i4] at hp
  cases hp
  split at q'
  · rename_i hz
    have e1 : ds.map (·.1) = tl.map (·.d) := by rw [i1]; simp
    rw [e1] at q'
    refine ⟨Nat.le_trans (by rw [i2]; rw [i1] at hz; simpa using hz) SZ_le, fun p hp => ?_⟩
    have fr := s'.free hp
    have s1 : SR Γ (upd H' p (.lst us)) env' σ Fs' (tl ++ ([] ++ ts)) := s'.new hp
    refine SR.capS (m := min (minOwn ds) 7) (by omega) tl [] s1 fun H2 tl' c st s2 => ?_
    have c2 := c.ds
    have np : ∀ t ∈ tl, p ∉ t.F := fun t ht => fr.2 t (List.mem_append_left _ ht)
    have hp2 : H2 p = some (.lst (tl'.map (·.v))) := by rw [st p np, upd_same, i2, c2.2]
    have s3 := SR.pack (tl := tl') (p := p) s2 (m := min (minOwn ds) 7) (by omega) (fun t' ht' => ?_) hp2 (fun t' ht' hb => ?_) (fun t ht => fr.2 t (List.mem_append_right _ ht)) fr.1 (s'.fresh hp)
    · rw [c2.1] at s3
      exact q' _ H2 _ Fs' s3
    · obtain ⟨t, ht, e, _⟩ := c.mem t' ht'
      have hle : minOwn ds ≤ t.n := minOwn_le (ds := ds) (x := (t.d, t.n)) (by rw [i1]; exact List.mem_map.mpr ⟨t, ht, rfl⟩)
      rw [e]
      unfold capN
      split
      · exact .inr rfl
      · exact .inl (by omega)
    · obtain ⟨t, ht, _, hF⟩ := c.mem t' ht'
      exact np t ht (hF p hb)
  · exact q'.elim
end
end Eng
end

section
set_option linter.all false
set_option maxRecDepth 100000
namespace Eng
open PySem PySem.Spec PyProof.Rows
open L2 (V HO Hp VK TE TS TA TT TI TG WX XK SqL SqT Rd upd upd_same upd_ne Key kV Mut RelV Vals Inv Cx PE PS PT PW PA PI PG PSs Takes tVar tNil tCons tOp Vis Loc Gl Room OpR R2 EP Dp DpAll TruR TruV IxR)
section
variable {X : Cx}
theorem plainIx_ok {b : Expr} (h : plainIx b = true) : L2.PlainIx b := by
  intro o i
  cases b with
  | Slice _ _ _ _ => cases h
  | _ => first | rfl | cases h
def rIxG : R2 := fun x y H Q => ∃ a v, x = .ref a ∧ GetD H a y (some v) ∧ Q v H
theorem ix_dic (hu : X.A.units + 1 < cLine) : IxR X rIxG := by
  intro value slice pins s σ H x y v u Q I rx ry h hs
  obtain ⟨a, z, rfl, g, q⟩ := h
  cases rx
  refine tail_any (T := "dict") ?_ slot_dict_getitem.lookup (g_getItem hu I g ry fun w s' I' rw => ⟨z, H, I', rw, q⟩) hs
  rcases g with g | ⟨e, _⟩
  · rcases g with ⟨kvs, k, r, _, _⟩ | ⟨kvs, k, b, r, _, _, _⟩
    · obtain ⟨_, _, vs, _, dd⟩ := L2.dk_rd I.hok r
      obtain ⟨o, es, ep, e, c, _⟩ := dd
      exact ⟨o, e, c.1⟩
    · obtain ⟨_, _, vs, _, dd⟩ := L2.dt_rd I.hok r
      obtain ⟨o, es, ep, e, c, _⟩ := dd
      exact ⟨o, e, c.1⟩
  · cases e
end
section
variable {p : Par} {H : Hp}
theorem Own.repM {n : Nat} {d : D} {v : V} {F : List Addr} (o : Own p H n d v F) (h : n = 0 ∨ d.noMut = true) : Rep p H d v := by
  rcases h with h | h
  · exact (o.rep (.inl h)).1
  · cases d with
    | lst l => cases h
    | dic l k => cases h
    | _ => exact o.1
theorem OwnL.get {m : Nat} : ∀ {l : List D} {vs : List V} {G : List Addr} {i : Nat} {d : D}, OwnL p H m l vs G → l[i]? = some d → ∃ v G', vs[i]? = some v ∧ Own p H m d v G'
  | [], _, _, _, _, _, e => by simp at e
  | x :: l, _, _, 0, d, ⟨v, r, G1, G2, e, h, t, z⟩, g => by
    simp at g; subst g; subst e; exact ⟨v, G1, rfl, h⟩
  | x :: l, _, _, i + 1, d, ⟨v, r, G1, G2, e, h, t, z⟩, g => by
    subst e
    obtain ⟨w, G', a, b⟩ := OwnL.get (i := i) t (by simpa using g)
    exact ⟨w, G', by simpa using a, b⟩
theorem own_getL {n j : Nat} {l : List D} {d : D} {u : V} {F : List Addr} (o : Own p H n (.lst l) u F) (g : l[j]? = some d) (h : n ≤ 1 ∨ d.noMut = true) : ∃ a vs v, u = .ref a ∧ Rd H a (.lst vs) ∧ vs.length = l.length ∧ vs[j]? = some v ∧ Rep p H d v := by
  rcases o with ⟨e, ⟨a, vs, ob, e1, e2, r⟩, _⟩ | ⟨m, a, vs, G, e, _, e1, e2, r, _⟩
  · obtain ⟨v, h1, h2⟩ := r.get g
    exact ⟨a, vs, v, e1, .inr ⟨ob, e2⟩, r.len, h1, h2⟩
  · obtain ⟨v, G', h1, h2⟩ := r.get g
    exact ⟨a, vs, v, e1, .inl e2, r.len, h1, h2.repM (h.imp (fun z => by omega) id)⟩
theorem dget_rep : ∀ {ks ds : List D} {vs : List V} {k d : D}, RepL p H ds vs → dget k ks ds = some d → ∃ v, dgetV k ks vs = some v ∧ Rep p H d v
  | [], _, _, _, _, _, e => by cases e
  | _ :: _, [], _, _, _, _, e => by cases e
  | a :: ks, x :: ds, _, k, d, ⟨v, r, e1, h, t⟩, e => by
    subst e1
    have e : (if D.eqv a k = true then some x else dget k ks ds) = some d := e
    show ∃ w, (if D.eqv a k = true then some v else dgetV k ks r) = some w ∧ _
    split at e
    · rename_i hk; rw [if_pos hk]; cases e; exact ⟨v, rfl, h⟩
    · rename_i hk; rw [if_neg hk]; exact dget_rep t e
theorem dget_own {m : Nat} : ∀ {ks ds : List D} {vs : List V} {G : List Addr} {k d : D}, OwnL p H m ds vs G → dget k ks ds = some d → ∃ v G', dgetV k ks vs = some v ∧ Own p H m d v G'
  | [], _, _, _, _, _, _, e => by cases e
  | _ :: _, [], _, _, _, _, _, e => by cases e
  | a :: ks, x :: ds, _, _, k, d, ⟨v, r, G1, G2, e1, h, t, z⟩, e => by
    subst e1
    have e : (if D.eqv a k = true then some x else dget k ks ds) = some d := e
    show ∃ w G', (if D.eqv a k = true then some v else dgetV k ks r) = some w ∧ _
    split at e
    · rename_i hk; rw [if_pos hk]; cases e; exact ⟨v, G1, rfl, h⟩
    · rename_i hk; rw [if_neg hk]; exact dget_own t e
theorem dget_none : ∀ {ks ds : List D} {vs : List V} {k : D}, vs.length = ds.length → dget k ks ds = none → dgetV k ks vs = none
  | [], _, _, _, _, _ => rfl
  | _ :: _, [], [], _, _, _ => rfl
  | a :: ks, x :: ds, v :: vs, k, hl, e => by
    have e : (if D.eqv a k = true then some x else dget k ks ds) = none := e
    show (if D.eqv a k = true then some v else dgetV k ks vs) = none
    split at e
    · cases e
    · rename_i hk; rw [if_neg hk]; exact dget_none (by simpa using hl) e
/-- what a dict has at a key -/
theorem own_getD {n : Nat} {ks ds : List D} {k d : D} {u y : V} {F : List Addr} (o : Own p H n (.dic ks ds) u F) (rk : Rep p H k y) (hk : keyFor ks k = true) (g : dget k ks ds = some d) (h : n ≤ 1 ∨ d.noMut = true) : ∃ a v, u = .ref a ∧ GetD H a y (some v) ∧ Rep p H d v := by
  rcases o with ⟨e, ⟨a, vs, ob, w, e1, e2, dd, r⟩, _⟩ | ⟨m, a, vs, w, G, e, _, e1, e2, dd, r, _⟩
  · obtain ⟨v, h1, h2⟩ := dget_rep r g
    exact ⟨a, v, e1, by rw [← h1]; exact dd.get (.inr ⟨ob, e2⟩) rk hk, h2⟩
  · obtain ⟨v, G', h1, h2⟩ := dget_own r g
    exact ⟨a, v, e1, by rw [← h1]; exact dd.get (.inl e2) rk hk, h2.repM (h.imp (fun z => by omega) id)⟩
theorem own_getN {n : Nat} {ks ds : List D} {k : D} {u y : V} {F : List Addr} (o : Own p H n (.dic ks ds) u F) (rk : Rep p H k y) (hk : keyFor ks k = true) (g : dget k ks ds = none) : ∃ a, u = .ref a ∧ GetD H a y none := by
  rcases o with ⟨e, ⟨a, vs, ob, w, e1, e2, dd, r⟩, _⟩ | ⟨m, a, vs, w, G, e, _, e1, e2, dd, r, _⟩
  · exact ⟨a, e1, by rw [← dget_none r.len g]; exact dd.get (.inr ⟨ob, e2⟩) rk hk⟩
  · exact ⟨a, e1, by rw [← dget_none r.len g]; exact dd.get (.inl e2) rk hk⟩
theorem own_flag {d : D} {v : V} (r : Rep p H d v) : Own p H (flagOf d) d v [] := by
  unfold flagOf
  split
  · rename_i h; exact Own.of r (.inr ⟨rfl, h⟩)
  · exact Own.of r (.inl rfl)
theorem getD'_ok {n : Nat} {d : D} {x : D × Nat} (h : getD' n d = some x) : x = (d, flagOf d) ∧ (n ≤ 1 ∨ n = 9 ∨ d.noMut = true) := by
  unfold getD' at h
  split at h
  · rename_i hh
    simp only [Bool.or_eq_true, decide_eq_true_eq, beq_iff_eq] at hh
    cases h
    refine ⟨rfl, ?_⟩
    rcases hh with (hh | hh) | hh
    · exact .inl hh
    · exact .inr (.inl hh)
    · exact .inr (.inr hh)
  · cases h
/-- an item, by its rule -/
theorem ix_ok {K : PySem.W.Frag} (hK : K = p.K) {n k : Nat} {x y d : D} {u w : V} {F G : List Addr} {Q : VK} (h : getIdx x y = some d) (hn : n ≤ 1 ∨ n = 9 ∨ d.noMut = true) (o1 : Own p H n x u F) (o2 : Own p H k y w G) (q : ∀ v, Rep p H d v → Q v H) : L2.rIx K u w H Q ∨ rIxG u w H Q := by
  subst hK
  unfold getIdx at h
  split at h
  · obtain ⟨j, e1, e2⟩ := Option.bind_eq_some_iff.mp h
    obtain ⟨a, vs, e3, h1, r⟩ := own_tup o1
    obtain ⟨v, g, rv⟩ := r.get e2
    refine .inl (.inr (.inl ⟨a, vs, _, v, e3, own_int o2, .inl (.inl h1), ?_, q v rv⟩))
    show (L2.ixN vs.length _).bind _ = _
    rw [r.len, show L2.ixN = pyIx from rfl, e1]
    exact g
  · obtain ⟨j, e1, e2⟩ := Option.bind_eq_some_iff.mp h
    have n9 : n ≠ 9 := fun e => by have := o1.flag e; cases this
    obtain ⟨a, vs, v, e3, h1, hl, g, rv⟩ := own_getL o1 e2 (hn.imp id fun z => z.elim (fun z => absurd z n9) id)
    refine .inl (.inl ⟨a, vs, _, v, e3, own_int o2, .inl h1, ?_, q v rv⟩)
    show (L2.ixN vs.length _).bind _ = _
    rw [hl, show L2.ixN = pyIx from rfl, e1]
    exact g
  · split at h
    · rename_i s i hz
      obtain ⟨j, e1, e2⟩ := Option.bind_eq_some_iff.mp h
      obtain ⟨c, e4, e3⟩ := Option.map_eq_some_iff.mp e2
      subst e3
      refine .inl (.inr (.inr ⟨s, i, c, own_str o1, own_int o2, Nat.le_trans hz SZ_le, ?_, q _ rfl⟩))
      show (L2.ixN s.cps.toList.length i).bind _ = _
      rw [show L2.ixN = pyIx from rfl, e1]
      exact e4
    · cases h
  · split at h
    · rename_i ks vs hk
      have n9 : n ≠ 9 := fun e => by have := o1.flag e; cases this
      obtain ⟨a, v, e1, g, rv⟩ := own_getD o1 (own_key o2 (keyFor_ok hk)) hk h (hn.imp id fun z => z.elim (fun z => absurd z n9) id)
      exact .inr ⟨a, v, e1, g, q v rv⟩
    · cases h
  · cases h
end
section
variable {Dw : Wd} {n : Nat} {S : Sx} {X : Cx} {Γ : Gm} {W : WX} {v : Ev} {m : Mod} {c : Nat}
theorem nd_ix {a i : E} {ea ei : Expr} {pos : Pos} (C : Ctx Dw n S X Γ W) (ha : PE X ea (tO v Γ W 1 a)) (hb : PE X ei (tO v Γ W 1 i)) (hs : plainIx ei = true) : PE X (.Subscript ea ei pos) (tE (step m v) Γ W (.ix a i)) := by
  have un := C.un
  refine nd_op2 (c := 1) (L2.pe_ix (L2.ix_seq.or (ix_dic (by omega))) ha hb (plainIx_ok hs)) (fun env => rfl) fun σ ts tl Q env Fs H d n u F d' n' u' F' s o1 o2 q => ?_
  have q : PR Γ W σ ts Q (match getIdx d d' with | some d => okO (getD' n d) env | none => .bad) := q
  cases hg : getIdx d d' with
  | none => rw [hg] at q; exact q.elim
  | some x =>
    rw [hg] at q
    dsimp only at q
    cases hd : getD' n x with
    | none => rw [hd] at q; exact q.elim
    | some y =>
      rw [hd] at q
      obtain ⟨e, hn⟩ := getD'_ok hd
      subst e
      exact ix_ok (C.K.trans C.pK.symm) hg hn o1 o2 fun w r => res0 s q (own_flag r)
end
end Eng
end

section
set_option linter.all false
set_option maxRecDepth 100000
namespace Eng
open PySem PySem.Spec PyProof.Rows
open L2 (V HO Hp VK TE TS TA TT TI TG WX XK SqL SqT Rd upd upd_same upd_ne Key kV Mut RelV Vals Inv Cx PE PS PT PW PA PI PG PSs Takes tVar tNil tCons tOp Vis Loc Gl Room OpR R2 EP Dp DpAll TruR TruV IxR CallR)
/-! ### built-ins by values -/
section
variable {X : Cx}
theorem CallR.or {f : Value} {r r' : List V → Hp → VK → Prop} (h : CallR X f r) (h' : CallR X f r') : CallR X f (fun xs H Q => r xs H Q ∨ r' xs H Q) := by
  intro pins s σ H xs us Q I rx q
  rcases q with q | q
  · exact h pins s σ H xs us Q I rx q
  · exact h' pins s σ H xs us Q I rx q
theorem call_lenD : CallR X (.builtin "len") (fun xs H Q => ∃ a kvs, xs = [V.ref a] ∧ Rd H a (.dK kvs) ∧ Q (.int kvs.length) H) := by
  intro pins s σ H xs us Q I rx h
  obtain ⟨a, kvs, rfl, r, q⟩ := h
  obtain ⟨u, rfl, ru⟩ := L2.vals1 rx
  cases ru
  exact L2.d_len I r fun t s' I' => ⟨.int _, H, I', ⟨t, rfl⟩, q⟩
theorem minI_spec : ∀ (r : List Int) (x : Int), minI x r ∈ x :: r ∧ ∀ y ∈ x :: r, minI x r ≤ y
  | [], x => ⟨by simp [minI], by simp [minI]⟩
  | z :: r, x => by
    obtain ⟨h1, h2⟩ := minI_spec r (if z < x then z else x)
    have e : minI x (z :: r) = minI (if z < x then z else x) r := rfl
    rw [e]
    constructor
    · rcases List.mem_cons.mp h1 with h | h
      · rw [h]; split <;> simp
      · simp [h]
    · intro y hy
      have h0 := h2 _ List.mem_cons_self
      rcases List.mem_cons.mp hy with h | hy
      · subst h; split at h0 <;> split <;> omega
      · rcases List.mem_cons.mp hy with h | hy
        · subst h; split at h0 <;> split <;> omega
        · exact h2 y (List.mem_cons_of_mem _ hy)
theorem maxI_spec : ∀ (r : List Int) (x : Int), maxI x r ∈ x :: r ∧ ∀ y ∈ x :: r, y ≤ maxI x r
  | [], x => ⟨by simp [maxI], by simp [maxI]⟩
  | z :: r, x => by
    obtain ⟨h1, h2⟩ := maxI_spec r (if x < z then z else x)
    have e : maxI x (z :: r) = maxI (if x < z then z else x) r := rfl
    rw [e]
    constructor
    · rcases List.mem_cons.mp h1 with h | h
      · rw [h]; split <;> simp
      · simp [h]
    · intro y hy
      have h0 := h2 _ List.mem_cons_self
      rcases List.mem_cons.mp hy with h | hy
      · subst h; split at h0 <;> split <;> omega
      · rcases List.mem_cons.mp hy with h | hy
        · subst h; split at h0 <;> split <;> omega
        · exact h2 y (List.mem_cons_of_mem _ hy)
end
section
variable {p : Par} {H : Hp}
theorem OwnL.ints {m : Nat} : ∀ {l : List D} {vs : List V} {G : List Addr} {ns : List Int}, OwnL p H m l vs G → intsOf l = some ns → vs = ns.map V.int
  | [], vs, G, ns, r, e => by cases e; exact r.1
  | d :: l, vs, G, ns, ⟨v, r, G1, G2, e1, h, t, z⟩, e => by
    cases d with
    | int i =>
      obtain ⟨ms, e2, e3⟩ := Option.map_eq_some_iff.mp e
      subst e3 e1
      rw [OwnL.ints t e2, own_int h]
      rfl
    | _ => cases e
theorem OwnL.bools {m : Nat} : ∀ {l : List D} {vs : List V} {G : List Addr} {ns : List Bool}, OwnL p H m l vs G → boolsOf l = some ns → vs = ns.map V.bl
  | [], vs, G, ns, r, e => by cases e; exact r.1
  | d :: l, vs, G, ns, ⟨v, r, G1, G2, e1, h, t, z⟩, e => by
    cases d with
    | bl i =>
      obtain ⟨ms, e2, e3⟩ := Option.map_eq_some_iff.mp e
      subst e3 e1
      rw [OwnL.bools t e2, own_bl h]
      rfl
    | _ => cases e
theorem own_ints {n : Nat} {l : List D} {u : V} {F : List Addr} {ns : List Int} (o : Own p H n (.lst l) u F) (e : intsOf l = some ns) : ∃ a, u = .ref a ∧ SqL p.K H a (ns.map V.int) := by
  rcases o with ⟨_, ⟨a, vs, ob, e1, e2, r⟩, _⟩ | ⟨m, a, vs, G, _, _, e1, e2, r, _⟩
  · rw [ints_of e r] at e2; exact ⟨a, e1, .inl (.inr ⟨ob, e2⟩)⟩
  · rw [r.ints e] at e2; exact ⟨a, e1, .inl (.inl e2)⟩
theorem own_bools {n : Nat} {l : List D} {u : V} {F : List Addr} {ns : List Bool} (o : Own p H n (.lst l) u F) (e : boolsOf l = some ns) : ∃ a, u = .ref a ∧ SqL p.K H a (ns.map V.bl) := by
  rcases o with ⟨_, ⟨a, vs, ob, e1, e2, r⟩, _⟩ | ⟨m, a, vs, G, _, _, e1, e2, r, _⟩
  · rw [bools_of e r] at e2; exact ⟨a, e1, .inl (.inr ⟨ob, e2⟩)⟩
  · rw [r.bools e] at e2; exact ⟨a, e1, .inl (.inl e2)⟩
/-- a dict whose keys are ints and texts -/
theorem DicU.flat {ks : List D} {vs : List V} {u : HO} (h : DicU ks vs u) (f : ks.all flatKey = true) : ∃ kvs : List (Key × V), u = .dK kvs ∧ ks = kvs.map (fun p => keyD p.1) ∧ vs = kvs.map (·.2) := by
  rcases h.2 with h | ⟨kvs, e, e1, e2, ne⟩
  · exact h
  · cases kvs with
    | nil => exact absurd rfl ne
    | cons x r => subst e1; cases f
theorem rep_keys {kvs : List (Key × V)} : RepL p H (kvs.map fun p => keyD p.1) (kvs.map fun kv => kV kv.1) := by
  induction kvs with
  | nil => rfl
  | cons x r ih => exact ⟨_, _, rfl, by cases x with | mk k v => cases k <;> rfl, ih⟩
theorem own_dicR {n : Nat} {ks ds : List D} {u : V} {F : List Addr} (o : Own p H n (.dic ks ds) u F) (h : shareOk (.dic ks ds) n = true) : ∃ a w vs, u = .ref a ∧ Rd H a w ∧ DicU ks vs w ∧ RepL p H ds vs := by
  have n9 : n ≠ 9 := fun e => by have := o.flag e; cases this
  rcases o with ⟨e, ⟨a, vs, ob, w, e1, e2, d, r⟩, _⟩ | ⟨m, a, vs, w, G, e, _, e1, e2, d, r, _⟩
  · exact ⟨a, w, vs, e1, .inr ⟨ob, e2⟩, d, r⟩
  · refine ⟨a, w, vs, e1, .inl e2, d, ?_⟩
    unfold shareOk at h
    simp only [Bool.or_eq_true, beq_iff_eq, decide_eq_true_eq] at h
    rcases h with (h | h) | h
    · exact absurd h n9
    · have : m = 0 := by omega
      subst this; exact r.rep0
    · exact r.repM h
end
section
variable {v : Ev} {Γ : Gm} {W : WX} {c : Nat} {H : Hp} {env : Env} {σ : L2.St} {Fs : Nat → List Addr} {ts tl : List Tmp} {Q : VK}
/-- a new dict -/
theorem resD {ks ds : List D} {vs : List V} {u : HO} {a : Addr} (s : SR Γ H env σ Fs (tl ++ ts)) (h : PR Γ W σ ts Q (.ok (.dic ks ds) 1 env)) (ha : H a = none) (d : DicU ks vs u) (r : RepL Γ.p H ds vs) : Q (.ref a) (upd H a u) := by
  have s1 : SR Γ (upd H a u) env σ Fs ts := s.tail.new ha
  have r1 : RepL Γ.p (upd H a u) ds vs := RepL.keep (fun b o e _ _ => by rw [upd_ne (L2.ne_of_none e ha)]; exact e) r
  have fr := s.tail.free ha
  have own : Own Γ.p (upd H a u) 1 (.dic ks ds) (.ref a) [a] := .inr ⟨0, a, vs, u, [], rfl, by omega, rfl, upd_same, d, ownL_0 r1, rfl⟩
  refine h _ _ [a] Fs (s1.push (t := ⟨.dic ks ds, 1, .ref a, [a]⟩) own (by simp) (fun u hu b hb hb' => ?_) (fun i b hb hb' => ?_) (fun b hb => ?_))
  · rw [List.mem_singleton.mp hb] at hb'; exact fr.2 u hu hb'
  · rw [List.mem_singleton.mp hb] at hb'; exact fr.1 i hb'
  · rw [List.mem_singleton.mp hb]; exact s.tail.fresh ha
theorem views0 {p : Par} {H : Hp} {x : D × Nat} {us : List V} (h : Views p H [x] us) : ∃ u F, us = [u] ∧ Own p H x.2 x.1 u F := by
  cases h with | cons o r => cases r; exact ⟨_, _, rfl, o⟩
/-- the simple built-ins: what they ask, what they give -/
def rBi (K : PySem.W.Frag) : B → List V → Hp → VK → Prop
  | .len => fun xs H Q => (∃ x n, xs = [x] ∧ L2.LenV K x H n ∧ Q (.int n) H) ∨ ∃ a kvs, xs = [V.ref a] ∧ Rd H a (.dK kvs) ∧ Q (.int kvs.length) H
  | .abs => fun xs H Q => ∃ i, xs = [.int i] ∧ Q (.int (if i < 0 then -i else i)) H
  | .tuple => fun xs H Q => ∃ p ys, xs = [.ref p] ∧ ((SqL K H p ys ∧ ∀ l, H l = none → Q (.ref l) (upd H l (.tup ys))) ∨ (SqT K H p ys ∧ Q (.ref p) H))
  | .list => fun xs H Q => (∃ p ys, xs = [.ref p] ∧ (SqL K H p ys ∨ SqT K H p ys) ∧ ∀ l, H l = none → Q (.ref l) (upd H l (.lst ys))) ∨ (∃ (a : Addr) (kvs : List (Key × V)), xs = [.ref a] ∧ Rd H a (.dK kvs) ∧ ∀ p, H p = none → Q (.ref p) (upd H p (.lst (kvs.map fun kv => kV kv.1))))
  | .sum => L2.rSum K
  | .min2 => fun xs H Q => ∃ i j, xs = [.int i, .int j] ∧ Q (.int (if j < i then j else i)) H
  | .max2 => fun xs H Q => ∃ i j, xs = [.int i, .int j] ∧ Q (.int (if j > i then j else i)) H
  | .any => L2.rAny K
  | .all => L2.rAll K
  | .int => fun xs H Q => (∃ i, xs = [.int i] ∧ Q (.int i) H) ∨ ∃ k, xs = [.bl k] ∧ Q (.int (if k then 1 else 0)) H
  | .str => fun xs H Q => ∃ i, xs = [.int i] ∧ i.natAbs.log2 < 1920 ∧ Q (.str (toString i)) H
  | .max => L2.rMax K
  | _ => fun _ _ _ => False
def biV : B → Value
  | .len => .builtin "len" | .abs => .builtin "abs" | .tuple => .type "tuple" | .list => .type "list" | .sum => .builtin "sum" | .min2 => .builtin "min" | .max2 => .builtin "max"
  | .any => .builtin "any" | .all => .builtin "all" | .int => .type "int" | .str => .type "str" | .max => .builtin "max" | _ => .none
theorem cr_bi {X : Cx} (hc : X.calm = true) (b : B) : CallR X (biV b) (rBi X.K b) := by
  cases b with
  | len => exact CallR.or L2.call_len call_lenD
  | abs => exact L2.call_abs
  | tuple => exact L2.call_tuple_of
  | list => exact CallR.or L2.call_list_of (L2.call_listD hc)
  | sum => exact L2.cr_sum hc
  | min2 => exact L2.call_min2 hc
  | max2 => exact L2.call_max2 hc
  | any => exact L2.cr_any hc
  | all => exact L2.cr_all hc
  | int => exact L2.call_int1
  | str => exact L2.call_str_int
  | max => exact L2.cr_max hc
  | _ => exact fun _ _ _ _ _ _ _ _ _ h => h.elim
def biS : B → Bool
  | .len | .abs | .tuple | .list | .sum | .min2 | .max2 | .any | .all | .int | .str | .max => true
  | _ => false
theorem bi_ok {K : PySem.W.Frag} (hK : K = Γ.p.K) {b : B} {ds : List (D × Nat)} {us : List V} {x : D × Nat} (hb : biS b = true) (h : bfn b ds = some x) (vw : Views Γ.p H ds us) (s : SR Γ H env σ Fs (tl ++ ts)) (q : PR Γ W σ ts Q (.ok x.1 x.2 env)) : rBi K b us H Q := by
  subst hK
  unfold bfn at h
  split at h
  · split at h
    · rename_i hz
      cases h
      obtain ⟨u, F, rfl, o⟩ := views0 vw
      refine .inl ⟨u, _, rfl, ?_, resI s q⟩
      rw [own_str o]
      exact ⟨Nat.le_trans hz SZ_le, rfl⟩
    · cases h
  · split at h
    · rename_i hf
      cases h
      obtain ⟨u, F, rfl, o⟩ := views0 vw
      obtain ⟨a, w, vs, e1, r1, d1⟩ := own_dic o
      obtain ⟨kvs, e, e2, e3⟩ := d1.flat hf
      subst e e1
      refine .inr ⟨a, kvs, rfl, r1, ?_⟩
      subst e2
      rw [List.length_map] at q
      exact resI s q
    · cases h
  · cases h
    obtain ⟨u, F, rfl, o⟩ := views0 vw
    obtain ⟨a, vs, e1, h1, r⟩ := own_tup o
    refine .inl ⟨u, _, rfl, ?_, resI s q⟩
    rw [e1]
    exact .inr ⟨vs, .inl (.inl h1), r.len.symm⟩
  · cases h
    obtain ⟨u, F, rfl, o⟩ := views0 vw
    obtain ⟨a, vs, e1, h1, r⟩ := own_lstS o
    refine .inl ⟨u, _, rfl, ?_, resI s q⟩
    rw [e1]
    exact .inl ⟨vs, .inl h1, r.symm⟩
  · cases h
    obtain ⟨u, F, rfl, o⟩ := views0 vw
    exact ⟨_, by rw [own_int o], resI s q⟩
  · split at h
    · rename_i hs
      cases h
      obtain ⟨u, F, rfl, o⟩ := views0 vw
      obtain ⟨a, vs, e1, h1, r⟩ := own_lstR o hs
      exact ⟨a, vs, by rw [e1], .inl ⟨.inl h1, fun l hl => resT s q hl r flag9⟩⟩
    · cases h
  · cases h
    obtain ⟨u, F, rfl, o⟩ := views0 vw
    obtain ⟨a, vs, e1, h1, r⟩ := own_tup o
    subst e1
    refine ⟨a, vs, rfl, .inr ⟨.inl (.inl h1), res0 s q ?_⟩⟩
    have e := o.2.1
    rw [e] at o
    exact o
  · split at h
    · rename_i hs
      cases h
      obtain ⟨u, F, rfl, o⟩ := views0 vw
      obtain ⟨a, vs, e1, h1, r⟩ := own_lstR o hs
      exact .inl ⟨a, vs, by rw [e1], .inl (.inl h1), fun l hl => resL s q hl r (.inl rfl)⟩
    · cases h
  · cases h
    obtain ⟨u, F, rfl, o⟩ := views0 vw
    obtain ⟨a, vs, e1, h1, r⟩ := own_tup o
    exact .inl ⟨a, vs, by rw [e1], .inr (.inl (.inl h1)), fun l hl => resL s q hl r (.inl rfl)⟩
  · split at h
    · rename_i hf
      cases h
      obtain ⟨u, F, rfl, o⟩ := views0 vw
      obtain ⟨a, w, vs, e1, r1, d1⟩ := own_dic o
      obtain ⟨kvs, e, e2, e3⟩ := d1.flat hf
      subst e e1 e2
      exact .inr ⟨a, kvs, rfl, r1, fun p hp => resL s q hp rep_keys (.inl rfl)⟩
    · cases h
  · cases hb
  · obtain ⟨ns, e, h⟩ := Option.map_eq_some_iff.mp h
    subst h
    obtain ⟨u, F, rfl, o⟩ := views0 vw
    obtain ⟨a, e1, r⟩ := own_ints o e
    exact ⟨a, ns, by rw [e1], r, resI s q⟩
  · cases hb
  · obtain ⟨ns, e, h⟩ := Option.bind_eq_some_iff.mp h
    obtain ⟨u, F, rfl, o⟩ := views0 vw
    obtain ⟨a, e1, r⟩ := own_ints o e
    split at h
    · cases h
    · rename_i y ms
      cases h
      refine ⟨a, _, by rw [e1], r, by simp, fun m hm hle => ?_⟩
      obtain ⟨h1, h2⟩ := maxI_spec ms y
      have : m = maxI y ms := by
        have a1 := h2 m hm
        have a2 := hle _ h1
        omega
      rw [this]
      exact resI s q
  · cases hb
  · cases h
    cases vw with | cons o1 r => cases r with | cons o2 r => cases r; exact ⟨_, _, by rw [own_int o1, own_int o2], resI s q⟩
  · cases h
    cases vw with | cons o1 r => cases r with | cons o2 r => cases r; exact ⟨_, _, by rw [own_int o1, own_int o2], resI s q⟩
  · obtain ⟨ns, e, h⟩ := Option.map_eq_some_iff.mp h
    subst h
    obtain ⟨u, F, rfl, o⟩ := views0 vw
    obtain ⟨a, e1, r⟩ := own_bools o e
    exact ⟨a, ns, by rw [e1], r, resB s q⟩
  · obtain ⟨ns, e, h⟩ := Option.map_eq_some_iff.mp h
    subst h
    obtain ⟨u, F, rfl, o⟩ := views0 vw
    obtain ⟨a, e1, r⟩ := own_bools o e
    exact ⟨a, ns, by rw [e1], r, resB s q⟩
  · cases h
    obtain ⟨u, F, rfl, o⟩ := views0 vw
    exact .inl ⟨_, by rw [own_int o], resI s q⟩
  · cases h
    obtain ⟨u, F, rfl, o⟩ := views0 vw
    exact .inr ⟨_, by rw [own_bl o], resI s q⟩
  · split at h
    · rename_i hz
      cases h
      obtain ⟨u, F, rfl, o⟩ := views0 vw
      exact ⟨_, by rw [own_int o], hz, resS s q⟩
    · cases h
  all_goals first | cases hb | cases h
end
end Eng
end

section
set_option linter.all false
set_option maxRecDepth 100000
namespace Eng
open PySem PySem.Spec PyProof.Rows
open L2 (V HO Hp VK TE TS TA TT TI TG WX XK SqL SqT Rd upd upd_same upd_ne Key kV Mut RelV Vals Inv Cx PE PS PT PW PA PI PG PSs Takes tVar tNil tCons tOp Vis Loc Gl Room OpR R2 EP Dp DpAll TruR TruV IxR CallR FnOk Sp Ends)
/-! ### calls -/
def loanL : List E → List Nat
  | .loan i :: es => i :: loanL es
  | _ :: es => loanL es
  | [] => []
/-- places are loans only -/
def loanOk : List E → Bool
  | [] => true
  | .loan i :: es => loanOk es
  | e :: es => (isPl e).isNone && loanOk es
section
variable {Γ : Gm} {H : Hp} {σ : L2.St} {c : Nat}
/-- the arguments are pending, the loaned slots given away -/
theorem OpT.args : ∀ {es : List E} {ds dsP : List (D × Nat)} {us : List V} {tl acc ts : List Tmp} {env : Env} {Fs : Nat → List Addr}, OpT σ c es ds us tl → loanOk es = true → (loanL es).Nodup →
    SR Γ H env σ Fs (tl ++ (acc ++ ts)) → patch env es ds = some dsP → ∃ as Fs', as.map (·.v) = us ∧ as.map (fun t => (t.d, t.n)) = dsP ∧ SR Γ H (dropL env es) σ Fs' (as ++ (acc ++ ts)) ∧
      (∀ i, i ∉ loanL es → getS (dropL env es) i = getS env i) := by
  intro es ds dsP us tl acc ts env Fs o
  induction o generalizing dsP acc env Fs with
  | nil => intro _ _ s hp; cases hp; exact ⟨[], Fs, rfl, rfl, s, fun _ _ => rfl⟩
  | @pl e es x ds u us tl k h hu r ih =>
    intro hl hn s hp
    unfold patch at hp
    rw [h] at hp
    dsimp only at hp
    cases hg : getS env k with
    | none => rw [hg] at hp; cases hp
    | some y =>
      rw [hg] at hp
      simp only [Option.bind_some] at hp
      obtain ⟨ds', hp', e1⟩ := Option.map_eq_some_iff.mp hp
      subst e1
      cases e with
      | loan i =>
        have hk : i = k := by simpa [isPl] using h
        subst hk
        have hn' := List.nodup_cons.mp (show (i :: loanL es).Nodup from hn)
        have hi : i < env.length := by
          have := (List.getElem?_eq_some_iff.mp hu).1
          rw [s.len]; exact this
        have s1 := s.mov (d := y.1) (n := y.2) (v := u) hg hu
        have s2 : SR Γ H (setS env i none) σ (updF Fs i []) (tl ++ ((⟨y.1, y.2, u, Fs i⟩ :: acc) ++ ts)) := s1.perm List.perm_middle.symm
        have pt : ∀ (es : List E) (ds : List (D × Nat)), i ∉ loanL es → loanOk es = true → patch (setS env i none) es ds = patch env es ds := by
          intro es
          induction es with
          | nil => intro ds _ _; cases ds <;> rfl
          | cons e es ih =>
            intro ds hi' ho
            cases ds with
            | nil => unfold patch; rfl
            | cons d ds =>
              unfold patch
              cases e with
              | loan j =>
                have : i ≠ j ∧ i ∉ loanL es := by simpa [loanL] using hi'
                show (getS (setS env i none) j).bind _ = (getS env j).bind _
                rw [getS_set hi, if_neg (Ne.symm this.1), ih ds this.2 ho]
              | bor j => cases ho
              | _ => exact congrArg (Option.map _) (ih ds hi' ho)
        obtain ⟨as, Fs', a1, a2, a3, a4⟩ := ih (env := setS env i none) hl hn'.2 s2 (by rw [pt es ds hn'.1 hl]; exact hp')
        refine ⟨⟨y.1, y.2, u, Fs i⟩ :: as, Fs', by simp [a1], by simp [a2], a3.perm List.perm_middle, fun j hj => ?_⟩
        have hj' : j ≠ i ∧ j ∉ loanL es := by simpa [loanL] using hj
        show getS (dropL (setS env i none) es) j = _
        rw [a4 j hj'.2, getS_set hi, if_neg hj'.1]
      | bor i => cases hl
      | _ => cases h
  | @val e es d n ds u us F tl h r ih =>
    intro hl hn s hp
    unfold patch at hp
    rw [h] at hp
    dsimp only at hp
    obtain ⟨ds', hp', e1⟩ := Option.map_eq_some_iff.mp hp
    subst e1
    have fin : loanOk es = true → (loanL es).Nodup → dropL env (e :: es) = dropL env es → loanL (e :: es) = loanL es → ∃ as Fs', as.map (·.v) = u :: us ∧ as.map (fun t => (t.d, t.n)) = (d, capN n c) :: ds' ∧ SR Γ H (dropL env (e :: es)) σ Fs' (as ++ (acc ++ ts)) ∧ (∀ i, i ∉ loanL (e :: es) → getS (dropL env (e :: es)) i = getS env i) := by
      intro h1 h2 h3 h4
      have s2 : SR Γ H env σ Fs (tl ++ ((⟨d, capN n c, u, F⟩ :: acc) ++ ts)) := s.perm List.perm_middle.symm
      obtain ⟨as, Fs', a1, a2, a3, a4⟩ := ih h1 h2 s2 hp'
      rw [h3, h4]
      exact ⟨⟨d, capN n c, u, F⟩ :: as, Fs', by simp [a1], by simp [a2], a3.perm List.perm_middle, a4⟩
    cases e with
    | loan i => cases h
    | bor i => cases h
    | _ => exact fin (and_ok hl).2 hn rfl rfl
/-- a call's effect: what was pending is gone, what it left is pending -/
theorem SR.called {Γ' : Gm} {H' : Hp} {env env' : Env} {σ' : L2.St} {Fs Fs' : Nat → List Addr} {as ts ps : List Tmp} (s : SR Γ H env σ Fs (as ++ ts)) (hp : Γ'.p = Γ.p) (hT : Γ'.T = Γ.T) (hH : Γ'.H0 = H) (hL : Γ'.L0 = as.flatMap (·.F)) (s' : SR Γ' H' env' σ' Fs' ps) : SR Γ H' env σ Fs (ps ++ ts) := by
  have la : ∀ b ∈ Γ'.L0, ∃ t ∈ as, b ∈ t.F := fun b hb => by rw [hL] at hb; exact List.mem_flatMap.mp hb
  have st : ∀ b o, H b = some o → b ∉ Γ'.L0 → (∀ ps, o ≠ .tbl ps) → H' b = some o := fun b o e n z => s'.keep b o (by rw [hH]; exact e) n z
  have pw := List.pairwise_append.mp s.djt
  have nslot : ∀ i b, b ∈ Fs i → b ∉ Γ'.L0 := fun i b hb hl => by
    obtain ⟨t, ht, hF⟩ := la b hl
    exact s.djm i t (List.mem_append_left _ ht) b hF hb
  have ntmp : ∀ t ∈ ts, ∀ b ∈ t.F, b ∉ Γ'.L0 := fun t ht b hb hl => by
    obtain ⟨u, hu, hF⟩ := la b hl
    exact pw.2.2 u hu t ht b hF hb
  have mut_keep : ∀ b, Mut (H b) → b ∉ Γ'.L0 → H' b = H b := fun b m n => by
    obtain ⟨u, e, mu⟩ := mut_ne m
    rw [e]
    exact st b u e n (fun ps z => by subst z; exact mu)
  have kp : ∀ b o, H b = some o → ¬ Mut (some o) → (∀ ps, o ≠ .tbl ps) → H' b = some o := fun b o e n z => st b o e (fun hl => by
    obtain ⟨t, ht, hF⟩ := la b hl
    have := s.tmp_mut (List.mem_append_left _ ht) b hF
    rw [e] at this; exact n this) z
  have old : ∀ b, (∀ i, b ∉ Fs i) ∧ (∀ t ∈ ts, b ∉ t.F) ∨ Mut (H b) := fun b => by
    by_cases hm : Mut (H b)
    · exact .inr hm
    · exact .inl ⟨fun i hb => hm (s.slot_mut i b hb), fun t ht hb => hm (s.tmp_mut (List.mem_append_right _ ht) b hb)⟩
  have pin : ∀ t ∈ ps, ∀ b ∈ t.F, b ∈ Γ'.L0 ∨ H b = none := fun t ht b hb => by
    have := s'.frt t ht b hb
    rw [hH] at this; exact this
  have pslot : ∀ t ∈ ps, ∀ b ∈ t.F, ∀ i, b ∉ Fs i := fun t ht b hb i hi => by
    rcases pin t ht b hb with h | h
    · exact nslot i b hi h
    · have := s.slot_mut i b hi; rw [h] at this; exact this
  have ptmp : ∀ t ∈ ps, ∀ b ∈ t.F, ∀ u ∈ ts, b ∉ u.F := fun t ht b hb u hu hu' => by
    rcases pin t ht b hb with h | h
    · exact ntmp u hu b hu' h
    · have := s.tmp_mut (List.mem_append_right _ hu) b hu'; rw [h] at this; exact this
  have fr0 : ∀ b ∈ Γ'.L0, b ∈ Γ.L0 ∨ Γ.H0 b = none := fun b hb => by
    obtain ⟨t, ht, hF⟩ := la b hb
    exact s.frt t (List.mem_append_left _ ht) b hF
  refine ⟨s.len, fun i d n e => ?_, s.non, fun t ht => ?_, s.nds, fun t ht => ?_, s.djs, List.pairwise_append.mpr ⟨s'.djt, pw.2.1, fun t ht u hu b hb hb' => ptmp t ht b hb u hu hb'⟩, fun i t ht b hb => ?_, s.frs, fun t ht b hb => ?_, fun b o e n z => ?_, ?_, fun b qs e => ?_, s.pin⟩
  · obtain ⟨v, h1, h2⟩ := s.at_ i d n e
    exact ⟨v, h1, Own.keep kp (fun b hb => mut_keep b (s.slot_mut i b hb) (nslot i b hb)) h2⟩
  · rcases List.mem_append.mp ht with ht | ht
    · have := s'.tmp t ht; rw [hp] at this; exact this
    · exact Own.keep kp (fun b hb => mut_keep b (s.tmp_mut (List.mem_append_right _ ht) b hb) (ntmp t ht b hb)) (s.tmp t (List.mem_append_right _ ht))
  · rcases List.mem_append.mp ht with ht | ht
    · exact s'.ndt t ht
    · exact s.ndt t (List.mem_append_right _ ht)
  · rcases List.mem_append.mp ht with ht | ht
    · exact pslot t ht b hb i
    · exact s.djm i t (List.mem_append_right _ ht) b hb
  · rcases List.mem_append.mp ht with ht | ht
    · rcases pin t ht b hb with h | h
      · exact fr0 b h
      · exact s.fresh h
    · exact s.frt t (List.mem_append_right _ ht) b hb
  · refine st b o (s.keep b o e n z) (fun hl => ?_) z
    rcases fr0 b hl with h | h
    · exact n h
    · rw [e] at h; cases h
  · have := s'.tabs; rw [hT] at this; exact this
  · obtain ⟨q, z⟩ := s.tbk b qs e
    exact s'.tbk b q (by rw [hH]; exact z)
/-- what the callee left in the loaned slots -/
def outT (env' : Env) (σ' : L2.St) (Fs' : Nat → List Addr) (io : List Nat) : List E → Nat → List Tmp
  | .loan _ :: es, j => (if j ∈ io then (match getS env' j, σ'[j]? with | some (d, n), some (some v) => [⟨d, n, v, Fs' j⟩] | _, _ => []) else []) ++ outT env' σ' Fs' io es (j + 1)
  | _ :: es, j => outT env' σ' Fs' io es (j + 1)
  | [], _ => []
theorem outT_congr {env1 env2 : Env} {σ' : L2.St} {F1 F2 : Nat → List Addr} {io : List Nat} : ∀ (es : List E) (j : Nat), (∀ k, j ≤ k → getS env1 k = getS env2 k ∧ F1 k = F2 k) → outT env1 σ' F1 io es j = outT env2 σ' F2 io es j
  | [], _, _ => rfl
  | e :: es, j, h => by
    have ih := outT_congr (σ' := σ') (io := io) es (j + 1) fun k hk => h k (by omega)
    have h0 := h j (Nat.le_refl _)
    cases e with
    | loan i =>
      show _ ++ _ = _ ++ _
      rw [ih, h0.1, h0.2]
    | _ => exact ih
theorem SR.outs {Γ' : Gm} {H' : Hp} {σ' : L2.St} {io : List Nat} : ∀ (es : List E) (j : Nat) {env' : Env} {Fs' : Nat → List Addr} {acc : List Tmp}, SR Γ' H' env' σ' Fs' acc →
    ∃ env'' Fs'', SR Γ' H' env'' σ' Fs'' (outT env' σ' Fs' io es j ++ acc)
  | [], _, env', Fs', acc, s => ⟨env', Fs', s⟩
  | e :: es, j, env', Fs', acc, s => by
    cases e with
    | loan i =>
      show ∃ env'' Fs'', SR Γ' H' env'' σ' Fs'' (((if j ∈ io then (match getS env' j, σ'[j]? with | some (d, n), some (some v) => [⟨d, n, v, Fs' j⟩] | _, _ => []) else []) ++ outT env' σ' Fs' io es (j + 1)) ++ acc)
      split
      · cases hg : getS env' j with
        | none =>
          dsimp only
          exact SR.outs es (j + 1) s
        | some y =>
          obtain ⟨v, hv, _⟩ := s.at_ j y.1 y.2 hg
          have hj : j < env'.length := by rw [s.len]; exact (List.getElem?_eq_some_iff.mp hv).1
          rw [hv]
          dsimp only
          have s1 := s.mov (d := y.1) (n := y.2) hg hv
          obtain ⟨env'', Fs'', s2⟩ := SR.outs es (j + 1) s1
          rw [outT_congr (env2 := env') (F2 := Fs') es (j + 1) (fun k hk => ⟨by rw [getS_set hj, if_neg (by omega)], by unfold updF; rw [if_neg (by omega)]⟩)] at s2
          exact ⟨env'', Fs'', s2.perm List.perm_middle⟩
      · exact SR.outs es (j + 1) s
    | _ => exact SR.outs es (j + 1) s
theorem SR.putBack {H' : Hp} {env' : Env} {σ' : L2.St} {Fs' : Nat → List Addr} {io : List Nat} {outs : List (Nat × Option (D × Nat))} (ho : ∀ j, (outs.lookup j).join = if j ∈ io then getS env' j else none) : ∀ (es : List E) (j : Nat) {env : Env} {Fs : Nat → List Addr} {ts : List Tmp},
    (∀ (k i : Nat), es[k]? = some (E.loan i) → ∃ V, σ[i]? = some (some V) ∧ (j + k ∈ io → σ'[j + k]? = some (some V))) → SR Γ H' env σ Fs (outT env' σ' Fs' io es j ++ ts) → ∃ Fs'', SR Γ H' (takeOuts env es j outs) σ Fs'' ts
  | [], j, env, Fs, ts, _, s => ⟨Fs, s⟩
  | e :: es, j, env, Fs, ts, h, s => by
    have h' : ∀ (k i : Nat), es[k]? = some (E.loan i) → ∃ V, σ[i]? = some (some V) ∧ (j + 1 + k ∈ io → σ'[j + 1 + k]? = some (some V)) := fun k i e1 => by
      have := h (k + 1) i (by simpa using e1)
      rw [show j + (k + 1) = j + 1 + k by omega] at this
      exact this
    cases e with
    | loan i =>
      obtain ⟨V, hV, hio⟩ := h 0 i rfl
      rw [Nat.add_zero] at hio
      show ∃ Fs'', SR Γ H' (takeOuts (match (outs.lookup j).join with | some x => setS env i (some x) | none => env) es (j + 1) outs) σ Fs'' ts
      have s : SR Γ H' env σ Fs (((if j ∈ io then (match getS env' j, σ'[j]? with | some (d, n), some (some v) => [⟨d, n, v, Fs' j⟩] | _, _ => []) else []) ++ outT env' σ' Fs' io es (j + 1)) ++ ts) := s
      rw [ho j]
      by_cases hj : j ∈ io
      · rw [if_pos hj] at s ⊢
        rw [hio hj] at s
        cases hg : getS env' j with
        | none => rw [hg] at s; exact SR.putBack ho es (j + 1) h' s
        | some y =>
          rw [hg] at s
          dsimp only at s ⊢
          exact SR.putBack ho es (j + 1) h' (s.back (t := ⟨y.1, y.2, V, Fs' j⟩) (List.getElem?_eq_some_iff.mp hV).1 hV)
      · rw [if_neg hj] at s ⊢
        exact SR.putBack ho es (j + 1) h' s
    | _ => exact SR.putBack ho es (j + 1) h' s
theorem OpT.at_ {es : List E} {ds us tl} (o : OpT σ c es ds us tl) : ∀ (k i : Nat), es[k]? = some (E.loan i) → ∃ V, us[k]? = some V ∧ σ[i]? = some (some V) := by
  induction o with
  | nil => intro k i h; simp at h
  | pl hp hu r ih =>
    intro k i h
    cases k with
    | zero => simp at h; subst h; simp [isPl] at hp; subst hp; exact ⟨_, rfl, hu⟩
    | succ k => exact ih k i (by simpa using h)
  | val hp r ih =>
    intro k i h
    cases k with
    | zero => simp at h; subst h; cases hp
    | succ k => exact ih k i (by simpa using h)
end
/-! ### what a def promises -/
/-- the slots that are handed back keep their objects -/
def pinsOf (io : List Nat) (vs : List V) : List (Nat × V) := io.filterMap fun i => (vs[i]?).map fun v => (i, v)
def gmOf (p : Par) (T : List (Addr × Str)) (H : Hp) (as : List Tmp) (io : List Nat) : Gm := { p := p, T := T, H0 := H, L0 := as.flatMap (·.F), pin := pinsOf io (as.map (·.v)) }
def RCP (p : Par) (T : List (Addr × Str)) (H : Hp) (as : List Tmp) (io : List Nat) (Q : VK) (E : XK) : RC → Prop
  | .ok d n outs => ∀ u H' F env' σ' Fs', SR (gmOf p T H as io) H' env' σ' Fs' [⟨d, n, u, F⟩] → outs = io.map (fun i => (i, getS env' i)) → Q u H'
  | .ex k a => ∀ cls dd H' env' σ' Fs', SR (gmOf p T H as io) H' env' σ' Fs' [] → ExR p k a cls dd H' → E cls dd H'
  | .bad => False
def spSim (v : Ev) (p : Par) (T : List (Addr × Str)) (k : Nat) (f : Fn) : Sp := fun vs H Q E => ∃ as : List Tmp, as.map (·.v) = vs ∧ as.length = f.npar ∧ (∀ t ∈ as, Own p H t.n t.d t.v t.F) ∧ (as.flatMap (·.F)).Nodup ∧ LamX.Tabs T H ∧
  RCP p T H as f.inout Q E (v.cl k (as.map fun t => (t.d, t.n)))
theorem lookup_io {env' : Env} : ∀ (io : List Nat) (j : Nat), ((io.map fun i => (i, getS env' i)).lookup j).join = if j ∈ io then getS env' j else none
  | [], j => rfl
  | i :: io, j => by
    show (List.lookup j ((i, getS env' i) :: _)).join = _
    rw [List.lookup_cons]
    by_cases h : j = i
    · subst h; simp
    · rw [show (j == i) = false by simpa using h]
      dsimp only
      rw [lookup_io io j]
      simp [h]
section
variable {Dw : Wd} {n : Nat} {S : Sx} {X : Cx} {Γ : Gm} {W : WX} {v : Ev} {m : Mod} {c : Nat}
theorem flat_nodup {H : Hp} {env : Env} {σ : L2.St} {Fs : Nat → List Addr} {ts : List Tmp} : ∀ (as : List Tmp), SR Γ H env σ Fs (as ++ ts) → (as.flatMap (·.F)).Nodup
  | [], _ => List.nodup_nil
  | t :: as, s => by
    have pw := List.pairwise_cons.mp s.djt
    refine List.nodup_append.mpr ⟨s.ndt t List.mem_cons_self, flat_nodup as s.pop, fun x hx y hy e => ?_⟩
    subst e
    obtain ⟨u, hu, hb⟩ := List.mem_flatMap.mp hy
    exact pw.1 u (List.mem_append_left _ hu) x hx hb
/-- a call: from the state at the arguments to the promise -/
theorem call_sim {k : Nat} {f : Fn} {es : List E} {env : Env} {σ : L2.St} {H : Hp} {Q : VK} {Fs : Nat → List Addr} {ts : List Tmp} (hl : loanOk es = true) (hn : (loanL es).Nodup) (hlen : es.length = f.npar) (s : SR Γ H env σ Fs ts)
    (q : PR Γ W σ ts Q (ops v 7 es env fun ds env => match v.cl k ds with
      | .ok d n outs => .ok d n (takeOuts (dropL env es) es 0 outs)
      | .ex c a => .ex c a (dropL env es)
      | .bad => .bad)) : tOs v Γ W 7 es σ H fun vs H1 => spSim v Γ.p Γ.T k f vs H1 Q (fun cls dd H2 => W cls dd σ H2) := by
  refine ops_run s q fun ds dsP env' us H' Fs' tl s' o hp q' => ?_
  obtain ⟨as, Fs2, a1, a2, s2, _⟩ := o.args (acc := []) hl hn s' hp
  have s2 : SR Γ H' (dropL env' es) σ Fs2 (as ++ ts) := s2
  refine ⟨as, a1, ?_, fun t ht => s2.tmp t (List.mem_append_left _ ht), flat_nodup as s2, s2.tabs, ?_⟩
  · have := congrArg List.length a1
    rw [List.length_map] at this
    rw [this, o.len, hlen]
  · rw [a2]
    cases hc : v.cl k dsP with
    | ok d n outs =>
      rw [hc] at q'
      intro u H2 F env2 σ2 Fs3 s3 ho
      obtain ⟨env4, Fs4, s4⟩ := SR.outs (io := f.inout) es 0 s3
      have s5 := s2.called (Γ' := gmOf Γ.p Γ.T H' as f.inout) rfl rfl rfl rfl s4
      have s6 : SR Γ H2 (dropL env' es) σ Fs2 (outT env2 σ2 Fs3 f.inout es 0 ++ (⟨d, n, u, F⟩ :: ts)) := by
        rw [List.append_assoc] at s5; exact s5
      obtain ⟨Fs5, s7⟩ := SR.putBack (env' := env2) (σ' := σ2) (Fs' := Fs3) (io := f.inout) (outs := outs) (fun j => by rw [ho]; exact lookup_io _ j) es 0 (fun k i e => by
        obtain ⟨V, h1, h2⟩ := o.at_ k i e
        refine ⟨V, h2, fun hk => ?_⟩
        rw [Nat.zero_add] at hk ⊢
        refine s3.pin (k, V) ?_
        show (k, V) ∈ pinsOf f.inout (as.map (·.v))
        rw [a1]
        exact List.mem_filterMap.mpr ⟨k, hk, by rw [h1]; rfl⟩) s6
      exact q' u H2 F Fs5 s7
    | ex k a =>
      rw [hc] at q'
      intro cls dd H2 env2 σ2 Fs3 s3 x
      exact q' cls dd H2 Fs2 (s2.called (Γ' := gmOf Γ.p Γ.T H' as f.inout) rfl rfl rfl rfl s3) x
    | bad => rw [hc] at q'; exact q'
end
end Eng
end

section
set_option linter.all false
set_option maxRecDepth 100000
set_option maxHeartbeats 1000000
namespace Eng
open PySem PySem.Spec PyProof.Rows LamX
open L2 (cloFrom closure_ok V HO Hp VK TE TS TA TT TI TG WX XK SqL SqT Rd upd upd_same upd_ne ne_of_none Key kV Mut RelV Vals Inv Cx PE PS PT PW PA PI PG PSs tVar tNil tCons tOp Vis Loc Gl Room FnScope cxOf Env0 frs ld_glob pe_var thn Passes CR)
/-! ### a lambda handed to a def: what stays, exceptions whose context is None -/
/-- what a call of a def leaves as it was -/
structure Kp (T : List (Addr × Str)) (H H1 : Hp) : Prop where
  ext : ExtN H H1
  tabs : Tabs T H1
  tbk : ∀ b ps, H b = some (.tbl ps) → ∃ ps', H1 b = some (.tbl ps')
theorem Kp.refl {T : List (Addr × Str)} {H : Hp} (t : Tabs T H) : Kp T H H := ⟨.refl H, t, fun b ps e => ⟨ps, e⟩⟩
theorem Kp.trans {T : List (Addr × Str)} {H H1 H2 : Hp} (a : Kp T H H1) (b : Kp T H1 H2) : Kp T H H2 := ⟨a.ext.trans b.ext, b.tabs, fun c ps e => by
  obtain ⟨q, z⟩ := a.tbk c ps e
  exact b.tbk c q z⟩
section
variable {X : Cx} {pins : List (Addr × Obj)} {σ : L2.St} {H : Hp} {s : Shared}
/-- a lambda comes to be: its code object is new, or the table holds it -/
theorem lamNew {T : List (Addr × Str)} {c P : Addr} {pa : Arguments} {bd : Expr} {sc : Scope} {ps : Pos} {E : Value → Shared → Prop} {R : Value → Shared → Prop} (I : Inv X pins σ H s) (TB : TabB X.base X.mg c P) (hcd : X.env.code = .ref c)
    (hmem : (P, X.env.qual ++ "<lambda>") ∈ T) (huq : ∀ p ∈ T, p.1 = P → p.2 = X.env.qual ++ "<lambda>") (hTT : Tabs T H) (hdf : defaultsOf pa X.env = ([], [])) (hfr : ∀ y ∈ sc.names, y.2 = .free → ∃ c, X.env.cells.lookup y.1 = some c)
    (cont : ∀ (f k : Addr) (pm ct : Value) (H1 : Hp) (s1 : Shared), Inv X pins σ H1 s1 → Kp T H H1 →
      s1.heap.get? f = some (PySem.W.kla_obj "<lambda>" (X.env.qual ++ "<lambda>") pa bd sc (cloFrom X.env.cells sc.names []) pm k ct) → H1 f = none → f ∉ frs X.stack → H1 k = some (CodeO k (X.env.qual ++ "<lambda>")) → R (.ref f) s1) :
    wpAny (model X.prog X.w) X.A (eval (.Lambda pa bd sc ps) X.env) R E s := by
  obtain ⟨tb, eP, trp, tall⟩ := hTT _ hmem
  have eP : H P = some (.tbl tb) := eP
  refine PySem.W.kla_eval hdf ?_
  have atP : s.heap.get? P = some { cls := .none, data := .fields tb } := I.hok P _ eP
  have offF : ∀ f, s.heap.objs.size ≤ f → f ∉ frs X.stack := fun f big z => by
    rcases List.mem_cons.mp (I.stkSub _ z) with e | e
    · have := I.lt
      rw [← e] at this
      exact absurd (Nat.lt_of_lt_of_le this big) (Nat.lt_irrefl _)
    · exact I.nofs big e
  cases look : codeAmong ps tb.toList with
  | some cv =>
    obtain ⟨k, e, hk⟩ := tall ps cv look
    subst e
    refine PySem.W.kla_makeFunctionHit (mg := X.mg) (c := c) (P := P) (ps := tb) (closure_ok hfr) I.ok.glob (I.mod.glob.keeps I.bk) hcd (TB.code.keeps I.bk) atP trp look (TB.bm.keeps I.bk) fun ct h' tk stays big => ?_
    have I1 : Inv X pins σ H { s with heap := h'.push (PySem.W.kla_obj "<lambda>" (X.env.qual ++ "<lambda>") pa bd sc (cloFrom X.env.cells sc.names []) ((X.mg "__name__").getD .none) k ct), toks := tk } :=
      I.kept fun b o e => Heap.get?_push_of_some _ (stays b o e)
    exact cont h'.objs.size k _ ct H _ I1 (.refl hTT) (Heap.get?_push_size _ rfl) (I.hok.fresh big) (offF _ big) hk
  | none =>
    refine PySem.W.kla_makeFunction (mg := X.mg) (c := c) (P := P) (ps := tb) (closure_ok hfr) I.ok.glob (I.mod.glob.keeps I.bk) hcd (TB.code.keeps I.bk) atP trp look TB.gP (TB.bm.keeps I.bk) fun k ct h' tk stays new lt rec tnew => ?_
    obtain ⟨k2, ok, fs, tt, ek, gk, dk, nk⟩ := rec
    cases ek
    have grow : s.heap.objs.size ≤ h'.objs.size := Nat.le_trans new (Nat.le_of_lt lt)
    have fk : H k = none := I.hok.fresh new
    generalize hm : (#[rawInt ps.line, rawInt ps.col, .ref k] : Array Value) = more at tnew
    have I1 := inv_table (q := X.env.qual ++ "<lambda>") (t' := tk) (more := more) (h' := h'.push (PySem.W.kla_obj "<lambda>" (X.env.qual ++ "<lambda>") pa bd sc (cloFrom X.env.cells sc.names []) ((X.mg "__name__").getD .none) k ct)) I eP
      (fun b o hb e => Heap.get?_push_of_some _ (stays b o hb e)) (Heap.get?_push_of_some _ tnew) new ⟨ok, fs, tt, Heap.get?_push_of_some _ gk, dk, nk⟩
    generalize hH1 : upd (upd H P (.tbl (tb ++ more))) k (CodeO k (X.env.qual ++ "<lambda>")) = H1 at I1
    have kP : P ≠ k := ne_of_none eP fk
    have ex : ExtN H H1 := fun b o e n => by
      have nP : b ≠ P := fun z => by
        rw [z] at e
        exact n tb (Option.some.inj (e.symm.trans eP))
      rw [← hH1, upd_ne (ne_of_none e fk), upd_ne nP]
      exact e
    have hP1 : H1 P = some (.tbl (tb ++ more)) := by rw [← hH1, upd_ne kP, upd_same]
    have oth : ∀ b u, b ≠ P → H b = some u → H1 b = some u := fun b u n e => by
      rw [← hH1, upd_ne (ne_of_none e fk), upd_ne n]
      exact e
    have eL : (tb ++ more).toList = tb.toList ++ [rawInt ps.line, rawInt ps.col, .ref k] := by rw [← hm]; simp
    have tb1 : Tabs T H1 := fun p hp => by
      by_cases hb : p.1 = P
      · rw [huq p hp hb, hb]
        refine ⟨_, hP1, by rw [eL]; exact PySem.TriplesOk_snoc _ _ _ _ trp, fun p' cv hc => ?_⟩
        rw [eL] at hc
        rcases among_app _ trp hc with z | z
        · obtain ⟨c0, e1, e2⟩ := tall p' cv z
          exact ⟨c0, e1, ex _ _ e2 codeO_ne⟩
        · exact ⟨k, z, by rw [← hH1, upd_same]⟩
      · obtain ⟨tb', a1, a2, a3⟩ := hTT p hp
        refine ⟨tb', oth _ _ hb a1, a2, fun p' cv hc => ?_⟩
        obtain ⟨c0, e1, e2⟩ := a3 p' cv hc
        exact ⟨c0, e1, ex _ _ e2 codeO_ne⟩
    refine cont h'.objs.size k _ ct H1 _ I1 ⟨ex, tb1, fun b qs e => ?_⟩ (Heap.get?_push_size _ rfl) ?_ (offF _ grow) (by rw [← hH1, upd_same])
    · by_cases hb : b = P
      · exact ⟨_, by rw [hb]; exact hP1⟩
      · exact ⟨qs, oth b _ hb e⟩
    · have n1 : h'.objs.size ≠ k := Nat.ne_of_gt lt
      have n2 : h'.objs.size ≠ P := Nat.ne_of_gt (Nat.lt_of_lt_of_le (Heap.lt_size atP) grow)
      rw [← hH1, upd_ne n1, upd_ne n2]
      exact I.hok.fresh grow
end
/-- the lambda's block: its exceptions have no context -/
abbrev lamC (X : Cx) (A : Around) (outer : List PySem.Env) (s : Shared) (H : Hp) (E : XK) (sc : Scope) (f k : Addr) : Cx :=
  { lamCx X A outer s H E sc f k with xe := fun e s' => wpAny (model X.prog X.w) (A.deeper (lamEnv X sc s.heap.objs.size f k)) (leaving (lamEnv X sc s.heap.objs.size f k) e) (fun _ s2 => L2N.CX X.prog X.w outer H s E e s2) (fun e2 s2 => L2N.CX X.prog X.w outer H s E e2 s2) s' }
section
variable {X : Cx} {pins : List (Addr × Obj)} {σ : L2.St} {H : Hp} {s : Shared}
theorem lam_takes {A : Around} {outer : List PySem.Env} {s : Shared} {H : Hp} {E : XK} {sc : Scope} {f k : Addr} : L2N.Takes (lamC X A outer s H E sc f k) (fun cls d _ H => E cls d H) := L2N.takes_of rfl rfl rfl rfl
/-- the lambda is called by the def that got it -/
theorem pe_actN {CXg : L2.CXT} {Eg : XK} {Ng : List Str} {qg : Str} {sg : Scope} {g f c' : Addr} {cdg pm ctv : Value} {params : Arguments} {body : Expr} {scope : Scope} {k i : Nat} {a : Str} {pn : List (Addr × Obj)} {xe : Value → Shared → Prop} {W : WX} {E : XK} {tb : TE} {p1 p2 : Pos}
    (I : Inv X pins σ H s) (L : LamS X.env.scope scope) (isf : s.heap.get? f = some (PySem.W.kla_obj "<lambda>" (X.env.qual ++ "<lambda>") params body scope (cloFrom X.env.cells scope.names []) pm c' ctv)) (nf : H f = none) (off : f ∉ frs X.stack)
    (bnd : bindArgs (PySem.W.kla_fn "<lambda>" (X.env.qual ++ "<lambda>") params body scope (cloFrom X.env.cells scope.names []) pm (.ref c') ctv) ⟨[], []⟩ = pure [])
    (tk : L2N.Takes ((cxOf CXg X.prog X.w X.K X.mg X.base Ng qg sg g cdg X.A X.stack s H Eg).tr pn xe) W) (hW : ∀ cls d σ' H', E cls d H' → W cls d σ' H') (rm : Room (k + 1) (X.A.deeper (envOfC qg sg s.heap.objs.size g cdg)))
    (bod : ∀ (A : Around) (outer : List PySem.Env) (s : Shared) (H : Hp), Room k (A.deeper (lamEnv X scope s.heap.objs.size f c')) → PE (lamC X A outer s H E scope f c') body tb)
    (hN : Ng[i]? = some a) (vis : Vis sg a) (hd : (a == ("__debug__" : Str)) = false) (hcd : (a == ("__classdict__" : Str)) = false) :
    PE ((cxOf CXg X.prog X.w X.K X.mg X.base Ng qg sg g cdg X.A X.stack s H Eg).tr pn xe) (.Call (.Name a p1) [] [] p2)
      (fun σZ HZ Q => σZ[i]? = some (some (.ref f)) ∧ HZ c' = some (CodeO c' (X.env.qual ++ "<lambda>")) ∧ tb σ HZ Q) := by
  refine ⟨fun pz sz σz Hz Q Iz ⟨hs, hc, ht⟩ => ?_⟩
  refine wpAny_Call_Name_kw (thn ((pe_var (pos := p1) (i := i) hN vis hd hcd).run pz sz σz Hz (fun v H1 => v = .ref f ∧ H1 = Hz) Iz ⟨.ref f, hs, rfl, rfl⟩) fun u s1 ⟨v, H1, I1, r1, ev, eH⟩ => ?_)
  subst ev eH
  obtain rfl : u = Value.ref f := r1
  have stillf : s1.heap.get? f = some (PySem.W.kla_obj "<lambda>" (X.env.qual ++ "<lambda>") params body scope (cloFrom X.env.cells scope.names []) pm c' ctv) :=
    I1.base.keep f _ isf nf off (fun z => nomatch (show f ∈ ([] : List Addr) from z))
  refine PySem.W.callWith_F0 ⟨_, _, _, _, stillf⟩ ?_
  have un : L2.Un (frs X.stack) [] H H1 s.heap s1.heap := I1.base
  obtain ⟨⟨oc, vs, t, goc, doc, qoc⟩, _, _⟩ := I1.hok c' _ hc
  have rc : codeAny (model X.prog X.w) (X.A.deeper (envOfC qg sg s.heap.objs.size g cdg)) (.call (.ref f) ⟨[], []⟩) (CR (L2N.CX X.prog X.w) (envOfC qg sg s.heap.objs.size g cdg :: X.stack) X.prog X.w H1 s1 Q E) s1 := by
    refine PySem.W.kla_callFunE rm.depth stillf rfl L.co L.gen rfl ⟨c', oc, vs, t, rfl, goc, doc, qoc⟩ ?_
    rw [bnd]
    refine wpAny_pure (wpAny_newFunctionEnv (fun y hy => (L.own y hy).2) (fun y hy => absurd hy (by simp)) (fun h₁ hns hsb => ⟨I1.nolimit.fresh _ hsb, ?_⟩) L.kind)
    show codeAny _ _ (.expr body (lamEnv X scope s1.heap.objs.size f c')) _ _
    have kept : ∀ b o, s1.heap.get? b = some o → h₁.get? b = some o := fun b o e => hsb.extBut b o (Nat.ne_of_lt (Heap.lt_size e)) (Heap.get?_push_of_some _ e)
    have J0 := lam_start2 (A := X.A.deeper (envOfC qg sg s.heap.objs.size g cdg)) (E := E) (f := f) (c' := c') (tk := s1.toks + ([] : List (Str × Value)).length) I L I1.env0 rm.hd un hns kept
    have J : Inv (lamC X (X.A.deeper (envOfC qg sg s.heap.objs.size g cdg)) (envOfC qg sg s.heap.objs.size g cdg :: X.stack) s1 H1 E scope f c') [] σ H1 { s1 with heap := h₁, toks := s1.toks + ([] : List (Str × Value)).length } :=
      ⟨⟨J0.ok.mod, J0.ok.kind, J0.ok.glob, J0.ok.blt, J0.ok.above, J0.ok.inj, J0.ok.has, J0.ok.cab, J0.ok.hd, J0.ok.frames, J0.ok.stk, J0.ok.exf, J0.ok.bs, J0.ok.bsz, J0.ok.noex, J0.ok.exfs, J0.ok.funs, J0.ok.frf⟩, J0.os, J0.bare, J0.base, J0.loc, J0.cell, J0.free, J0.freeC, J0.pin, J0.hok, J0.len⟩
    refine PySem.W.kla_codeExpr (wpAny_mono ((bod _ _ s1 H1 (rm.deeper _)).run [] _ _ H1 Q J ht) (fun w s2 ⟨w', H', J', rv, q⟩ => ⟨w', H', J'.os, J'.bare, J'.base, J'.hok, rv, q⟩) fun e s2 hq => hq)
  have out : Passes (L2N.CX X.prog X.w) ((cxOf CXg X.prog X.w X.K X.mg X.base Ng qg sg g cdg X.A X.stack s H Eg).tr pn xe) E := L2N.passes_call tk hW
  refine wpAny_call (codeAny_mono rc fun r s2 hq => ?_)
  cases r with
  | error e => exact out pz σz H1 s1 e s2 I1 hq
  | ok fl =>
    cases fl with
    | ret u => exact I1.after hq
    | next => exact hq.elim
    | brk => exact hq.elim
    | cont => exact hq.elim
end
/-- the def that calls what it got: TT tells what it makes of the lambda's reading -/
def GivesN (X : Cx) (Ng : List Str) (x : Str) (sg : Scope) (g : Addr) (cdg : Value) (bg : List Stmt) (a : Str) (q : Str) (TT : (XK → Hp → VK → Prop) → Hp → VK → Prop) : Prop :=
  ∀ (f c' : Addr) (s : Shared) (H : Hp) (Q : VK) (tl : XK → Hp → VK → Prop),
    (∀ (W : WX) (pn : List (Addr × Obj)) (xe : Value → Shared → Prop) (E : XK) (p1 p2 : Pos), L2N.Takes ((cxOf C8.CX0 X.prog X.w X.K X.mg X.base Ng x sg g cdg X.A X.stack s H C8.E0).tr pn xe) W → (∀ cls d σ' H', E cls d H' → W cls d σ' H') →
      PE ((cxOf C8.CX0 X.prog X.w X.K X.mg X.base Ng x sg g cdg X.A X.stack s H C8.E0).tr pn xe) (.Call (.Name a p1) [] [] p2) (fun σZ HZ Q => σZ[0]? = some (some (.ref f)) ∧ HZ c' = some (CodeO c' q) ∧ tl E HZ Q)) →
    Room 0 (X.A.deeper (envOfC x sg s.heap.objs.size g cdg)) → H c' = some (CodeO c' q) → TT tl H Q →
    ∃ t, PSs (cxOf C8.CX0 X.prog X.w X.K X.mg X.base Ng x sg g cdg X.A X.stack s H C8.E0).nox bg t ∧ t { nx := fun _ H' => Q .non H', rt := Q } (L2.start Ng [.ref f]) H
/-- x(lambda: body) -/
theorem pe_lamN {X : Cx} {T : List (Addr × Str)} {TT : (XK → Hp → VK → Prop) → Hp → VK → Prop} {x x' a : Str} {g c P : Addr} {k : Nat} {pg : Arguments} {bg : List Stmt} {sg : Scope} {dV kV doc pm cdv ct oc : Value} {an od : Option Addr} {osl : Array (Option Value)} {Ng : List Str}
    {params : Arguments} {body : Expr} {scope : Scope} {t : XK → TE} {p lpos pos : Pos} (hg : Gl X x') (hm : X.mg x' = some (.ref g)) (hk : PySem.W.keepIn X.K (.ref g) = true)
    (lk : X.K.lookup g = some ⟨oc, od, .func (PySem.W.fnOf x x pg bg sg dV kV doc pm an cdv ct), osl⟩) (hcg : PySem.W.codeIn X.K cdv x = true) (hb : L2.Binds X.K (PySem.W.fnOf x x pg bg sg dV kV doc pm an cdv ct) [a] []) (Sg : FnScope Ng [a] sg) (hNg : Ng[0]? = some a) (hva : Vis sg a)
    (hG : GivesN X Ng x sg g cdv bg a (X.env.qual ++ "<lambda>") TT)
    (TB : TabB X.base X.mg c P) (hcode : X.env.code = .ref c) (hmT : (P, X.env.qual ++ "<lambda>") ∈ T) (hu : ∀ p ∈ T, p.1 = P → p.2 = X.env.qual ++ "<lambda>") (hr : Room (k + 2) X.A) (L : LamS X.env.scope scope) (hdef : defaultsOf params X.env = ([], []))
    (hbind : ∀ (q : Str) (cl : List (Str × Addr)) (pm cv ctv : Value), bindArgs (PySem.W.kla_fn "<lambda>" q params body scope cl pm cv ctv) ⟨[], []⟩ = pure [])
    (hbody : ∀ (A : Around) (outer : List PySem.Env) (s : Shared) (H : Hp) (E : XK) (f c' : Addr), Room k (A.deeper (lamEnv X scope s.heap.objs.size f c')) → PE (lamC X A outer s H E scope f c') body (t E))
    (hdb : (x' == ("__debug__" : Str)) = false) (hd : (a == ("__debug__" : Str)) = false) (hcd : (a == ("__classdict__" : Str)) = false) :
    PE X (.Call (.Name x' p) [.Lambda params body scope lpos] [] pos) (fun σ H Q => Tabs T H ∧ ∀ H1, Kp T H H1 → TT (fun E H' Q' => t E σ H' Q') H1 Q) := by
  refine ⟨fun pins s σ H Q I ⟨hT, h⟩ => ?_⟩
  refine wpAny_Call_Name_kw (ld_glob I hg hm ?_ hdb)
  refine PySem.W.callWith_K (h₀ := X.base) I.ok.mod.kin hk ?_ (by rfl) (by rfl)
  show wpAny _ _ (spliced ((false, eval (.Lambda params body scope lpos) X.env) :: backTo pos (starEach [] X.env))) _ _ s
  refine Calls.spliced_cons (lamNew I TB hcode hmT hu hT hdef (L.has I.ok) fun f c' pm' ctv H1 s' I1 kp hf hfn hfr hco => ?_)
  refine Calls.spliced_nil ⟨I1.kIn, ?_⟩
  have rc : codeAny (model X.prog X.w) X.A (.call (.ref g) ⟨[.ref f], []⟩) (CR C8.CX0 X.stack X.prog X.w H1 s' Q C8.E0) s' := by
    refine run_ofS (k := k + 1) (N := Ng) (ps := [a]) (us := [.ref f]) (vs := [.ref f]) lk hcg Sg hr I1.env0 (hb s' [.ref f] I1.kIn rfl) (.cons rfl .nil) rfl fun hr' => ?_
    obtain ⟨t', ht', hq'⟩ := hG f c' s' H1 Q (fun E H' Q' => t E σ H' Q') (fun W pn xe E p1 p2 tk hW => pe_actN (k := k) (i := 0) I1 L hf hfn hfr (hbind _ _ _ _ _) tk hW hr' (fun A outer s H hr2 => hbody A outer s H E f c' hr2) hNg hva hd hcd) (hr'.mono (by omega)) hco (h H1 kp)
    exact ⟨t', ht'.nox, hq'⟩
  refine wpAny_call (codeAny_mono rc fun r s2 hq => ?_)
  cases r with
  | error e => exact (show False from hq).elim
  | ok fl =>
    cases fl with
    | ret u => exact I1.after hq
    | next => exact hq.elim
    | brk => exact hq.elim
    | cont => exact hq.elim
/-! ### the def that tells the class of a call's exception -/
/-- what it makes of the call: the empty text, or the word that its suite returns -/
def TTk (Dw : Wd) (m : Mod) (v : Ev) (T : List (Addr × Str)) : (XK → Hp → VK → Prop) → Hp → VK → Prop := fun tl H Q =>
  tl (fun cls d H' => ∃ c pay, ExR Dw.p0 c pay cls d H' ∧ Tabs T H' ∧ c < m.ncls ∧ m.sub c m.cE = true ∧ ∃ w env k, v.s m.suite (none :: some (.exc c pay, 9) :: List.replicate (m.nsu - 2) none) = .rt (.str w) k env ∧ ∀ H'', Kp T H' H'' → Q (.str w) H'') H (fun _ H1 => Q (.str (Str.ofString "")) H1)
structure TakOk (Dw : Wd) (m : Mod) (v : Ev) (T : List (Addr × Str)) (k : Nat) : Prop where
  ex : ∃ (x a : Str) (pg : Arguments) (bg : List Stmt) (sg : Scope) (dV kV doc pm cdv ct oc : Value) (an od : Option Addr) (osl : Array (Option Value)) (Ng : List Str),
    Dw.K.lookup (Dw.fa k) = some ⟨oc, od, .func (PySem.W.fnOf x x pg bg sg dV kV doc pm an cdv ct), osl⟩ ∧ PySem.W.codeIn Dw.K cdv x = true ∧ L2.Binds Dw.K (PySem.W.fnOf x x pg bg sg dV kV doc pm an cdv ct) [a] [] ∧ FnScope Ng [a] sg ∧ Ng[0]? = some a ∧ Vis sg a ∧ nmOk a = true ∧
    ∀ (X : Cx) (q : Str), X.prog = Dw.P → X.w = Dw.w → X.K = Dw.K → X.mg = Dw.mg → X.base = Dw.base → GivesN X Ng x sg (Dw.fa k) cdv bg a q (TTk Dw m v T)
end Eng
end

section
set_option linter.all false
set_option maxRecDepth 100000
namespace Eng
open PySem PySem.Spec PyProof.Rows
open L2 (V HO Hp VK TE TS TA TT TI TG WX XK SqL SqT Rd upd upd_same upd_ne Key kV Mut RelV Vals Inv Cx PE PS PT PW PA PI PG PSs Takes tVar tNil tCons tOp Vis Loc Gl Room OpR R2 EP Dp DpAll TruR TruV IxR CallR FnOk Sp Ends PassesAt)
theorem star_map {es : List Expr} {env : PySem.Env} (h : es.all notStar = true) : starEach es env = es.map fun e => (false, eval e env) := by
  induction es with
  | nil => rfl
  | cons e es ih =>
    rw [List.all_cons] at h
    rw [star_ok (and_ok h).1, ih (and_ok h).2]
    rfl
theorem back_no {es : List Expr} {env : PySem.Env} {pos : Pos} (h : es.all notStar = true) : (backTo pos (starEach es env)).any (·.1) = false := by
  rw [star_map h]
  unfold backTo
  induction es with
  | nil => rfl
  | cons e es ih =>
    rw [List.all_cons] at h
    exact ih (and_ok h).2
/-- every def keeps its promise, n deep -/
structure FnsOk (Dw : Wd) (m : Mod) (v : Ev) (T : List (Addr × Str)) (n : Nat) : Prop where
  fn : ∀ k f, m.fns[k]? = some f → k ∉ m.takers → ∃ fd ps, FnOk Dw.P Dw.w Dw.K Dw.mg Dw.base (L2N.CX Dw.P Dw.w) n (Dw.fa k) fd ps (spSim v Dw.p0 T k f) ∧ L2.Binds Dw.K fd ps [] ∧ PySem.W.keepIn Dw.K (.ref (Dw.fa k)) = true
  tak : ∀ k, k ∈ m.takers → TakOk Dw m v T k
section
variable {Dw : Wd} {n : Nat} {S : Sx} {X : Cx} {Γ : Gm} {W : WX} {v : Ev} {m : Mod} {c : Nat}
/-- a call by a name, whatever the def -/
theorem pe_cN {x : Str} {p pos : Pos} {tn : TE} {es : List Expr} {is : List E} {t : TE} (hn : PE X (.Name x p) tn) (ha : PA X es (tOs v Γ W 7 is)) (hl : is.length = es.length) (hs : es.all notStar = true)
    (h : ∀ σ H Q, t σ H Q → ∃ f sp, tn σ H (fun u H1 => u = .ref f ∧ H1 = H) ∧ (∃ k fd ps, FnOk X.prog X.w X.K X.mg X.base (L2N.CX X.prog X.w) k f fd ps sp ∧ Room k X.A ∧ L2.Binds X.K fd ps [] ∧ PySem.W.keepIn X.K (.ref f) = true) ∧ tOs v Γ W 7 is σ H fun vs H1 => sp vs H1 Q (fun cls dd H2 => W cls dd σ H2))
    (tk : L2N.Takes X W) : PE X (.Call (.Name x p) es [] pos) t := by
  refine ⟨fun pins s σ H Q I q => ?_⟩
  obtain ⟨f, sp, h1, ⟨k, fd, ps, F, hr, hb, hk⟩, h2⟩ := h σ H Q q
  refine wpAny_Call_Name_kw (L2.thn (hn.run pins s σ H _ I h1) fun u s1 ⟨w, H1, I1, r1, e1, e2⟩ => ?_)
  subst e1 e2
  cases r1
  cases es with
  | nil =>
    cases is with
    | nil => exact PySem.W.callWith_K0 I1.kIn hk (L2.run_fnS (us := []) F hr hb (L2N.passAt tk σ) I1 .nil h2)
    | cons _ _ => cases hl
  | cons e es =>
    rw [List.all_cons] at hs
    refine PySem.W.callWith_K (h₀ := X.base) I1.ok.mod.kin hk (L2.thn (ha.run pos pins s1 σ _ _ I1 h2) fun us s2 ⟨vs, H2, I2, r, q⟩ => ⟨I2.kIn, ?_⟩) (star_ok (and_ok hs).1) (back_no (and_ok hs).2)
    exact L2.run_fnS F hr hb (L2N.passAt tk σ) I2 r q
theorem Ctx.fns (C : Ctx Dw n S X Γ W) {T : List (Addr × Str)} {k : Nat} {f : Fn} (F : FnsOk Dw m v T n) (hf : m.fns[k]? = some f) (ht : k ∉ m.takers) : ∃ k' fd ps, FnOk X.prog X.w X.K X.mg X.base (L2N.CX X.prog X.w) k' (Dw.fa k) fd ps (spSim v Dw.p0 T k f) ∧ (S.hot = false → Room k' X.A) ∧ L2.Binds X.K fd ps [] ∧ PySem.W.keepIn X.K (.ref (Dw.fa k)) = true := by
  obtain ⟨fd, ps, F, hb, hk⟩ := F.fn k f hf ht
  refine ⟨n, fd, ps, ?_, C.room, ?_, ?_⟩
  · rw [C.prog, C.w, C.K, C.mg, C.base]; exact F
  · rw [C.K]; exact hb
  · rw [C.K]; exact hk
theorem nd_call {k : Nat} {f : Fn} {x : Str} {p pos : Pos} {is : List E} {es : List Expr} (C : Ctx Dw n S X Γ W) (F : FnsOk Dw m v Γ.T n) (hot : S.hot = false) (hp : S.plain = true) (hf : m.fns[k]? = some f) (ht : k ∉ m.takers) (hx : S.fnn k x = true) (ha : PA X es (tOs v Γ W 7 is)) (hl : is.length = es.length) (hs : es.all notStar = true)
    (h1 : loanOk is = true) (h2 : (loanL is).Nodup) (h3 : is.length = f.npar) : PE X (.Call (.Name x p) es [] pos) (tE (step m v) Γ W (.call k is)) := by
  obtain ⟨a, b, c, d⟩ := C.fnn hx
  obtain ⟨k', fd, ps, G, hr, hb, hk⟩ := C.fns F hf ht
  refine pe_cN (L2.pe_glob a c (v := .ref (Dw.fa k)) rfl b) ha hl hs (fun σ H Q ⟨env, Fs, ts, s, q⟩ => ?_) C.tk
  refine ⟨Dw.fa k, spSim v Dw.p0 Γ.T k f, ⟨rfl, rfl⟩, ⟨k', fd, ps, G, hr hot, hb, hk⟩, ?_⟩
  have := call_sim (f := f) h1 h2 h3 s q
  rw [C.p0 hp] at this
  exact this
theorem stepE_callv (m : Mod) (v : Ev) (i : Nat) (is : List E) (env : Env) : stepE m v (.callv i is) env = (match getS env i with
    | some (.fn k, _) => (match m.fns[k]? with
      | some f => if m.takers.contains k || f.npar != is.length then .bad else ops v 7 is env fun ds env => (match v.cl k ds with
        | .ok d n outs => .ok d n (takeOuts (dropL env is) is 0 outs)
        | .ex c a => .ex c a (dropL env is)
        | .bad => .bad)
      | none => .bad)
    | some (.clo k cenv, _) => (match is, m.lams[k]? with
      | [], some e => (match v.e e cenv with
        | .ok d n _ => if n = 9 then .ok d 9 env else .bad
        | .ex c a _ => .ex c a env
        | .bad => .bad)
      | _, _ => .bad)
    | _ => .bad) := rfl
theorem nd_callv {i : Nat} {x : Str} {p pos : Pos} {is : List E} {es : List Expr} (C : Ctx Dw n S X Γ W) (F : FnsOk Dw m v Γ.T n) (hot : S.hot = false) (hp : S.plain = true) (hx : S.slot i x = true) (ha : PA X es (tOs v Γ W 7 is)) (hl : is.length = es.length) (hs : es.all notStar = true)
    (h1 : loanOk is = true) (h2 : (loanL is).Nodup) : PE X (.Call (.Name x p) es [] pos) (tE (step m v) Γ W (.callv i is)) := by
  refine pe_cN (C.slot hx) ha hl hs (fun σ H Q ⟨env, Fs, ts, s, q⟩ => ?_) C.tk
  have q : PR Γ W σ ts Q (stepE m v (.callv i is) env) := q
  rw [stepE_callv] at q
  cases hg : getS env i with
  | none => rw [hg] at q; exact q.elim
  | some y =>
    obtain ⟨d, k0⟩ := y
    obtain ⟨u, hu, o⟩ := s.at_ i d k0 hg
    rw [hg] at q
    cases d with
    | fn k =>
      dsimp only at q
      cases hf : m.fns[k]? with
      | none => rw [hf] at q; exact q.elim
      | some f =>
        rw [hf] at q
        dsimp only at q
        split at q
        · exact q.elim
        · rename_i hc
          simp only [Bool.or_eq_true, bne_iff_ne, ne_eq, not_or, Decidable.not_not, List.contains_iff_mem] at hc
          obtain ⟨k', fd, ps, G, hr, hb, hk⟩ := C.fns F hf hc.1
          have eu : u = .ref (Dw.fa k) := by rw [← C.pfa]; exact o.1
          refine ⟨Dw.fa k, spSim v Dw.p0 Γ.T k f, ⟨u, hu, eu, rfl⟩, ⟨k', fd, ps, G, hr hot, hb, hk⟩, ?_⟩
          have := call_sim (f := f) h1 h2 hc.2.symm s q
          rw [C.p0 hp] at this
          exact this
    | clo k e =>
      exfalso
      obtain ⟨a, _, h⟩ := o.1
      rw [C.p0 hp] at h
      exact h
    | _ => exact q.elim
end
end Eng
end

section
set_option linter.all false
set_option maxRecDepth 100000
namespace Eng
open PySem PySem.Spec PyProof.Rows LamX
open L2 (V HO Hp VK TE TS TA TT TI TG WX XK SqL SqT Rd upd upd_same upd_ne Key kV Mut RelV Vals Inv Cx PE PS PT PW PA PI PG PSs tVar tNil tCons tOp Vis Loc Gl Room FnOk Sp FnScope cxOf)
/-! ### x(lambda: e) -/
section
variable {Γ : Gm} {H H' : Hp} {env : Env} {σ : L2.St} {Fs : Nat → List Addr} {ts : List Tmp}
/-- the ground of a block that owns nothing -/
def gm0 (Γ : Gm) (H : Hp) : Gm := { p := Γ.p, T := Γ.T, H0 := H, L0 := [], pin := [] }
theorem SR.kp (s : SR Γ H env σ Fs ts) (k : Kp Γ.T H H') : SR Γ H' env σ Fs ts := by
  have s' : SR (gm0 Γ H) H' [] [] (fun _ => []) [] := ⟨rfl, fun i d n e => (by cases e), fun i _ => rfl, fun t ht => (by cases ht), fun i => .nil, fun t ht => (by cases ht), fun i j b h => (by cases h), .nil, fun i t ht => (by cases ht), fun i b h => (by cases h), fun t ht => (by cases ht), fun b o e n z => k.ext b o e z, k.tabs, fun b ps e => k.tbk b ps e, fun q hq => (by cases hq)⟩
  exact SR.called (Γ' := gm0 Γ H) (as := []) (ps := []) s rfl rfl rfl rfl s'
theorem kp_of {env' : Env} {σ' : L2.St} {Fs' : Nat → List Addr} {ts' : List Tmp} (s : SR (gm0 Γ H) H' env' σ' Fs' ts') : Kp Γ.T H H' := ⟨fun b o e n => s.keep b o e (by show b ∉ ([] : List Addr); simp) n, s.tabs, s.tbk⟩
theorem getS_roE : ∀ {env : Env} {i : Nat} {d : D} {n : Nat}, getS (roE env) i = some (d, n) → getS env i = some (d, n) ∧ (n = 0 ∨ n = 9)
  | [], i, d, n, h => by simp [getS, roE] at h
  | none :: l, 0, d, n, h => by simp [getS, roE] at h
  | none :: l, i + 1, d, n, h => by
    have h : getS (roE l) i = some (d, n) := by simpa [getS, roE] using h
    obtain ⟨a, b⟩ := getS_roE h
    exact ⟨by simpa [getS] using a, b⟩
  | some (d0, n0) :: l, 0, d, n, h => by
    by_cases c : (n0 = 0 || n0 == 9) = true
    · have h : some (d0, n0) = some (d, n) := by simpa [getS, roE, c] using h
      cases h
      exact ⟨rfl, by simpa using c⟩
    · simp [getS, roE, c] at h
  | some (d0, n0) :: l, i + 1, d, n, h => by
    have h : getS (roE l) i = some (d, n) := by simpa [getS, roE] using h
    obtain ⟨a, b⟩ := getS_roE h
    exact ⟨by simpa [getS] using a, b⟩
theorem roE_len : ∀ (env : Env), (roE env).length = env.length
  | [] => rfl
  | none :: l => by simp [roE, roE_len l]
  | some (d, n) :: l => by simp [roE, roE_len l]
/-- the state at a lambda's entry -/
theorem SR.ro (s : SR Γ H env σ Fs ts) : SR (gm0 Γ H) H (roE env) σ (fun _ => []) [] := by
  refine ⟨by rw [roE_len]; exact s.len, fun i d n e => ?_, fun i _ => rfl, fun t ht => (by cases ht), fun i => .nil, fun t ht => (by cases ht), fun i j b h => (by cases h), .nil, fun i t ht => (by cases ht), fun i b h => (by cases h), fun t ht => (by cases ht), fun b o e n z => e, s.tabs, fun b ps e => ⟨ps, e⟩, fun q hq => (by cases hq)⟩
  obtain ⟨e1, e2⟩ := getS_roE e
  obtain ⟨v, hv, o⟩ := s.at_ i d n e1
  refine ⟨v, hv, ?_⟩
  obtain ⟨_, e3⟩ := o.rep e2
  rw [← e3]
  exact o
end
section
variable {Dw : Wd} {n : Nat} {S : Sx} {X : Cx} {Γ : Gm} {W : WX} {v : Ev} {m : Mod} {c : Nat}
/-- a lambda's block -/
def lamS (S : Sx) (scope : Scope) : Sx := { S with names := scope.names, stm := false, exc := false, lam := false, pins := [] }
def lamCk (S : Sx) (scope : Scope) : Bool :=
  decide (scope.kind = .function) && (!scope.isCoroutine && (!scope.isGenerator && scope.names.all fun y => !decide (y.2 = .local) && (!decide (y.2 = .cell) && (!decide (y.2 = .free) || (decide (S.names.lookup y.1 = some .cell) || decide (S.names.lookup y.1 = some .free))))))
theorem Ctx.lamOk (C : Ctx Dw n S X Γ W) {scope : Scope} (h : lamCk S scope = true) : LamS X.env.scope scope := by
  obtain ⟨h1, h⟩ := and_ok h
  obtain ⟨h2, h⟩ := and_ok h
  obtain ⟨h3, h⟩ := and_ok h
  have h := List.all_eq_true.mp h
  refine ⟨of_decide_eq_true h1, by simpa using h2, by simpa using h3, fun y hy => ?_, fun y hy e => ?_⟩
  · obtain ⟨a, b⟩ := and_ok (h y hy)
    obtain ⟨b, _⟩ := and_ok b
    exact ⟨by simpa using a, by simpa using b⟩
  · obtain ⟨_, b⟩ := and_ok (h y hy)
    obtain ⟨_, b⟩ := and_ok b
    rcases Bool.or_eq_true_iff.mp b with b | b
    · rw [e] at b; simp at b
    · rcases Bool.or_eq_true_iff.mp b with b | b
      · rcases C.sc _ _ (of_decide_eq_true b) with r | ⟨r, _⟩
        · exact .inl r
        · cases r
      · rcases C.sc _ _ (of_decide_eq_true b) with r | ⟨_, r⟩
        · exact .inr r
        · exact .inl r
/-- the context of its body -/
theorem Ctx.lamB {k : Nat} (C : Ctx Dw n S X Γ W) (hot : S.hot = false) {scope : Scope} (h : lamCk S scope = true) {A : Around} {outer : List PySem.Env} {s : Shared} {H : Hp} {E : XK} {f c' : Addr} (r : Room k (A.deeper (lamEnv X scope s.heap.objs.size f c'))) (H1 : Hp) :
    Ctx Dw k (lamS S scope) (lamC X A outer s H E scope f c') (gm0 Γ H1) (fun cls d _ H => E cls d H) := by
  have L := C.lamOk h
  refine ⟨C.prog, C.w, C.K, C.mg, C.base, C.pK, C.pfa, C.pca, C.g, C.N, L.kind, C.nd, fun x k e => .inl e, fun x e => ?_, lam_takes, (fun z => by cases z), C.p0, fun q hq => (by cases hq), ?_, fun _ => rfl, fun _ => r, (fun z => by cases z), (fun z => by cases z)⟩
  · exact absurd rfl (L.own _ (PySem.mem_of_lookup e)).2
  · have := r.un
    show (A.deeper _).units + 70 < cLine
    omega
theorem stepE_lam (m : Mod) (v : Ev) (k j : Nat) (env : Env) : stepE m v (.lam k j) env = (match m.lams[j]? with
    | some e => (match v.e (.pad e) (roE env) with
      | .ok _ _ _ => .ok (.str (Str.ofString "")) 9 env
      | .ex c a _ => if c < m.ncls && m.sub c m.cE then (match v.s m.suite (none :: some (.exc c a, 9) :: List.replicate (m.nsu - 2) none) with
        | .rt (.str w) _ _ => .ok (.str w) 9 env
        | _ => .bad) else .bad
      | .bad => .bad)
    | none => .bad) := rfl
theorem nd_lam {k j kk : Nat} {e : E} {x : Str} {p lpos pos : Pos} {body : Expr} {scope : Scope} (C : Ctx Dw n S X Γ W) (F : FnsOk Dw m v Γ.T n) (hot : S.hot = false) (hp : S.plain = true) (hl : S.lam = true) (hx : S.fnn k x = true) (hk : k ∈ m.takers) (hj : m.lams[j]? = some e) (hL : lamCk S scope = true) (hn : n = kk + 2)
    (hb : ∀ (X' : Cx) (Γ' : Gm) (W' : WX), Γ'.T = Γ.T → Ctx Dw kk (lamS S scope) X' Γ' W' → PE X' body (tE v Γ' W' (.pad e))) :
    PE X (.Call (.Name x p) [.Lambda ⟨[], [], none, [], [], none, []⟩ body scope lpos] [] pos) (tE (step m v) Γ W (.lam k j)) := by
  obtain ⟨x0, a, pg, bg, sg, dV, kV, doc, pm, cdv, ct, oc, an, od, osl, Ng, lk, hcg, hbd, Sg, hNg, hva, hnm, G⟩ := (F.tak k hk).ex
  obtain ⟨a1, a2, a3, a4⟩ := C.fnn hx
  obtain ⟨cc, P, l1, l2, l3, l4⟩ := C.lam hl
  obtain ⟨nm1, nm2⟩ := nmOk_ok hnm
  refine pe_mono (pe_lamN (k := kk) (t := fun E σ H Q => ∃ H1, tE v (gm0 Γ H1) (fun cls d _ H => E cls d H) (.pad e) σ H Q) (TT := TTk Dw m v Γ.T) a1 a3 a4 (by rw [C.K]; exact lk) (by rw [C.K]; exact hcg) (by rw [C.K]; exact hbd) Sg hNg hva (G X _ C.prog C.w C.K C.mg C.base) l2 l1 l3 l4 (by rw [← hn]; exact C.room hot) (C.lamOk hL) rfl (fun _ _ _ _ _ => rfl)
    (fun A outer s H E f c' r => ⟨fun pins s1 σ H Q I ⟨H1, q⟩ => (hb _ (gm0 Γ H1) _ rfl (C.lamB hot hL r H1)).run pins s1 σ H Q I q⟩) a2 nm1 nm2) fun σ H Q ⟨env, Fs, ts, s, q⟩ => ?_
  have q : PR Γ W σ ts Q (stepE m v (.lam k j) env) := q
  rw [stepE_lam, hj] at q
  dsimp only at q
  refine ⟨s.tabs, fun H1 k1 => ⟨H1, roE env, fun _ => [], [], (s.kp k1).ro, ?_⟩⟩
  have s1 := s.kp k1
  cases hr : v.e (.pad e) (roE env) with
  | ok d n1 env1 =>
    rw [hr] at q
    exact fun u H2 G2 Fs2 s2 => q _ H2 [] Fs ((s1.kp (kp_of s2)).pushR ⟨rfl, rfl, fun _ => rfl⟩)
  | bad => rw [hr] at q; exact q.elim
  | ex c0 a0 env1 =>
    rw [hr] at q
    dsimp only at q
    intro cls dd H2 Fs2 s2 ex
    split at q
    · rename_i hc
      obtain ⟨hc1, hc2⟩ := and_ok hc
      have k2 := kp_of s2
      have ex : ExR Γ.p c0 a0 cls dd H2 := ex
      rw [C.p0 hp] at ex
      refine ⟨c0, a0, ex, s2.tabs, of_decide_eq_true hc1, hc2, ?_⟩
      cases hs : v.s m.suite (none :: some (.exc c0 a0, 9) :: List.replicate (m.nsu - 2) none) with
      | rt d kx env2 =>
        rw [hs] at q
        cases d with
        | str w => exact ⟨w, env2, kx, rfl, fun H3 k3 => q _ H3 [] Fs (((s1.kp k2).kp k3).pushR ⟨rfl, rfl, fun _ => rfl⟩)⟩
        | _ => exact q.elim
      | _ => rw [hs] at q; exact q.elim
    · exact q.elim
end
end Eng
end

section
set_option linter.all false
set_option maxRecDepth 100000
namespace Eng
open PySem PySem.Spec PyProof.Rows
open L2 (V HO Hp VK TE TS TA TT TI TG TGs TSet PGs PSet WX XK SqL SqT Rd upd upd_same upd_ne Key kV Mut RelV Vals Inv Cx PE PS PT PW PA PI PG PSs Takes tVar tNil tCons tOp Vis Loc Gl Room OpR R2 EP Dp DpAll TruR TruV IxR CallR FnOk Sp Ends PassesAt)
/-! ### statements: the judgement -/
section
variable (v : Ev) (m : Mod) (Γ : Gm) (W : WX)
def PF (ts : List Tmp) (D : Ends) : F → Prop
  | .nx env => ∀ σ H Fs, SR Γ H env σ Fs ts → D.nx σ H
  | .rt d n env => ∀ u σ H F Fs, SR Γ H env σ Fs (⟨d, n, u, F⟩ :: ts) → D.rt u H
  | .bk env => ∀ σ H Fs, SR Γ H env σ Fs ts → D.bk σ H
  | .ex k a env => ∀ cls dd σ H Fs, SR Γ H env σ Fs ts → ExR Γ.p k a cls dd H → W cls dd σ H
  | .bad => False
def tS (i : List S) : TS := fun D σ H => ∃ env Fs ts, SR Γ H env σ Fs ts ∧ PF Γ W ts D (v.s i env)
def tS1 (i : S) : TS := fun D σ H => ∃ env Fs ts, SR Γ H env σ Fs ts ∧ PF Γ W ts D (stepS1 m v i env)
end
section
variable {Dw : Wd} {n : Nat} {S : Sx} {X : Cx} {Γ : Gm} {W : WX} {v : Ev} {m : Mod} {c : Nat}
theorem ns_nil : PSs X [] (tS (step m v) Γ W []) :=
  ⟨fun pins s σ H D I ⟨env, Fs, ts, r, q⟩ => L2.pss_nil.run pins s σ H D I (q σ H Fs r)⟩
theorem ns_cons {i : Eng.S} {is : List Eng.S} {st : Stmt} {rest : List Stmt} (h1 : PS X st (tS1 v m Γ W i)) (h2 : PSs X rest (tS (step m v) Γ W is)) : PSs X (st :: rest) (tS (step m v) Γ W (i :: is)) := by
  refine ⟨fun pins s σ H D I ⟨env, Fs, ts, r, q⟩ => (L2.pss_cons h1 h2).run pins s σ H D I ⟨env, Fs, ts, r, ?_⟩⟩
  have q : PF Γ W ts D (match stepS1 m v i env with | .nx env1 => stepS m v is env1 | r => r) := q
  cases hr : stepS1 m v i env with
  | nx env1 => rw [hr] at q; exact fun σ' H' Fs' s' => ⟨env1, Fs', ts, s', q⟩
  | rt d n env1 => rw [hr] at q; exact q
  | bk env1 => rw [hr] at q; exact q
  | ex k a env1 => rw [hr] at q; exact q
  | bad => rw [hr] at q; exact q
theorem ns_pass {pos : Pos} : PS X (.Pass pos) (tS1 v m Γ W .pass) := ⟨fun pins s σ H D I ⟨env, Fs, ts, r, q⟩ => L2.ps_pass.run pins s σ H D I (q σ H Fs r)⟩
theorem ns_doc {x j pos pos'} : PS X (.Expr (.Constant (.str x) j pos) pos') (tS1 v m Γ W .pass) := ⟨fun pins s σ H D I ⟨env, Fs, ts, r, q⟩ => L2.ps_doc.run pins s σ H D I (q σ H Fs r)⟩
theorem ns_brk {pos : Pos} : PS X (.Break pos) (tS1 v m Γ W .brk) := ⟨fun pins s σ H D I ⟨env, Fs, ts, r, q⟩ => L2.ps_break.run pins s σ H D I (q σ H Fs r)⟩
theorem ns_retN {pos : Pos} : PS X (.Return none pos) (tS1 v m Γ W .retN) := ⟨fun pins s σ H D I ⟨env, Fs, ts, r, q⟩ => L2.ps_retN.run pins s σ H D I (q .non σ H [] Fs (r.pushR ⟨rfl, rfl, fun _ => rfl⟩))⟩
theorem ns_ret {i : E} {e : Expr} {pos : Pos} (h : PE X e (tE v Γ W i)) : PS X (.Return (some e) pos) (tS1 v m Γ W (.ret i)) := by
  refine ⟨fun pins s σ H D I ⟨env, Fs, ts, r, q⟩ => (L2.ps_ret h).run pins s σ H D I ⟨env, Fs, ts, r, ?_⟩⟩
  have q : PF Γ W ts D (match v.e i env with | .ok d n env => .rt d n env | .ex c a env => .ex c a env | .bad => .bad) := q
  cases hr : v.e i env with
  | ok d k env' => rw [hr] at q; exact fun u H' F Fs' s' => q u σ H' F Fs' s'
  | ex k a env' => rw [hr] at q; exact fun cls dd H' Fs' s' x => q cls dd σ H' Fs' s' x
  | bad => rw [hr] at q; exact q
theorem ns_expr {i : E} {e : Expr} {pos : Pos} (h : PE X e (tE v Γ W i)) (hs : swapsWith e none pos.line X.env = pure false) : PS X (.Expr e pos) (tS1 v m Γ W (.expr i)) := by
  refine ⟨fun pins s σ H D I ⟨env, Fs, ts, r, q⟩ => (L2.ps_expr h hs).run pins s σ H D I ⟨env, Fs, ts, r, ?_⟩⟩
  have q : PF Γ W ts D (match v.e i env with | .ok _ _ env => .nx env | .ex c a env => .ex c a env | .bad => .bad) := q
  cases hr : v.e i env with
  | ok d k env' => rw [hr] at q; exact fun u H' F Fs' s' => q σ H' Fs' s'.pop
  | ex k a env' => rw [hr] at q; exact fun cls dd H' Fs' s' x => q cls dd σ H' Fs' s' x
  | bad => rw [hr] at q; exact q
theorem ns_ite {t : E} {a b : List Eng.S} {et : Expr} {ea eb : List Stmt} {pos : Pos} (ht : PT X et (tT v Γ W t)) (ha : PSs X ea (tS v Γ W a)) (hb : PSs X eb (tS v Γ W b)) : PS X (.If et ea eb pos) (tS1 v m Γ W (.ite t a b)) := by
  refine ⟨fun pins s σ H D I ⟨env, Fs, ts, r, q⟩ => (L2.ps_if ht ha hb).run pins s σ H D I ⟨env, Fs, ts, r, ?_⟩⟩
  have q : PF Γ W ts D (testF v t env fun k env => v.s (if k then a else b) env) := q
  rw [testF_eq] at q
  cases hr : tstR v t env with
  | ok k env' =>
    rw [hr] at q
    intro H' Fs' s'
    cases k with
    | true => exact ⟨env', Fs', ts, s', q⟩
    | false => exact ⟨env', Fs', ts, s', q⟩
  | ex k x env' => rw [hr] at q; exact fun cls dd H' Fs' s' x => q cls dd σ H' Fs' s' x
  | bad => rw [hr] at q; exact q
/-- while, its turns told by the fuel -/
theorem ns_whl {t : E} {b : List Eng.S} {et : Expr} {eb : List Stmt} {pos : Pos} (C : Ctx Dw n S X Γ W) (hst : S.stm = true) (ht : PT X et (tT v Γ W t)) (hb : PSs X eb (tS v Γ W b)) : PS X (.While et eb [] pos) (tS1 v m Γ W (.whl t b)) := by
  refine ⟨fun pins s σ H D I ⟨env, Fs, ts, r, q⟩ => (L2.ps_while (C.pas hst) ht hb).run pins s σ H D I ?_⟩
  have q : PF Γ W ts D (whlGo v t b 200000 env) := q
  refine ⟨fun k σ H => ∃ env Fs, SR Γ H env σ Fs ts ∧ PF Γ W ts D (whlGo v t b k env), ⟨_, env, Fs, r, q⟩, ?_⟩
  rintro k σ1 H1 ⟨env1, Fs1, r1, q1⟩
  cases k with
  | zero => exact q1.elim
  | succ k =>
    refine ⟨env1, Fs1, ts, r1, ?_⟩
    have q1 : PF Γ W ts D (testF v t env1 fun c env1 => if c then (match v.s b env1 with
        | .nx env2 => whlGo v t b k env2
        | .bk env2 => .nx env2
        | r => r) else .nx env1) := q1
    rw [testF_eq] at q1
    cases hr : tstR v t env1 with
    | ok k2 env2 =>
      rw [hr] at q1
      intro H2 Fs2 r2
      cases k2 with
      | false => exact q1 σ1 H2 Fs2 r2
      | true =>
        have q1 : PF Γ W ts D (match v.s b env2 with
          | .nx env2 => whlGo v t b k env2
          | .bk env2 => .nx env2
          | r => r) := q1
        rw [if_pos rfl]
        refine ⟨fun σ' H' => ∃ env' Fs', SR Γ H' env' σ' Fs' ts ∧ PF Γ W ts D (whlGo v t b k env'), fun σ' H' x => ⟨k, Nat.lt_succ_self _, x⟩, env2, Fs2, ts, r2, ?_⟩
        cases hb2 : v.s b env2 with
        | nx env3 => rw [hb2] at q1; exact fun σ3 H3 Fs3 r3 => ⟨env3, Fs3, r3, q1⟩
        | rt d n env3 => rw [hb2] at q1; exact q1
        | bk env3 => rw [hb2] at q1; exact q1
        | ex k a env3 => rw [hb2] at q1; exact q1
        | bad => rw [hb2] at q1; exact q1
    | ex k2 x env2 => rw [hr] at q1; exact fun cls dd H' Fs' s' x => q1 cls dd σ1 H' Fs' s' x
    | bad => rw [hr] at q1; exact q1
end
/-! ### targets -/
theorem pg_lk {X : Cx} {e : Expr} {t : TG} (h : PG X e t) : PG X e (fun v σ H Q => Lk (fun H' => t v σ H' Q) H) := ⟨fun pins s σ H v u Q I r k => by
  obtain ⟨H', I', q⟩ := k.inv I
  exact h.run pins s σ H' v u Q I' r q⟩
mutual
/-- the slots that a target writes -/
def tSlots : T → List Nat
  | .nm i _ => [i]
  | .tp ts => tSlotsL ts
  | .st _ _ => []
def tSlotsL : List T → List Nat
  | [] => []
  | t :: ts => tSlots t ++ tSlotsL ts
end
/-- all but these slots stay -/
def Only (l : List Nat) (σ σ' : L2.St) : Prop := σ'.length = σ.length ∧ ∀ j, j ∉ l → σ'[j]? = σ[j]?
section
variable (Γ : Gm)
def tG (t : T) : TG := fun u σ H Q => ∃ env Fs ts d n F, SR Γ H env σ Fs (⟨d, n, u, F⟩ :: ts) ∧ match asgT t (d, n) env with
  | some env' => ∀ σ' H' Fs', Only (tSlots t) σ σ' → SR Γ H' env' σ' Fs' ts → Q σ' H'
  | none => False
def tGs (t : List T) : TGs := fun us σ H Q => ∃ env Fs ts tl, tl.map (·.v) = us ∧ SR Γ H env σ Fs (tl ++ ts) ∧ match asgL t (tl.map fun t => (t.d, t.n)) env with
  | some env' => ∀ σ' H' Fs', Only (tSlotsL t) σ σ' → SR Γ H' env' σ' Fs' ts → Q σ' H'
  | none => False
end
section
variable {Dw : Wd} {n : Nat} {S : Sx} {X : Cx} {Γ : Gm} {W : WX} {v : Ev} {m : Mod} {c : Nat}
theorem SR.capped {H : Hp} {env : Env} {σ : L2.St} {Fs : Nat → List Addr} {ts : List Tmp} {t : Tmp} {Q : Hp → Prop} (s : SR Γ H env σ Fs (t :: ts)) {k : Nat} (hk : k < 9) (h : ∀ H' G, SR Γ H' env σ Fs (⟨t.d, capN t.n k, t.v, G⟩ :: ts) → Q H') : Lk Q H := by
  obtain ⟨L, nd, mu, _, r⟩ := s.cap k hk
  refine .frz L nd mu fun ob => .done ?_
  obtain ⟨G, _, _, s2⟩ := r ob
  exact h _ G s2
theorem ng_nm {i lv : Nat} {x : Str} {pos : Pos} (C : Ctx Dw n S X Γ W) (h : S.loc i x = true) (hp : i ∉ S.pins) : PG X (.Name x pos) (tG Γ (.nm i lv)) := by
  obtain ⟨h1, h2⟩ := and_ok h
  obtain ⟨hl, hf⟩ := C.loc h2
  have hi : X.N[i]? = some x := by rw [C.N]; exact of_decide_eq_true h1
  refine ⟨fun pins s σ H w u Q I r ⟨env, Fs, ts, d, k, F, sr, q⟩ => (pg_lk (L2.pg_name (by rw [C.N]; exact C.nd) hi hl hf)).run pins s σ H w u Q I r ?_⟩
  have q : match (if i < env.length && lv < 9 then some (setS env i (some (d, capN k lv))) else none) with
    | some env' => ∀ σ' H' Fs', Only [i] σ σ' → SR Γ H' env' σ' Fs' ts → Q σ' H'
    | none => False := q
  split at q
  · rename_i env' he
    split at he
    · rename_i hc
      obtain ⟨hc1, hc2⟩ := and_ok hc
      cases he
      refine sr.capped (of_decide_eq_true hc2) fun H' G s' => ?_
      have hi' : i < σ.length := by rw [← sr.len]; exact of_decide_eq_true hc1
      exact q _ H' _ ⟨by simp, fun j hj => List.getElem?_set_ne (fun z => hj (by simp [z]))⟩ (s'.put hi' fun q hq e => absurd (e ▸ C.pn q hq) hp)
    · cases he
  · exact q.elim
theorem ngs_nil : PGs X [] (tGs Γ []) := ⟨fun pins s σ H ws us Q I r ⟨env, Fs, ts, tl, e, sr, q⟩ => L2.pgs_nil.run pins s σ H ws us Q I r (by
  cases tl with
  | nil => exact ⟨e.symm, q σ H Fs ⟨rfl, fun _ _ => rfl⟩ sr⟩
  | cons t tl => exact q.elim)⟩
theorem assign_cons {e : Expr} {es : List Expr} {env : PySem.Env} (h : notStar e = true) : (assignEach (e :: es) env).map (·.2) = assign e env :: (assignEach es env).map (·.2) := by
  cases e <;> first | rfl | cases h
theorem ngs_cons {t : T} {ts : List T} {e : Expr} {es : List Expr} (h1 : PG X e (tG Γ t)) (h2 : PGs X es (tGs Γ ts)) (hs : notStar e = true) : PGs X (e :: es) (tGs Γ (t :: ts)) := by
  refine ⟨fun pins s σ H ws us Q I r ⟨env, Fs, tr, tl, e, sr, q⟩ => (L2.pgs_cons h1 h2 (assign_cons hs)).run pins s σ H ws us Q I r ?_⟩
  cases tl with
  | nil => exact q.elim
  | cons x tl =>
    subst e
    refine ⟨x.v, tl.map (·.v), rfl, env, Fs, tl ++ tr, x.d, x.n, x.F, sr, ?_⟩
    have q : match (asgT t (x.d, x.n) env).bind (fun env => asgL ts (tl.map fun t => (t.d, t.n)) env) with
      | some env' => ∀ σ' H' Fs', Only (tSlots t ++ tSlotsL ts) σ σ' → SR Γ H' env' σ' Fs' tr → Q σ' H'
      | none => False := q
    cases hr : asgT t (x.d, x.n) env with
    | none => rw [hr] at q; exact q.elim
    | some env1 =>
      rw [hr] at q
      intro σ' H' Fs' on s'
      refine ⟨env1, Fs', tr, tl, rfl, s', ?_⟩
      have q : match asgL ts (tl.map fun t => (t.d, t.n)) env1 with
        | some env' => ∀ σ' H' Fs', Only (tSlots t ++ tSlotsL ts) σ σ' → SR Γ H' env' σ' Fs' tr → Q σ' H'
        | none => False := q
      cases hr2 : asgL ts (tl.map fun t => (t.d, t.n)) env1 with
      | none => rw [hr2] at q; exact q
      | some env2 =>
        rw [hr2] at q
        exact fun σ2 H2 Fs2 on2 s2 => q σ2 H2 Fs2 ⟨on2.1.trans on.1, fun j hj => (on2.2 j fun z => hj (List.mem_append_right _ z)).trans (on.2 j fun z => hj (List.mem_append_left _ z))⟩ s2
theorem assign_len {es : List Expr} {env : PySem.Env} (h : es.all notStar = true) : (assignEach es env).length = es.length ∧ (assignEach es env).findIdx? (·.1) = none := by
  induction es with
  | nil => exact ⟨rfl, rfl⟩
  | cons e es ih =>
    rw [List.all_cons] at h
    obtain ⟨h1, h2⟩ := and_ok h
    obtain ⟨a, b⟩ := ih h2
    have e1 : assignEach (e :: es) env = (false, assign e env) :: assignEach es env := by cases e <;> first | rfl | cases h1
    rw [e1]
    refine ⟨by simp [a], ?_⟩
    rw [List.findIdx?_cons]
    simp [b]
/-- a row of items that stand for themselves becomes pending -/
theorem SR.pushL {H : Hp} {env : Env} {σ : L2.St} {Fs : Nat → List Addr} {ts : List Tmp} : ∀ {l : List D} {vs : List V}, SR Γ H env σ Fs ts → RepL Γ.p H l vs → ∃ tl, tl.map (·.v) = vs ∧ tl.map (fun t => (t.d, t.n)) = flg l ∧ SR Γ H env σ Fs (tl ++ ts)
  | [], vs, s, r => ⟨[], (show vs = [] from r).symm, rfl, s⟩
  | d :: l, vs, s, ⟨w, r, e, h, t⟩ => by
    obtain ⟨tl, a, b, c⟩ := SR.pushL s t
    refine ⟨⟨d, flagOf d, w, []⟩ :: tl, by simp [a, e], by simp [b, flg], c.pushR (own_flag h)⟩
theorem ng_tp {t : List T} {es : List Expr} {k : Nat} {pos : Pos} (C : Ctx Dw n S X Γ W) (hot : S.hot = false) (h : PGs X es (tGs Γ t)) (hl : t.length = es.length) (hs : es.all notStar = true) : PG X (.Tuple es k pos) (tG Γ (.tp t)) := by
  obtain ⟨a1, a2⟩ := assign_len (env := X.env) hs
  refine ⟨fun pins s σ H w u Q I r ⟨env, Fs, ts, d, k, F, sr, q⟩ => ?_⟩
  have q : match ((seqOf d).bind fun l => if l.length = t.length && shareOk d k then asgL t (flg l) env else none) with
    | some env' => ∀ σ' H' Fs', Only (tSlotsL t) σ σ' → SR Γ H' env' σ' Fs' ts → Q σ' H'
    | none => False := q
  have fin : ∀ (l : List D) (vs : List V), RepL Γ.p H l vs → l.length = t.length → (match asgL t (flg l) env with
    | some env' => ∀ σ' H' Fs', Only (tSlotsL t) σ σ' → SR Γ H' env' σ' Fs' ts → Q σ' H'
    | none => False) → vs.length = es.length ∧ tGs Γ t vs σ H Q := fun l vs r hl2 q => by
    obtain ⟨tl, b1, b2, b3⟩ := sr.pop.pushL r
    exact ⟨by rw [r.len, hl2, hl], env, Fs, ts, tl, b1, b3, by rw [b2]; exact q⟩
  cases d with
  | tup l =>
    have q : match (if l.length = t.length && shareOk (.tup l) k then asgL t (flg l) env else none) with
      | some env' => ∀ σ' H' Fs', Only (tSlotsL t) σ σ' → SR Γ H' env' σ' Fs' ts → Q σ' H'
      | none => False := q
    split at q
    · rename_i env' he
      split at he
      · rename_i hc
        obtain ⟨a, vs, e, h1, rr⟩ := own_tup (sr.tmp _ List.mem_cons_self)
        obtain ⟨f1, f2⟩ := fin l vs rr (of_decide_eq_true (and_ok hc).1) (by rw [he]; exact q)
        exact (L2.pg_tup (C.calm hot) h (by rw [a1]) a2).run pins s σ H w u Q I r ⟨a, vs, e, .inl (.inl h1), f1, f2⟩
      · cases he
    · exact q.elim
  | lst l =>
    have q : match (if l.length = t.length && shareOk (.lst l) k then asgL t (flg l) env else none) with
      | some env' => ∀ σ' H' Fs', Only (tSlotsL t) σ σ' → SR Γ H' env' σ' Fs' ts → Q σ' H'
      | none => False := q
    split at q
    · rename_i env' he
      split at he
      · rename_i hc
        obtain ⟨c1, c2⟩ := and_ok hc
        obtain ⟨a, vs, e, h1, rr⟩ := own_lstR (sr.tmp _ List.mem_cons_self) c2
        obtain ⟨f1, f2⟩ := fin l vs rr (of_decide_eq_true c1) (by rw [he]; exact q)
        exact (L2.pg_lst (C.calm hot) h (by rw [a1]) a2).run pins s σ H w u Q I r ⟨a, vs, e, .inl h1, f1, f2⟩
      · cases he
    · exact q.elim
  | _ => exact q.elim
end
end Eng
end

section
set_option linter.all false
set_option maxRecDepth 100000
namespace Eng
open PySem PySem.Spec PyProof.Rows
open L2 (V HO Hp VK TE TS TA TT TI TG TGs TSet PGs PSet WX XK SqL SqT Rd upd upd_same upd_ne Key kV Mut RelV Vals Inv Cx PE PS PT PW PA PI PG PSs Takes tVar tNil tCons tOp Vis Loc Gl Room OpR R2 EP Dp DpAll TruR TruV IxR CallR FnOk Sp Ends PassesAt It)
/-! ### from here on -/
def Gm.at (Γ : Gm) (H : Hp) (L : List Addr) : Gm := { Γ with H0 := H, L0 := L }
def ownAll (Fs : Nat → List Addr) (ts : List Tmp) (k : Nat) : List Addr := (List.range k).flatMap Fs ++ ts.flatMap (·.F)
section
variable {Γ : Gm} {H H' : Hp} {env env' : Env} {σ σ' : L2.St} {Fs Fs' : Nat → List Addr} {ts ts' : List Tmp}
theorem SR.in_all (s : SR Γ H env σ Fs ts) : (∀ i b, b ∈ Fs i → b ∈ ownAll Fs ts σ.length) ∧ ∀ t ∈ ts, ∀ b ∈ t.F, b ∈ ownAll Fs ts σ.length := by
  constructor
  · intro i b hb
    refine List.mem_append_left _ (List.mem_flatMap.mpr ⟨i, ?_, hb⟩)
    rw [List.mem_range]
    cases e : getS env i with
    | none => rw [s.non i e] at hb; cases hb
    | some x => obtain ⟨v, hv, _⟩ := s.at_ i x.1 x.2 e; exact (List.getElem?_eq_some_iff.mp hv).1
  · intro t ht b hb
    exact List.mem_append_right _ (List.mem_flatMap.mpr ⟨t, ht, hb⟩)
theorem SR.enter (s : SR Γ H env σ Fs ts) : SR (Γ.at H (ownAll Fs ts σ.length)) H env σ Fs ts :=
  ⟨s.len, s.at_, s.non, s.tmp, s.nds, s.ndt, s.djs, s.djt, s.djm, fun i b hb => .inl (s.in_all.1 i b hb), fun t ht b hb => .inl (s.in_all.2 t ht b hb), fun b o e _ _ => e, s.tabs, fun b ps e => ⟨ps, e⟩, s.pin⟩
theorem SR.leave (s : SR Γ H env σ Fs ts) (s' : SR (Γ.at H (ownAll Fs ts σ.length)) H' env' σ' Fs' ts') : SR Γ H' env' σ' Fs' ts' := by
  have f0 : ∀ b, b ∈ ownAll Fs ts σ.length → b ∈ Γ.L0 ∨ Γ.H0 b = none := fun b hb => by
    rcases List.mem_append.mp hb with hb | hb
    · obtain ⟨i, _, hb⟩ := List.mem_flatMap.mp hb; exact s.frs i b hb
    · obtain ⟨t, ht, hb⟩ := List.mem_flatMap.mp hb; exact s.frt t ht b hb
  have f1 : ∀ b, (b ∈ ownAll Fs ts σ.length ∨ H b = none) → b ∈ Γ.L0 ∨ Γ.H0 b = none := fun b hb => hb.elim (f0 b) s.fresh
  refine ⟨s'.len, s'.at_, s'.non, s'.tmp, s'.nds, s'.ndt, s'.djs, s'.djt, s'.djm, fun i b hb => f1 b (s'.frs i b hb), fun t ht b hb => f1 b (s'.frt t ht b hb), fun b o e n z => ?_, s'.tabs, fun b ps e => ?_, s'.pin⟩
  · refine s'.keep b o (s.keep b o e n z) (fun hl => ?_) z
    rcases f0 b hl with h | h
    · exact n h
    · rw [e] at h; cases h
  · obtain ⟨q, z⟩ := s.tbk b ps e
    exact s'.tbk b q z
end
/-! ### what is walked -/
/-- J walks over l while us is pending -/
def Walks (Γ : Gm) (J : L2.It) (us : List Tmp) (l : List (D × Nat)) : Prop := ∀ i H env σ Fs ts, SR Γ H env σ Fs (us ++ ts) →
  (i < l.length → J.go i H) ∧ (l.length ≤ i → J.stop i H) ∧ ∀ x H', i < l.length → J.yld i H x H' → ∃ y, l[i]? = some y ∧ SR Γ H' env σ Fs (⟨y.1, y.2, x, []⟩ :: (us ++ ts))
section
variable (v : Ev) (Γ : Gm) (W : WX)
def tI (i : Eng.It) : TI := fun σ H R => ∃ env Fs ts, SR Γ H env σ Fs ts ∧ PL Γ W σ ts (fun l env' => ∀ J H' Fs' us, SR Γ H' env' σ Fs' (us ++ ts) → Walks (Γ.at H' (ownAll Fs' (us ++ ts) σ.length)) J us l → R J H') (v.it i env)
end
section
variable {Dw : Wd} {n : Nat} {S : Sx} {X : Cx} {Γ : Gm} {W : WX} {v : Ev} {m : Mod} {c : Nat}
theorem pg_any {X : Cx} {e : Expr} {t : T} (h : ∀ H L, PG X e (tG (Γ.at H L) t)) : PG X e (fun u σ H Q => ∃ H1 L, tG (Γ.at H1 L) t u σ H Q) := ⟨fun pins s σ H v u Q I r ⟨H1, L, q⟩ => (h H1 L).run pins s σ H v u Q I r q⟩
theorem pss_any {X : Cx} {e : List Stmt} {b : List Eng.S} (h : ∀ H L, PSs X e (tS v (Γ.at H L) W b)) : PSs X e (fun D σ H => ∃ H1 L, tS v (Γ.at H1 L) W b D σ H) := ⟨fun pins s σ H D I ⟨H1, L, q⟩ => (h H1 L).run pins s σ H D I q⟩
theorem ns_for {t : T} {i : Eng.It} {b : List Eng.S} {et ei : Expr} {eb : List Stmt} {pos : Pos} (C : Ctx Dw n S X Γ W) (hot : S.hot = false) (hst : S.stm = true) (hi : PI X et ei (tI v Γ W i)) (hg : ∀ H L, PG X et (tG (Γ.at H L) t)) (hb : ∀ H L, PSs X eb (tS v (Γ.at H L) W b)) (hs : ∀ x, foldedSetIterable ei X.env x = pure x) : PS X (.For et ei eb [] pos) (tS1 v m Γ W (.for_ t i b)) := by
  -- the ground of the loop is chosen when its source has come
  refine ⟨fun pins s σ H D I ⟨env, Fs, ts, r, q⟩ => (L2.ps_for (C.pas hst) (C.calm hot) hi (pg_any hg) (pss_any hb) hs).run pins s σ H D I ⟨env, Fs, ts, r, ?_⟩⟩
  have q : PF Γ W ts D (match v.it i env with
    | .ok l env1 => forGo v t b l env1
    | .ex c a env1 => .ex c a env1
    | .bad => .bad) := q
  cases hr : v.it i env with
  | ex k a env1 => rw [hr] at q; exact fun cls dd H' Fs' s' x => q cls dd σ H' Fs' s' x
  | bad => rw [hr] at q; exact q
  | ok l env1 =>
    rw [hr] at q
    have q : PF Γ W ts D (forGo v t b l env1) := q
    intro J H1 Fs1 us s1 wk
    generalize hΓ : Γ.at H1 (ownAll Fs1 (us ++ ts) σ.length) = Γ1 at wk
    have back : ∀ {H2 env2 σ2 Fs2 ts2}, SR Γ1 H2 env2 σ2 Fs2 ts2 → SR Γ H2 env2 σ2 Fs2 ts2 := fun s2 => by subst hΓ; exact s1.leave s2
    have s1' : SR Γ1 H1 env1 σ Fs1 (us ++ ts) := by subst hΓ; exact s1.enter
    have hp : Γ1.p = Γ.p := by subst hΓ; rfl
    refine ⟨fun i k σ H => k = l.length - i ∧ i ≤ l.length ∧ ∃ env Fs, SR Γ1 H env σ Fs (us ++ ts) ∧ PF Γ W ts D (forGo v t b (l.drop i) env), ⟨_, rfl, Nat.zero_le _, env1, Fs1, s1', q⟩, ?_⟩
    rintro i k σ2 H2 ⟨rfl, hi, env2, Fs2, s2, q2⟩
    obtain ⟨w1, w2, w3⟩ := wk i H2 env2 σ2 Fs2 ts s2
    by_cases hlt : i < l.length
    · refine .inr ⟨w1 hlt, fun σ' H' => ∃ env Fs, SR Γ1 H' env σ' Fs (us ++ ts) ∧ PF Γ W ts D (forGo v t b (l.drop (i + 1)) env), fun σ' H' x => ⟨l.length - (i + 1), by omega, rfl, hlt, x⟩, fun x H' hy => ?_⟩
      obtain ⟨y, hy1, s3⟩ := w3 x H' hlt hy
      have hd : l.drop i = y :: l.drop (i + 1) := by
        rw [List.drop_eq_getElem_cons hlt]
        congr 1
        rw [List.getElem?_eq_getElem hlt] at hy1
        exact Option.some.inj hy1
      rw [hd] at q2
      have q2 : PF Γ W ts D (match asgT t y env2 with
        | none => .bad
        | some env1 => (match v.s b env1 with
          | .nx env2 => forGo v t b (l.drop (i + 1)) env2
          | .bk env2 => .nx env2
          | r => r)) := q2
      refine ⟨H1, ownAll Fs1 (us ++ ts) σ.length, ?_⟩
      rw [hΓ]
      refine ⟨env2, Fs2, us ++ ts, y.1, y.2, [], s3, ?_⟩
      cases ha : asgT t y env2 with
      | none => rw [ha] at q2; exact q2
      | some env3 =>
        rw [ha] at q2
        dsimp only at q2 ⊢
        intro σ3 H3 Fs3 _ s4
        refine ⟨H1, ownAll Fs1 (us ++ ts) σ.length, ?_⟩
        rw [hΓ]
        refine ⟨env3, Fs3, us ++ ts, s4, ?_⟩
        cases hb2 : v.s b env3 with
        | nx env4 => rw [hb2] at q2; exact fun σ4 H4 Fs4 s5 => ⟨env4, Fs4, s5, q2⟩
        | rt d k env4 => rw [hb2] at q2; exact fun u σ4 H4 F Fs4 s5 => q2 u σ4 H4 F Fs4 ((back s5).sub (List.Sublist.cons_cons _ (List.sublist_append_right _ _)))
        | bk env4 => rw [hb2] at q2; exact fun σ4 H4 Fs4 s5 => q2 σ4 H4 Fs4 (back s5).tail
        | ex k a env4 => rw [hb2] at q2; exact fun cls dd σ4 H4 Fs4 s5 x => q2 cls dd σ4 H4 Fs4 (back s5).tail (by rw [← hp]; exact x)
        | bad => rw [hb2] at q2; exact q2
    · have e : i = l.length := by omega
      refine .inl ⟨w2 (by omega), ?_⟩
      rw [e, List.drop_length] at q2
      exact q2 σ2 H2 Fs2 (back s2).tail
/-! ### the kinds -/
theorem onIts_run {es : List E} {k : List D → Option (List (D × Nat))} {R : L2.It → Hp → Prop} {Q' : List V → Hp → Prop} {env : Env} {σ : L2.St} {H : Hp} {Fs : Nat → List Addr} {ts : List Tmp} (s : SR Γ H env σ Fs ts)
    (q : PL Γ W σ ts (fun l env' => ∀ J H' Fs' us, SR Γ H' env' σ Fs' (us ++ ts) → Walks (Γ.at H' (ownAll Fs' (us ++ ts) σ.length)) J us l → R J H') (onIts v es env k)) (hn : es.all (fun e => (isPl e).isNone) = true)
    (hk : ∀ us H' env' Fs' tl l, SR Γ H' env' σ Fs' (tl ++ ts) → tl.length = es.length → us = tl.map (·.v) → (∀ t ∈ tl, ∃ k, t.n = capN k 0) → k (tl.map (·.d)) = some l → (∀ J H' Fs' us, SR Γ H' env' σ Fs' (us ++ ts) → Walks (Γ.at H' (ownAll Fs' (us ++ ts) σ.length)) J us l → R J H') → Q' us H') : tOs v Γ W 0 es σ H Q' := by
  refine evL_run es s ?_
  unfold onIts at q
  cases hr : evL v 0 es env with
  | ok ds env' =>
    rw [hr] at q
    dsimp only at q
    intro us H' Fs' tl s' o
    obtain ⟨i1, i2, i3, i4⟩ := o.np hn
    have e1 : ds.map (·.1) = tl.map (·.d) := by rw [i1]; simp
    rw [e1] at q
    cases hl : k (tl.map (·.d)) with
    | none => rw [hl] at q; exact q.elim
    | some l => rw [hl] at q; exact hk us H' env' Fs' tl l s' (by rw [← o.len, i2]; simp) i2 i3 hl q
  | ex k a env' => rw [hr] at q; exact q
  | bad => rw [hr] at q; exact q
theorem tmp0 {H : Hp} {env : Env} {σ : L2.St} {Fs : Nat → List Addr} {ts : List Tmp} {t : Tmp} (s : SR Γ H env σ Fs (t :: ts)) (h : ∃ k, t.n = capN k 0) : Rep Γ.p H t.d t.v ∧ t.F = [] := by
  obtain ⟨k, e⟩ := h
  refine (s.tmp t List.mem_cons_self).rep ?_
  rw [e]
  unfold capN
  split
  · exact .inr rfl
  · exact .inl (by omega)
theorem flg_get {l : List D} {i : Nat} : (flg l)[i]? = (l[i]?).map fun x => (x, flagOf x) := by unfold flg; rw [List.getElem?_map]
theorem walks_lst {l : List D} {a : Addr} {t : Tmp} (hd : t.d = .lst l) (hv : t.v = .ref a) (hn : ∃ k, t.n = capN k 0) : Walks Γ (L2.Itl Γ.p.K a) [t] (flg l) := by
  intro i H env σ Fs ts s
  have s : SR Γ H env σ Fs (t :: ts) := s
  obtain ⟨r, _⟩ := tmp0 s hn
  rw [hd, hv] at r
  obtain ⟨a', vs, ob, e, e2, r⟩ := r
  cases e
  have sq : SqL Γ.p.K H a vs := .inl (.inr ⟨ob, e2⟩)
  refine ⟨fun h => ?_, fun h => ⟨vs, sq, by rw [r.len]; simpa [flg] using h⟩, fun x H' hl hy => ?_⟩
  · have h : i < l.length := by simpa [flg] using h
    obtain ⟨w, hw, _⟩ := r.get (List.getElem?_eq_getElem h)
    exact ⟨vs, w, sq, hw⟩
  · obtain ⟨e, hx⟩ := hy
    subst e
    have hx := hx vs sq
    have hi : i < l.length := by rw [← r.len]; exact (List.getElem?_eq_some_iff.mp hx).1
    obtain ⟨w, hw, rw'⟩ := r.get (List.getElem?_eq_getElem hi)
    rw [hx] at hw
    cases hw
    exact ⟨(l[i], flagOf l[i]), by rw [flg_get, List.getElem?_eq_getElem hi]; rfl, s.pushR (own_flag rw')⟩
theorem walks_tup {l : List D} {a : Addr} {t : Tmp} (hd : t.d = .tup l) (hv : t.v = .ref a) (hn : ∃ k, t.n = capN k 0) : Walks Γ (L2.Itt Γ.p.K a) [t] (flg l) := by
  intro i H env σ Fs ts s
  have s : SR Γ H env σ Fs (t :: ts) := s
  obtain ⟨r, _⟩ := tmp0 s hn
  rw [hd, hv] at r
  obtain ⟨a', vs, e, e2, r⟩ := r
  cases e
  have sq : SqT Γ.p.K H a vs := .inl (.inl e2)
  refine ⟨fun h => ?_, fun h => ⟨vs, sq, by rw [r.len]; simpa [flg] using h⟩, fun x H' hl hy => ?_⟩
  · have h : i < l.length := by simpa [flg] using h
    obtain ⟨w, hw, _⟩ := r.get (List.getElem?_eq_getElem h)
    exact ⟨vs, w, sq, hw⟩
  · obtain ⟨e, hx⟩ := hy
    subst e
    have hx := hx vs sq
    have hi : i < l.length := by rw [← r.len]; exact (List.getElem?_eq_some_iff.mp hx).1
    obtain ⟨w, hw, rw'⟩ := r.get (List.getElem?_eq_getElem hi)
    rw [hx] at hw
    cases hw
    exact ⟨(l[i], flagOf l[i]), by rw [flg_get, List.getElem?_eq_getElem hi]; rfl, s.pushR (own_flag rw')⟩
theorem flg_rng {f : Nat → Int} {k i : Nat} (h : i < k) : (flg ((List.range k).map fun (j : Nat) => D.int (f j)))[i]? = some (.int (f i), 9) := by
  rw [flg_get, List.getElem?_map, List.getElem?_range h]
  rfl
theorem len_rng {f : Nat → Int} {k : Nat} : (flg ((List.range k).map fun (j : Nat) => D.int (f j))).length = k := by simp [flg]
theorem walks_rng {lo : Int} {k : Nat} {us : List Tmp} : Walks Γ (L2.Itr lo k) us (flg ((List.range k).map fun (j : Nat) => .int (lo + (j : Int)))) := by
  intro i H env σ Fs ts s
  rw [len_rng (f := fun j => lo + (j : Int))]
  refine ⟨fun h => show i < k from h, fun h => show k ≤ i from h, fun x H' hl hy => ?_⟩
  obtain ⟨e1, e2⟩ := hy
  subst e1 e2
  exact ⟨_, flg_rng (f := fun j => lo + (j : Int)) hl, SR.pushR s ⟨rfl, rfl, fun _ => rfl⟩⟩
theorem walks_rngC {lo c : Int} {k : Nat} {us : List Tmp} : Walks Γ (L2.Itc lo c k) us (flg ((List.range k).map fun (j : Nat) => .int (lo + (j : Int) * c))) := by
  intro i H env σ Fs ts s
  rw [len_rng (f := fun j => lo + (j : Int) * c)]
  refine ⟨fun h => show i < k from h, fun h => show k ≤ i from h, fun x H' hl hy => ?_⟩
  obtain ⟨e1, e2⟩ := hy
  subst e1 e2
  exact ⟨_, flg_rng (f := fun j => lo + (j : Int) * c) hl, SR.pushR s ⟨rfl, rfl, fun _ => rfl⟩⟩
/-! ### ranges -/
theorem own_temp {H : Hp} {env : Env} {σ : L2.St} {Fs : Nat → List Addr} {ts tl : List Tmp} (s : SR Γ H env σ Fs (tl ++ ts)) {t : Tmp} (ht : t ∈ tl) : Own Γ.p H t.n t.d t.v t.F := s.tmp t (List.mem_append_left _ ht)
theorem SZ62 {i : Int} (h : i.natAbs ≤ SZ) : -(2 ^ 62) ≤ i ∧ i < 2 ^ 62 := by
  have e : SZ = 100000 := rfl
  rw [e] at h
  omega
theorem one_of {α : Type} {l : List α} (h : l.length = 1) : ∃ a, l = [a] := by
  cases l with
  | nil => cases h
  | cons a l => cases l with
    | nil => exact ⟨a, rfl⟩
    | cons _ _ => cases h
theorem two_of {α : Type} {l : List α} (h : l.length = 2) : ∃ a b, l = [a, b] := by
  cases l with
  | nil => cases h
  | cons a l =>
    obtain ⟨b, e⟩ := one_of (l := l) (by simpa using h)
    exact ⟨a, b, by rw [e]⟩
theorem three_of {α : Type} {l : List α} (h : l.length = 3) : ∃ a b c, l = [a, b, c] := by
  cases l with
  | nil => cases h
  | cons a l =>
    obtain ⟨b, c, e⟩ := two_of (l := l) (by simpa using h)
    exact ⟨a, b, c, by rw [e]⟩
theorem ni_rng1 {a : E} {ea tg : Expr} {p pos : Pos} (C : Ctx Dw n S X Γ W) (hx : S.blt "range" "range" = true) (hn : isPl a = none) (ha : PE X ea (tO v Γ W 0 a)) (hs : notStar ea = true) : PI X tg (.Call (.Name "range" p) [ea] [] pos) (tI (step m v) Γ W (.rng [a])) := by
  obtain ⟨_, hg, hd, hm⟩ := C.blt hx
  refine ⟨fun pins s σ H R I ⟨env, Fs, ts, sr, q⟩ => (L2.pi_range1 hg hm (L2.pa_cons ha L2.pa_nil (star_ok hs)) (star_ok hs)).run pins s σ H R I ?_⟩
  refine onIts_run (es := [a]) (k := fun ds => (rngOf ds).map flg) sr q (by simp [hn]) fun us H' env' Fs' tl l s' el e1 e2 hl hk => ?_
  obtain ⟨l0, hl0, e3⟩ := Option.map_eq_some_iff.mp hl
  obtain ⟨t, e4⟩ := one_of el
  subst e4 e3 e1
  have o := s'.tmp t List.mem_cons_self
  obtain ⟨d, k0, w, F⟩ := t
  cases d with
  | int b =>
    have hl0 : (if b.natAbs ≤ SZ then some ((List.range b.toNat).map fun (k : Nat) => D.int (0 + (k : Int))) else none) = some l0 := hl0
    split at hl0
    · rename_i hz
      cases hl0
      exact ⟨b, congrArg (fun x => [x]) (own_int o), (SZ62 hz).1, (SZ62 hz).2, hk _ H' Fs' [] s'.tail walks_rng⟩
    · cases hl0
  | _ => cases hl0
theorem ni_rng2 {a b : E} {ea eb tg : Expr} {p pos : Pos} (C : Ctx Dw n S X Γ W) (hx : S.blt "range" "range" = true) (hn : isPl a = none) (hn2 : isPl b = none) (ha : PE X ea (tO v Γ W 0 a)) (hb : PE X eb (tO v Γ W 0 b)) (hs : notStar ea = true) (hs2 : notStar eb = true) : PI X tg (.Call (.Name "range" p) [ea, eb] [] pos) (tI (step m v) Γ W (.rng [a, b])) := by
  obtain ⟨_, hg, hd, hm⟩ := C.blt hx
  have st : starEach [ea, eb] X.env = [(false, eval ea X.env), (false, eval eb X.env)] := by rw [star_ok hs, star_ok hs2]; rfl
  refine ⟨fun pins s σ H R I ⟨env, Fs, ts, sr, q⟩ => (L2.pi_range2 hg hm (L2.pa_cons ha (L2.pa_cons hb L2.pa_nil (star_ok hs2)) (star_ok hs)) st (star_ok hs2)).run pins s σ H R I ?_⟩
  refine onIts_run (es := [a, b]) (k := fun ds => (rngOf ds).map flg) sr q (by simp [hn, hn2]) fun us H' env' Fs' tl l s' el e1 e2 hl hk => ?_
  obtain ⟨l0, hl0, e3⟩ := Option.map_eq_some_iff.mp hl
  obtain ⟨t, t2, e4⟩ := two_of el
  subst e4 e3 e1
  have o := s'.tmp t List.mem_cons_self
  have o2 := s'.tmp t2 (List.mem_cons_of_mem _ List.mem_cons_self)
  obtain ⟨d, k0, w, F⟩ := t
  obtain ⟨d2, k2, w2, F2⟩ := t2
  cases d with
  | int i =>
    cases d2 with
    | int j =>
      have hl0 : (if i.natAbs ≤ SZ ∧ j.natAbs ≤ SZ then some ((List.range (j - i).toNat).map fun (k : Nat) => D.int (i + (k : Int))) else none) = some l0 := hl0
      split at hl0
      · rename_i hz
        cases hl0
        refine ⟨i, j, ?_, ⟨(SZ62 hz.1).1, (SZ62 hz.1).2, (SZ62 hz.2).1, (SZ62 hz.2).2⟩, hk _ H' Fs' [] s'.tail walks_rng⟩
        show [w, w2] = _
        rw [show w = V.int i from own_int o, show w2 = V.int j from own_int o2]
      · cases hl0
    | _ => cases hl0
  | _ => cases hl0
theorem fits_of {i : Int} (h1 : -(2 ^ 63) ≤ i) (h2 : i < 2 ^ 63) : Builtin.Range.rangeFitsLong i = true := by
  unfold Builtin.Range.rangeFitsLong
  rw [decide_eq_true h1, decide_eq_true h2]
  rfl
theorem ni_rng3 {a b c : E} {ea eb ec tg : Expr} {p pos : Pos} (C : Ctx Dw n S X Γ W) (hx : S.blt "range" "range" = true) (hn : isPl a = none) (hn2 : isPl b = none) (hn3 : isPl c = none) (ha : PE X ea (tO v Γ W 0 a)) (hb : PE X eb (tO v Γ W 0 b)) (hc : PE X ec (tO v Γ W 0 c)) (hs : notStar ea = true) (hs2 : notStar eb = true) (hs3 : notStar ec = true) : PI X tg (.Call (.Name "range" p) [ea, eb, ec] [] pos) (tI (step m v) Γ W (.rng [a, b, c])) := by
  obtain ⟨_, hg, hd, hm⟩ := C.blt hx
  refine ⟨fun pins s σ H R I ⟨env, Fs, ts, sr, q⟩ => (L2.pi_range3 hg hm (L2.pa_cons ha (L2.pa_cons hb (L2.pa_cons hc L2.pa_nil (star_ok hs3)) (star_ok hs2)) (star_ok hs)) (star_ok hs) (back_no (by simp [hs2, hs3]))).run pins s σ H R I ?_⟩
  refine onIts_run (es := [a, b, c]) (k := fun ds => (rngOf ds).map flg) sr q (by simp [hn, hn2, hn3]) fun us H' env' Fs' tl l s' el e1 e2 hl hk => ?_
  obtain ⟨l0, hl0, e3⟩ := Option.map_eq_some_iff.mp hl
  obtain ⟨t, t2, t3, e4⟩ := three_of el
  subst e4 e3 e1
  have o := s'.tmp t List.mem_cons_self
  have o2 := s'.tmp t2 (List.mem_cons_of_mem _ List.mem_cons_self)
  have o3 := s'.tmp t3 (List.mem_cons_of_mem _ (List.mem_cons_of_mem _ List.mem_cons_self))
  obtain ⟨d, k0, w, F⟩ := t
  obtain ⟨d2, k2, w2, F2⟩ := t2
  obtain ⟨d3, k3, w3, F3⟩ := t3
  cases d with
  | int i =>
    cases d2 with
    | int j =>
      cases d3 with
      | int z =>
        have hl0 : (if i.natAbs ≤ SZ ∧ j.natAbs ≤ SZ ∧ z.natAbs ≤ SZ ∧ z ≠ 0 ∧ 0 ≤ Builtin.Range.rangeSize i j z ∧ Builtin.Range.rangeSize i j z ≤ SZ then
          some ((List.range (Builtin.Range.rangeSize i j z).toNat).map fun (k : Nat) => D.int (i + (k : Int) * z)) else none) = some l0 := hl0
        split at hl0
        · rename_i hz
          cases hl0
          obtain ⟨z1, z2, z3, z4, z5, z6⟩ := hz
          have e : SZ = 100000 := rfl
          rw [e] at z1 z2 z3 z6
          refine ⟨i, j, z, _, ?_, ⟨z4, by omega, ?_, (Int.toNat_of_nonneg z5).symm⟩, hk _ H' Fs' [] s'.tail walks_rngC⟩
          · show [w, w2, w3] = _
            rw [show w = V.int i from own_int o, show w2 = V.int j from own_int o2, show w3 = V.int z from own_int o3]
          · unfold Builtin.Range.small
            rw [fits_of (by omega) (by omega), fits_of (by omega) (by omega), fits_of (by omega) (by omega), fits_of (i := Builtin.Range.rangeSize i j z) (by omega) (by omega)]
            split
            · rw [fits_of (by omega) (by omega)]; simp
            · rw [fits_of (by omega) (by omega)]; simp
        · cases hl0
      | _ => cases hl0
    | _ => cases hl0
  | _ => cases hl0
/-! ### a value -/
theorem walks_str {s0 : Str} {us : List Tmp} : Walks Γ (L2.Its s0) us (flg (s0.cps.toList.map fun c => .str ⟨#[c]⟩)) := by
  intro i H env σ Fs ts s
  have hlen : (flg (s0.cps.toList.map fun c => D.str ⟨#[c]⟩)).length = s0.cps.size := by simp [flg]
  rw [hlen]
  refine ⟨fun h => show i < s0.cps.size from h, fun h => show s0.cps.size ≤ i from h, fun x H' hl hy => ?_⟩
  obtain ⟨e1, c, hc, e2⟩ := hy
  subst e1 e2
  refine ⟨(.str ⟨#[c]⟩, 9), ?_, SR.pushR s ⟨rfl, rfl, fun _ => rfl⟩⟩
  rw [flg_get, List.getElem?_map, Array.getElem?_toList, hc]
  rfl
theorem walks_keys {ks ds : List D} {a : Addr} {t : Tmp} {ob : Obj} {kvs : List (Key × V)} (hd : t.d = .dic ks ds) (hv : t.v = .ref a) (hn : ∃ k, t.n = capN k 0) (hk : ks = kvs.map fun p => keyD p.1) (hh : Γ.H0 a = some (.frz ob (.dK kvs))) (hL : a ∉ Γ.L0) : Walks Γ (L2.Itk a ob kvs) [t] (flg ks) := by
  intro i H env σ Fs ts s
  have s : SR Γ H env σ Fs (t :: ts) := s
  have h0 := s.keep a _ hh hL (fun ps z => by cases z)
  have hlen : (flg ks).length = kvs.length := by rw [hk]; simp [flg]
  rw [hlen]
  refine ⟨fun h => ⟨h0, h⟩, fun h => ⟨h0, h⟩, fun x H' hl hy => ?_⟩
  obtain ⟨e1, q, w, hq, e2⟩ := hy
  subst e1 e2
  refine ⟨(keyD q, 9), ?_, SR.pushR s (Own.of (by cases q <;> rfl) (.inr ⟨rfl, by cases q <;> rfl⟩))⟩
  rw [flg_get, hk, List.getElem?_map, hq]
  cases q <;> rfl
end
end Eng
end

section
set_option linter.all false
set_option maxRecDepth 100000
namespace PySem
open Sem (wp)
open AutoSeq1 (wpAny_loadPart')
/-! ### enumerate over a tuple -/
set_option maxHeartbeats 1000000 in
theorem eng_enum_new (l : Addr) (items : Array Value) (o : Obj) (hc : o.cls = .type "tuple") (hd : ∃ n, o.data = .seq items n) :
    Meets (Builtin.«enumerate.__new__» ⟨[.type "enumerate", .ref l], []⟩) (fun _ R s => s.heap.get? l = some o ∧
      R (.ok (.ret (.ref (s.heap.push { cls := .type "tuple_iterator", data := .fields #[.ref l, .int 0 0] }).objs.size)))
        { s with heap := (s.heap.push { cls := .type "tuple_iterator", data := .fields #[.ref l, .int 0 0] }).push { cls := .type "enumerate", data := .fields #[.none, .bool false, .ref s.heap.objs.size, rawInt 0, .none, .none] } }) :=
  .of_wp fun prog w A R s h => by
    obtain ⟨hp, g, d, tk, os⟩ := s; obtain ⟨hl, h⟩ := h
    have hsub := sub_enumerate
    have hL : Heap.IsTuple (Shared.heap ⟨hp, g, d, tk, os⟩) l items := ⟨_, hl, hc, hd⟩
    wp_walk using wpAny_loadPart' hl
    refine wpAny_stack_any fun st => wpAny_pure ?_
    split
    · rename_i c _ _ _ _ _
      cases (c == Value.type "enumerate")
      · wp_walk using wpAny_loadPart' hl, wpAny_pyIter_tuple hL
        exact ⟨_, rfl, h⟩
      · wp_walk using wpAny_loadPart' hl, wpAny_pyIter_tuple hL
        exact ⟨_, rfl, h⟩
    · wp_walk using wpAny_loadPart' hl, wpAny_pyIter_tuple hL
      exact ⟨_, rfl, h⟩
section
variable {prog : Program} {w : World} {A : Around} {E : Value → Shared → Prop} {s : Shared}
theorem eng_enum_call {l : Addr} {items : Array Value} {Q : Value → Shared → Prop} (hL : s.heap.IsTuple l items)
    (h : ∀ h', IsEnum h' (s.heap.objs.size + 1) s.heap.objs.size 0 .none → h'.IsTupleIter s.heap.objs.size l 0 →
      (∀ b o, s.heap.get? b = some o → h'.get? b = some o) → Q (.ref (s.heap.objs.size + 1)) { s with heap := h' }) :
    wpAny (model prog w) A (call (.type "enumerate") [.ref l]) Q E s := by
  obtain ⟨o, hl, hc, hd⟩ := hL
  refine callType_new F.called_enumerate (by decide) (F.typeCall_enumerate_1 _) (F.newCall_enumerate_1 _) (fun obj => F.args_object_init_2 obj _) F.entry_enumerate_new
    (eng_enum_new l items o hc hd) ⟨hl, ?_⟩
  have hz : (s.heap.push { cls := .type "tuple_iterator", data := .fields #[.ref l, .int 0 0] }).objs.size = s.heap.objs.size + 1 := Heap.size_push ..
  show _ ∧ _
  rw [hz]
  have he : IsEnum ((s.heap.push { cls := .type "tuple_iterator", data := .fields #[.ref l, .int 0 0] }).push
      { cls := .type "enumerate", data := .fields #[.none, .bool false, .ref s.heap.objs.size, rawInt 0, .none, .none] }) (s.heap.objs.size + 1) s.heap.objs.size 0 .none := by
    have := Heap.get?_push_size (s.heap.push { cls := .type "tuple_iterator", data := .fields #[.ref l, .int 0 0] })
      (o := { cls := .type "enumerate", data := .fields #[.none, .bool false, .ref s.heap.objs.size, rawInt 0, .none, .none] }) rfl
    rw [hz] at this
    exact this
  refine ⟨⟨_, he, rfl⟩, h _ he ⟨_, Heap.get?_push_of_some _ (Heap.get?_push_size _ rfl), rfl, rfl⟩ fun b o e => Heap.get?_push_of_some _ (Heap.get?_push_of_some _ e)⟩
end
end PySem
namespace Eng
open PySem PySem.Spec PyProof.Rows
open L2 (V HO Hp VK TE TS TA TT TI TG It Turn SqT SqL Inv Cx PE PA PI PIE FpOk RelV Vals upd upd_ne ObjOk Gl)
/-- the tuple at a, each item in a new pair -/
def IteT (K : PySem.W.Frag) (a : Addr) : L2.It :=
  ⟨fun i H => ∃ (xs : List V) (x : V), SqT K H a xs ∧ xs[i]? = some x, fun i H v H' => ∃ T x, v = .ref T ∧ H T = none ∧ H' = upd H T (.tup [.int (i : Nat), x]) ∧ ∀ xs, SqT K H a xs → xs[i]? = some x, fun i H => ∃ xs : List V, SqT K H a xs ∧ xs.length ≤ i⟩
theorem sqT_ne {K : PySem.W.Frag} {X : Cx} {pins : List (Addr × Obj)} {σ : L2.St} {H : Hp} {s : Shared} {a e : Addr} {xs : List V} (I : Inv X pins σ H s) (h : SqT X.K H a xs) (ho : H e = none) (he : e ∉ X.fs ∧ (e ∈ X.ex ∨ X.s_0.heap.objs.size ≤ e)) : e ≠ a := by
  intro z
  subst z
  rcases h with h | ⟨o, its, n, hk, _⟩
  · rcases h with h | ⟨o, h⟩ <;> rw [ho] at h <;> cases h
  · have hb : X.base.get? e = some o := I.ok.mod.kin e o hk
    rcases he.2 with h | h
    · exact I.ok.noex e o hb h
    · exact absurd (Nat.lt_of_lt_of_le (Heap.lt_size hb) (Nat.le_trans I.ok.bsz h)) (Nat.lt_irrefl _)
theorem turn_enumT {P : Program} {w : World} {K : PySem.W.Frag} {elts : List Expr} {kk : Nat} {tpos : Pos} (a e it : Addr) :
    Turn P w K (.Tuple elts kk tpos) (IteT K a) [e, it] e (fun i h => (∃ old, IsEnum h e it ((i : Nat) : Int) old) ∧ h.IsTupleIter it a i ∧ e ≠ it) where
  mem := by simp
  obj := fun i h st b hb => by
    obtain ⟨⟨old, he⟩, ⟨o, ho, hc, hd⟩, _⟩ := st
    have e' : b = e ∨ b = it := by simpa using hb
    rcases e' with z | z
    · rw [z]; exact ⟨_, he, fun v q => nomatch q⟩
    · rw [z]; exact ⟨o, ho, fun v q => by rw [hd] at q; cases q⟩
  keep := fun i h h' st k => let ⟨⟨old, he⟩, hi, hne⟩ := st; ⟨⟨old, k e (by simp) _ he⟩, hi.at fun o q => k it (by simp) o q, hne⟩
  item := by
    intro X hP hw hK hc i pins s σ H E I hf st hg
    subst hP hw hK
    obtain ⟨⟨old, he⟩, hit, hne⟩ := st
    obtain ⟨xs, x, hq, hx⟩ := hg
    obtain ⟨its, rv, p, hz⟩ := I.tuple hq
    obtain ⟨u, hu, ru⟩ := rv.get hx
    have p : s.heap.IsTuple a its.toArray := p
    have hel : e < s.heap.objs.size := Heap.lt_size he
    have hil : it < s.heap.objs.size := by obtain ⟨_, q, _⟩ := hit; exact Heap.lt_size q
    obtain ⟨f0, f1, f2, f3, f4, f5⟩ := hf e (by simp)
    obtain ⟨g0, g1, g2, g3, g4, g5⟩ := hf it (by simp)
    have nea : e ≠ a := sqT_ne (K := X.K) I hq f0 ⟨f2, f3⟩
    have nia : it ≠ a := sqT_ne (K := X.K) I hq g0 ⟨g2, g3⟩
    have D := Draws.tuple (prog := X.prog) (w := X.w) (A := X.A.in1) (I.ok.hd hc) it a (Ne.symm nia) its.toArray
    have hlt : i < its.toArray.size := by
      have := (List.getElem?_eq_some_iff.mp hu).1
      simpa using this
    refine wpAny_pyNext_enum_itemD D he ⟨hit, p⟩ hlt hne (by simp [hne, nea]) fun u' h' tk hu' ho st' hT hsz hk => ?_
    have eu : u' = u := by
      have : its.toArray[i]? = some u := by simpa using hu
      rw [this] at hu'
      exact (Option.some.inj hu').symm
    subst eu
    refine ⟨_, rfl, wpAny_letOwnedTupleGo_enum (s := { s with heap := h', toks := tk + 1 }) ho fun h'' he' sb => ?_⟩
    have hT2 : h''.get? s.heap.objs.size = some { cls := .type "tuple", data := .seq #[.int i tk, u'] } := (sb.2 _ (Nat.ne_of_gt hel)).trans hT
    have new : ObjOk X.prog X.w (upd H s.heap.objs.size (.tup [.int (i : Nat), x])) h'' s.heap.objs.size (.tup [.int (i : Nat), x]) :=
      ⟨by show 2 ≤ sizeLine; decide, [.int i tk, u'], .cons ⟨_, rfl⟩ (.cons ru .nil), ⟨_, hT2, rfl, _, rfl⟩⟩
    have I1 : Inv X pins σ (upd H s.heap.objs.size (.tup [.int (i : Nat), x])) { s with heap := h'', toks := tk + 1 } :=
      I.turnedNew (ch := [e, it]) (fun b ob hb q => (sb.2 b (fun z => hb (by simp [z]))).trans (hk b ob (fun z => hb (by simp [z])) (fun z => hb (by simp [z])) q)) hf (Nat.le_refl _) new
    refine ⟨.ref s.heap.objs.size, _, I1, rfl, ⟨_, x, rfl, I.hok.fresh (Nat.le_refl _), rfl, fun ys hy => by rw [I.tuple_inj hy hq]; exact hx⟩, ⟨⟨u', ?_⟩, st'.1.at fun o q => (sb.2 it (Ne.symm hne)).trans q, hne⟩, fun b hb => ?_⟩
    · have e1 : ((i + 1 : Nat) : Int) = (i : Int) + 1 := by omega
      rw [e1]; exact he'
    · have hb' : b < s.heap.objs.size := by
        have e' : b = e ∨ b = it := by simpa using hb
        rcases e' with z | z
        · rw [z]; exact hel
        · rw [z]; exact hil
      rw [upd_ne (Nat.ne_of_lt hb')]
      exact (hf b hb).1
  done := by
    intro X hP hw hK hc i pins s σ H E I hf st hg
    subst hP hw hK
    obtain ⟨⟨old, he⟩, hit, hne⟩ := st
    obtain ⟨xs, hq, hx⟩ := hg
    obtain ⟨its, rv, p, hz⟩ := I.tuple hq
    have p : s.heap.IsTuple a its.toArray := p
    obtain ⟨g0, g1, g2, g3, g4, g5⟩ := hf it (by simp)
    have nia : it ≠ a := sqT_ne (K := X.K) I hq g0 ⟨g2, g3⟩
    have hl := rv.length
    have hnone : its.toArray[i]? = none := by simp; omega
    have D : Draws X.prog X.w X.A.in1 it [it, a] i (fun _ _ => False) (fun j h => j = i ∧ h.IsTupleIter it a i ∧ h.IsTuple a its.toArray) :=
      { live := fun _ _ st => let ⟨o, ho, _⟩ := st.2.1; ⟨o, ho⟩
        frame := fun _ _ _ st hk => ⟨st.1, st.2.1.at fun o e => hk it (by simp) o e, st.2.2.at fun o e => hk a (by simp) o e⟩
        item := fun j s Q E hj st hQ => absurd hj (by rw [st.1]; exact Nat.lt_irrefl _)
        done := fun s Q E st hE => wpAny_nextOf_tuple_end (I.ok.hd hc) st.2.1 st.2.2 hnone hE }
    exact wpAny_pyNext_enum_endD D he ⟨rfl, hit, p⟩ fun h' eb => ⟨rfl, I.turned (t' := s.toks) (fun b o hb q => eb b o hb q) g0 g1 g3 g4 g5⟩
  self := fun A i s Q E st h => let ⟨⟨_, he⟩, _⟩ := st; wpAny_pyIter_enum he h
def iEnumT (K : PySem.W.Frag) (ta : TA) : TI := fun σ H R => ta σ H fun vs H1 => ∃ a xs, vs = [.ref a] ∧ SqT K H1 a xs ∧ R (IteT K a) H1
theorem pi_enumT {X : Cx} {e : Expr} {ta : TA} {p pos tpos : Pos} {elts : List Expr} {kk : Nat} (hg : Gl X "enumerate") (hm : X.mg "enumerate" = none) (ha : PA X [e] ta) (hs : starEach [e] X.env = [(false, eval e X.env)]) :
    PI X (.Tuple elts kk tpos) (.Call (.Name "enumerate" p) [e] [] pos) (iEnumT X.K ta) := by
  refine ⟨fun pins s σ H R I h => ?_⟩
  refine Call_ (L2.ld_blt I hg hm boot_enumerate (PyProof.Rows.callWith_type1 (L2.thn (ha.run pos pins s σ H _ I h) fun us s1 ⟨vs, H1, I1, r1, q1⟩ => ?_) hs rfl))
  obtain ⟨a, xs, ex, hq, q⟩ := q1
  subst ex
  cases r1 with
  | cons r rr =>
    cases rr
    cases r
    obtain ⟨its, rv, p', hz⟩ := I1.tuple hq
    refine eng_enum_call (items := its.toArray) p' fun h' he hit hk => wpAny_pyIter_enum he ?_
    have I2 : Inv X pins σ H1 { s1 with heap := h' } := I1.kept (t' := s1.toks) hk
    refine ⟨s1.heap.objs.size + 1, [s1.heap.objs.size + 1, s1.heap.objs.size], _, _, H1, rfl, I2, turn_enumT a (s1.heap.objs.size + 1) s1.heap.objs.size, ⟨⟨.none, he⟩, hit, Nat.succ_ne_self _⟩, fun b hb => ?_, q⟩
    have e' : b = s1.heap.objs.size + 1 ∨ b = s1.heap.objs.size := by simpa using hb
    have hle : s1.heap.objs.size ≤ b := by
      rcases e' with z | z
      · rw [z]; exact Nat.le_add_right _ _
      · rw [z]; exact Nat.le_refl _
    exact I1.fpOk hle (I1.hok.fresh hle)
end Eng
end

section
set_option linter.all false
set_option maxRecDepth 100000
namespace Eng
open PySem PySem.Spec PyProof.Rows
open L2 (V HO Hp VK TE TS TA TT TI TG TGs TSet PGs PSet WX XK SqL SqT Rd upd upd_same upd_ne Key kV Mut RelV Vals Inv Cx PE PS PT PW PA PI PG PSs Takes tVar tNil tCons tOp Vis Loc Gl Room OpR R2 EP Dp DpAll TruR TruV IxR CallR FnOk Sp Ends PassesAt)
section
variable {Dw : Wd} {n : Nat} {S : Sx} {X : Cx} {Γ : Gm} {W : WX} {v : Ev} {m : Mod} {c : Nat}
theorem SR.ground {H : Hp} {Fs : Nat → List Addr} {ts : List Tmp} {env : Env} {σ : L2.St} (s : SR Γ H env σ Fs ts) {a : Addr} {ob : Obj} {u : HO} (h : H a = some (.frz ob u)) : a ∉ ownAll Fs ts σ.length := fun hm => by
  have key : Mut (H a) := by
    rcases List.mem_append.mp hm with hb | hb
    · obtain ⟨i, _, hb⟩ := List.mem_flatMap.mp hb; exact s.slot_mut i a hb
    · obtain ⟨t, ht, hb⟩ := List.mem_flatMap.mp hb; exact s.tmp_mut ht a hb
  rw [h] at key
  exact key
/-- one value walked: the operand's end is known -/
theorem on1 {a : E} {k : List D → Option (List (D × Nat))} {R : L2.It → Hp → Prop} {env : Env} {σ : L2.St} {H : Hp} {Fs : Nat → List Addr} {ts : List Tmp} (hn : isPl a = none) (s : SR Γ H env σ Fs ts)
    (q : PL Γ W σ ts (fun l env' => ∀ J H' Fs' us, SR Γ H' env' σ Fs' (us ++ ts) → Walks (Γ.at H' (ownAll Fs' (us ++ ts) σ.length)) J us l → R J H') (onIts v [a] env k)) :
    (∃ k0 x env', v.e a env = .ex k0 x env') ∨ ∃ d k0 env' l, v.e a env = .ok d k0 env' ∧ k [d] = some l ∧
      ∀ Q', (∀ u H' F Fs', SR Γ H' env' σ Fs' (⟨d, capN k0 0, u, F⟩ :: ts) → (∀ J H' Fs' us, SR Γ H' env' σ Fs' (us ++ ts) → Walks (Γ.at H' (ownAll Fs' (us ++ ts) σ.length)) J us l → R J H') → Q' u H') → tO v Γ W 0 a σ H Q' := by
  unfold onIts evL at q
  rw [hn] at q
  dsimp only at q
  cases hr : v.e a env with
  | ex k0 x env' => exact .inl ⟨_, _, _, rfl⟩
  | bad => rw [hr] at q; exact q.elim
  | ok d k0 env' =>
    rw [hr] at q
    have q : PL Γ W σ ts (fun l env' => ∀ J H' Fs' us, SR Γ H' env' σ Fs' (us ++ ts) → Walks (Γ.at H' (ownAll Fs' (us ++ ts) σ.length)) J us l → R J H') (match k [d] with | some l => .ok l env' | none => .bad) := q
    cases hk : k [d] with
    | none => rw [hk] at q; exact q.elim
    | some l =>
      rw [hk] at q
      refine .inr ⟨d, k0, env', l, rfl, hk, fun Q' h => ?_⟩
      unfold tO
      rw [hn]
      refine ⟨env, Fs, ts, s, ?_⟩
      rw [hr]
      exact fun u H' F Fs' s' => h u H' F Fs' s' q
theorem on1x {a : E} {k : List D → Option (List (D × Nat))} {P : List (D × Nat) → Env → Prop} {env : Env} {σ : L2.St} {H : Hp} {Fs : Nat → List Addr} {ts : List Tmp} {Q' : VK} (hn : isPl a = none) (s : SR Γ H env σ Fs ts)
    (q : PL Γ W σ ts P (onIts v [a] env k)) (h : ∃ k0 x env', v.e a env = .ex k0 x env') : tO v Γ W 0 a σ H Q' := by
  obtain ⟨k0, x, env', e⟩ := h
  unfold onIts evL at q
  rw [hn, e] at q
  unfold tO
  rw [hn]
  refine ⟨env, Fs, ts, s, ?_⟩
  rw [e]
  exact q
theorem ni_val {a : E} {ea tg : Expr} (C : Ctx Dw n S X Γ W) (hn : isPl a = none) (ha : PE X ea (tO v Γ W 0 a)) : PI X tg ea (tI (step m v) Γ W (.val a)) := by
  refine ⟨fun pins s σ H R I ⟨env, Fs, ts, sr, q⟩ => ?_⟩
  have hK : X.K = Γ.p.K := C.K.trans C.pK.symm
  rcases on1 (v := v) hn sr q with h | ⟨d, k0, env', l, hr, hl, key⟩
  · exact (L2.pi_list ha).run pins s σ H R I (on1x hn sr q h)
  · cases d with
    | lst x =>
      cases hl
      refine (L2.pi_list ha).run pins s σ H R I (key _ fun u H' F Fs' s' k => ?_)
      obtain ⟨r, eF⟩ := tmp0 s' ⟨k0, rfl⟩
      obtain ⟨b, vs, ob, e1, e2, r⟩ := r
      have e1 : u = .ref b := e1
      subst e1
      rw [hK]
      exact ⟨b, rfl, ⟨vs, .inl (.inr ⟨ob, e2⟩)⟩, k _ H' Fs' [_] s' (walks_lst rfl rfl ⟨k0, rfl⟩)⟩
    | tup x =>
      cases hl
      refine (L2.pi_tup ha).run pins s σ H R I (key _ fun u H' F Fs' s' k => ?_)
      obtain ⟨r, eF⟩ := tmp0 s' ⟨k0, rfl⟩
      obtain ⟨b, vs, e1, e2, r⟩ := r
      have e1 : u = .ref b := e1
      subst e1
      rw [hK]
      exact ⟨b, rfl, ⟨vs, .inl (.inl e2)⟩, k _ H' Fs' [_] s' (walks_tup rfl rfl ⟨k0, rfl⟩)⟩
    | str x =>
      cases hl
      refine (L2.pi_str ha).run pins s σ H R I (key _ fun u H' F Fs' s' k => ?_)
      obtain ⟨r, eF⟩ := tmp0 s' ⟨k0, rfl⟩
      exact ⟨x, r, k _ H' Fs' [_] s' walks_str⟩
    | dic ks ds =>
      have hl : (if ks.all flatKey then some ks else none).map flg = some l := hl
      split at hl
      · rename_i hf
        cases hl
        refine (L2.pi_keys ha).run pins s σ H R I (key _ fun u H' F Fs' s' k => ?_)
        obtain ⟨r, eF⟩ := tmp0 s' ⟨k0, rfl⟩
        obtain ⟨b, vs, ob, w, e1, e2, dd, r⟩ := r
        have e1 : u = .ref b := e1
        subst e1
        obtain ⟨kvs, e3, e4, e5⟩ := dd.flat hf
        subst e3
        refine ⟨b, ob, rfl, .inl ⟨kvs, e2, k _ H' Fs' [_] s' (walks_keys (ds := ds) rfl rfl ⟨k0, rfl⟩ e4 e2 ?_)⟩⟩
        exact s'.ground e2
      · cases hl
    | _ => cases hl
/-! ### enumerate, zip -/
theorem enumN_get : ∀ {l : List D} {k i : Nat}, (enumN k l)[i]? = (l[i]?).map fun x => (.tup [.int ((k + i : Nat) : Int), x], flagOf (.tup [.int ((k + i : Nat) : Int), x]))
  | [], k, i => by simp [enumN]
  | x :: l, k, 0 => by simp [enumN]
  | x :: l, k, i + 1 => by
    show (enumN (k + 1) l)[i]? = (l[i]?).map _
    rw [enumN_get]
    congr 1
    funext y
    rw [show k + 1 + i = k + (i + 1) by omega]
theorem enumN_len : ∀ {l : List D} {k : Nat}, (enumN k l).length = l.length
  | [], _ => rfl
  | x :: l, k => by show (enumN (k + 1) l).length + 1 = _; rw [enumN_len]; rfl
theorem zip2_get : ∀ {a b : List D} {i : Nat} {x y : D}, a[i]? = some x → b[i]? = some y → (zip2 a b)[i]? = some (.tup [x, y], flagOf (.tup [x, y]))
  | [], _, _, _, _, h, _ => by simp at h
  | _ :: _, [], _, _, _, _, h => by simp at h
  | p :: a, q :: b, 0, x, y, h1, h2 => by simp at h1 h2; subst h1 h2; rfl
  | p :: a, q :: b, i + 1, x, y, h1, h2 => zip2_get (a := a) (b := b) (i := i) (by simpa using h1) (by simpa using h2)
theorem zip2_len : ∀ {a b : List D}, (zip2 a b).length = min a.length b.length
  | [], b => by simp [zip2]
  | _ :: _, [] => by simp [zip2]
  | p :: a, q :: b => by show (zip2 a b).length + 1 = _; rw [zip2_len]; simp
theorem rep_pair {p : Par} {H : Hp} {x y : D} {u w : V} {T : Addr} (hT : H T = none) (r1 : Rep p H x u) (r2 : Rep p H y w) : Own p (upd H T (.tup [u, w])) (flagOf (.tup [x, y])) (.tup [x, y]) (.ref T) [] := by
  have kp : ∀ b o, H b = some o → ¬ Mut (some o) → (∀ ps, o ≠ .tbl ps) → upd H T (.tup [u, w]) b = some o := fun b o e _ _ => by rw [upd_ne (L2.ne_of_none e hT)]; exact e
  exact own_flag ⟨T, [u, w], rfl, upd_same, u, [w], rfl, r1.keep kp, w, [], rfl, r2.keep kp, rfl⟩
theorem walks_enumL {l : List D} {a : Addr} {t : Tmp} (hd : t.d = .lst l) (hv : t.v = .ref a) (hn : ∃ k, t.n = capN k 0) : Walks Γ (L2.Ite Γ.p.K a) [t] (enumN 0 l) := by
  intro i H env σ Fs ts s
  have s : SR Γ H env σ Fs (t :: ts) := s
  obtain ⟨r, _⟩ := tmp0 s hn
  rw [hd, hv] at r
  obtain ⟨a', vs, ob, e, e2, r⟩ := r
  cases e
  have sq : SqL Γ.p.K H a vs := .inl (.inr ⟨ob, e2⟩)
  rw [enumN_len]
  refine ⟨fun h => ?_, fun h => ⟨vs, sq, by rw [r.len]; exact h⟩, fun x H' hl hy => ?_⟩
  · obtain ⟨w, hw, _⟩ := r.get (List.getElem?_eq_getElem h)
    exact ⟨vs, w, sq, hw⟩
  · obtain ⟨T, w, e1, hT, e3, hx⟩ := hy
    subst e1 e3
    obtain ⟨w', hw, rw'⟩ := r.get (List.getElem?_eq_getElem hl)
    rw [hx vs sq] at hw
    cases hw
    refine ⟨_, by rw [enumN_get, List.getElem?_eq_getElem hl]; rfl, ?_⟩
    rw [Nat.zero_add]
    exact SR.pushR (s.new hT) (rep_pair hT rfl rw')
theorem walks_enumT {l : List D} {a : Addr} {t : Tmp} (hd : t.d = .tup l) (hv : t.v = .ref a) (hn : ∃ k, t.n = capN k 0) : Walks Γ (IteT Γ.p.K a) [t] (enumN 0 l) := by
  intro i H env σ Fs ts s
  have s : SR Γ H env σ Fs (t :: ts) := s
  obtain ⟨r, _⟩ := tmp0 s hn
  rw [hd, hv] at r
  obtain ⟨a', vs, e, e2, r⟩ := r
  cases e
  have sq : SqT Γ.p.K H a vs := .inl (.inl e2)
  rw [enumN_len]
  refine ⟨fun h => ?_, fun h => ⟨vs, sq, by rw [r.len]; exact h⟩, fun x H' hl hy => ?_⟩
  · obtain ⟨w, hw, _⟩ := r.get (List.getElem?_eq_getElem h)
    exact ⟨vs, w, sq, hw⟩
  · obtain ⟨T, w, e1, hT, e3, hx⟩ := hy
    subst e1 e3
    obtain ⟨w', hw, rw'⟩ := r.get (List.getElem?_eq_getElem hl)
    rw [hx vs sq] at hw
    cases hw
    refine ⟨_, by rw [enumN_get, List.getElem?_eq_getElem hl]; rfl, ?_⟩
    rw [Nat.zero_add]
    exact SR.pushR (s.new hT) (rep_pair hT rfl rw')
theorem ni_enum {a : E} {ea : Expr} {elts : List Expr} {kk : Nat} {p pos tpos : Pos} (C : Ctx Dw n S X Γ W) (hx : S.blt "enumerate" "enumerate" = true) (hn : isPl a = none) (ha : PE X ea (tO v Γ W 0 a)) (hs : notStar ea = true) : PI X (.Tuple elts kk tpos) (.Call (.Name "enumerate" p) [ea] [] pos) (tI (step m v) Γ W (.enum a)) := by
  obtain ⟨_, hg, hd, hm⟩ := C.blt hx
  have pa := L2.pa_cons ha L2.pa_nil (star_ok hs)
  refine ⟨fun pins s σ H R I ⟨env, Fs, ts, sr, q⟩ => ?_⟩
  have hK : X.K = Γ.p.K := C.K.trans C.pK.symm
  rcases on1 (v := v) hn sr q with h | ⟨d, k0, env', l, hr, hl, key⟩
  · exact (L2.pi_enum hg hm pa (star_ok hs)).run pins s σ H R I (on1x hn sr q h)
  · cases d with
    | lst x =>
      cases hl
      refine (L2.pi_enum hg hm pa (star_ok hs)).run pins s σ H R I (key _ fun u H' F Fs' s' k => ?_)
      obtain ⟨r, eF⟩ := tmp0 s' ⟨k0, rfl⟩
      obtain ⟨b, vs, ob, e1, e2, r⟩ := r
      have e1 : u = .ref b := e1
      subst e1
      rw [hK]
      exact ⟨b, vs, rfl, .inl (.inr ⟨ob, e2⟩), k _ H' Fs' [_] s' (walks_enumL rfl rfl ⟨k0, rfl⟩)⟩
    | tup x =>
      cases hl
      refine (pi_enumT hg hm pa (star_ok hs)).run pins s σ H R I (key _ fun u H' F Fs' s' k => ?_)
      obtain ⟨r, eF⟩ := tmp0 s' ⟨k0, rfl⟩
      obtain ⟨b, vs, e1, e2, r⟩ := r
      have e1 : u = .ref b := e1
      subst e1
      rw [hK]
      exact ⟨b, vs, rfl, .inl (.inl e2), k _ H' Fs' [_] s' (walks_enumT rfl rfl ⟨k0, rfl⟩)⟩
    | _ => cases hl
theorem walks_zipL {l1 l2 : List D} {a b : Addr} {t t2 : Tmp} (hd : t.d = .lst l1) (hv : t.v = .ref a) (hn : ∃ k, t.n = capN k 0) (hd2 : t2.d = .lst l2) (hv2 : t2.v = .ref b) (hn2 : ∃ k, t2.n = capN k 0) : Walks Γ (L2.Itz Γ.p.K a b) [t, t2] (zip2 l1 l2) := by
  intro i H env σ Fs ts s
  have s : SR Γ H env σ Fs (t :: t2 :: ts) := s
  obtain ⟨r, _⟩ := tmp0 s hn
  obtain ⟨r2, _⟩ := tmp0 s.pop hn2
  rw [hd, hv] at r
  rw [hd2, hv2] at r2
  obtain ⟨a', vs, ob, e, e2, r⟩ := r
  obtain ⟨b', ws, ob2, e3, e4, r2⟩ := r2
  cases e
  cases e3
  have sq : SqL Γ.p.K H a vs := .inl (.inr ⟨ob, e2⟩)
  have sq2 : SqL Γ.p.K H b ws := .inl (.inr ⟨ob2, e4⟩)
  rw [zip2_len]
  refine ⟨fun h => ?_, fun h => ⟨vs, ws, sq, sq2, by rw [r.len, r2.len]; omega⟩, fun x H' hl hy => ?_⟩
  · obtain ⟨w, hw, _⟩ := r.get (List.getElem?_eq_getElem (show i < l1.length by omega))
    obtain ⟨w2, hw2, _⟩ := r2.get (List.getElem?_eq_getElem (show i < l2.length by omega))
    exact ⟨vs, ws, w, w2, sq, sq2, hw, hw2⟩
  · obtain ⟨T, w, w2, e1, hT, e3, hx, hx2⟩ := hy
    subst e1 e3
    have g1 := List.getElem?_eq_getElem (show i < l1.length by omega)
    have g2 := List.getElem?_eq_getElem (show i < l2.length by omega)
    obtain ⟨w', hw, rw'⟩ := r.get g1
    obtain ⟨w2', hw2, rw2'⟩ := r2.get g2
    rw [hx vs sq] at hw
    rw [hx2 ws sq2] at hw2
    cases hw
    cases hw2
    exact ⟨_, zip2_get g1 g2, SR.pushR (s.new hT) (rep_pair hT rw' rw2')⟩
theorem walks_zipT {l1 l2 : List D} {a b : Addr} {t t2 : Tmp} (hd : t.d = .tup l1) (hv : t.v = .ref a) (hn : ∃ k, t.n = capN k 0) (hd2 : t2.d = .tup l2) (hv2 : t2.v = .ref b) (hn2 : ∃ k, t2.n = capN k 0) : Walks Γ (RZ.ItzT Γ.p.K a b) [t, t2] (zip2 l1 l2) := by
  intro i H env σ Fs ts s
  have s : SR Γ H env σ Fs (t :: t2 :: ts) := s
  obtain ⟨r, _⟩ := tmp0 s hn
  obtain ⟨r2, _⟩ := tmp0 s.pop hn2
  rw [hd, hv] at r
  rw [hd2, hv2] at r2
  obtain ⟨a', vs, e, e2, r⟩ := r
  obtain ⟨b', ws, e3, e4, r2⟩ := r2
  cases e
  cases e3
  have sq : SqT Γ.p.K H a vs := .inl (.inl e2)
  have sq2 : SqT Γ.p.K H b ws := .inl (.inl e4)
  rw [zip2_len]
  refine ⟨fun h => ?_, fun h => ⟨vs, ws, sq, sq2, by rw [r.len, r2.len]; omega⟩, fun x H' hl hy => ?_⟩
  · obtain ⟨w, hw, _⟩ := r.get (List.getElem?_eq_getElem (show i < l1.length by omega))
    obtain ⟨w2, hw2, _⟩ := r2.get (List.getElem?_eq_getElem (show i < l2.length by omega))
    exact ⟨vs, ws, w, w2, sq, sq2, hw, hw2⟩
  · obtain ⟨T, w, w2, e1, hT, e3, hx, hx2⟩ := hy
    subst e1 e3
    have g1 := List.getElem?_eq_getElem (show i < l1.length by omega)
    have g2 := List.getElem?_eq_getElem (show i < l2.length by omega)
    obtain ⟨w', hw, rw'⟩ := r.get g1
    obtain ⟨w2', hw2, rw2'⟩ := r2.get g2
    rw [hx vs sq] at hw
    rw [hx2 ws sq2] at hw2
    cases hw
    cases hw2
    exact ⟨_, zip2_get g1 g2, SR.pushR (s.new hT) (rep_pair hT rw' rw2')⟩
end
end Eng
end

section
set_option linter.all false
set_option maxRecDepth 100000
namespace Eng
open PySem PySem.Spec PyProof.Rows
open L2 (V HO Hp VK TE TS TA TT TI TG It Turn SqT SqL Inv Cx PE PA PI PIE FpOk RelV Vals upd upd_ne upd_same ObjOk Gl Key kV KT Rd Mut)
/-! ### the items of a dict with tuple keys -/
theorem frzT2 {X : Cx} {pins : List (Addr × Obj)} {σ : L2.St} {H : Hp} {s : Shared} {d : Addr} {o : Obj} {kvs : List (List Key × V)} (I : Inv X pins σ H s) (h : H d = some (.frz o (.dT kvs))) :
    (d == sysModules) = false ∧ ∃ (es : Array DictEntry) (ep : Nat), o.data = .dict es ep ∧ DT.Raw s.heap d es ep ∧ es.size = kvs.length ∧
      ∀ (i : Nat) (k : List Key) (v : V), kvs[i]? = some (k, v) → ∃ (en : DictEntry) (q : Addr), es[i]? = some en ∧ en.key = .ref q ∧ H q = some (.tup (k.map kV)) ∧ RelV v en.val := by
  obtain ⟨hd, z, hs, xs, pr, o', es, ep, ho, hx, hdt, he, _⟩ := I.hok d _ h
  rw [hd] at ho
  cases ho
  refine ⟨hs, es, ep, hdt, ⟨o, hd, hx, hdt⟩, ?_, fun i k v e => ?_⟩
  · have l1 : es.size = xs.length := size_of_entries he
    have l2 : kvs.length = xs.length := Paired.length pr
    omega
  · obtain ⟨b, hb, e1, e2, e3⟩ := L2.paired_get pr e
    have q := entry_at he i
    rw [hb] at q
    exact ⟨_, b.2.1, q, rfl, e2, e3⟩
def ItiT (d : Addr) (o : Obj) (kvs : List (List Key × V)) : L2.It :=
  ⟨fun i H => H d = some (.frz o (.dT kvs)) ∧ i < kvs.length, fun i H x H' => ∃ (T q : Addr) (k : List Key) (v : V), kvs[i]? = some (k, v) ∧ x = .ref T ∧ H T = none ∧ H q = some (.tup (k.map kV)) ∧ H' = upd H T (.tup [.ref q, v]), fun i H => H d = some (.frz o (.dT kvs)) ∧ kvs.length ≤ i⟩
theorem turn_itemsT {P : Program} {w : World} {K : PySem.W.Frag} {d : Addr} {o : Obj} {es : Array DictEntry} {ep : Nat} {kvs : List (List Key × V)} {elts : List Expr} {kk : Nat} {tpos : Pos} (it : Addr) (hod : o.data = .dict es ep) :
    Turn P w K (.Tuple elts kk tpos) (ItiT d o kvs) [it] it (fun i h => ∃ ok ov, IsItemIter h it d i es.size ep ok ov) where
  mem := by simp
  obj := fun i h st b hb => by
    have e : b = it := by simpa using hb
    subst e
    obtain ⟨ok, ov, e⟩ := st
    exact ⟨_, e, fun v z => nomatch z⟩
  keep := fun i h h' st k => let ⟨ok, ov, e⟩ := st; ⟨ok, ov, k it (by simp) _ e⟩
  item := by
    intro X hP hw hK hc i pins s σ H E I hf st hg
    subst hP hw hK
    obtain ⟨hd, hi⟩ := hg
    obtain ⟨hs, es', ep', hdt, hm, hsz, hk⟩ := frzT2 I hd
    obtain ⟨rfl, rfl⟩ := L2.dict_ep hod hdt
    obtain ⟨⟨k, v⟩, hkv⟩ : ∃ p, kvs[i]? = some p := ⟨kvs[i], List.getElem?_eq_getElem hi⟩
    obtain ⟨en, q, he, e1, e2, e3⟩ := hk i k v hkv
    obtain ⟨ok, ov, hit⟩ := st
    have hlt : it < s.heap.objs.size := Heap.lt_size hit
    have hi' : i < es'.size := by omega
    have een : es'[i] = en := by
      rw [Array.getElem?_eq_getElem hi'] at he
      exact Option.some.inj he
    refine DT.nextI hit hm hi' fun h' ho hT hz hkp => ?_
    rw [een, e1] at ho hT
    refine ⟨_, rfl, wpAny_letOwnedTupleGo_items (s := { s with heap := h' }) ho fun h'' he' sb => ?_⟩
    have hT2 : h''.get? s.heap.objs.size = some { cls := .type "tuple", data := .seq #[.ref q, en.val] } := (sb.2 _ (Nat.ne_of_gt hlt)).trans hT
    have new : ObjOk X.prog X.w (upd H s.heap.objs.size (.tup [.ref q, v])) h'' s.heap.objs.size (.tup [.ref q, v]) :=
      ⟨by show 2 ≤ sizeLine; decide, [.ref q, en.val], .cons rfl (.cons e3 .nil), ⟨_, hT2, rfl, _, rfl⟩⟩
    have I1 : Inv X pins σ (upd H s.heap.objs.size (.tup [.ref q, v])) { s with heap := h'' } :=
      I.turnedNew (t' := s.toks) (ch := [it]) (fun b ob hb e => (sb.2 b (by simpa using hb)).trans (hkp b ob (by simpa using hb) e)) hf (Nat.le_refl _) new
    refine ⟨.ref s.heap.objs.size, _, I1, rfl, ⟨_, q, k, v, hkv, rfl, I.hok.fresh (Nat.le_refl _), e2, rfl⟩, ⟨_, _, he'⟩, fun b hb => ?_⟩
    have e : b = it := by simpa using hb
    rw [e, upd_ne (Nat.ne_of_lt hlt)]
    exact (hf it (by simp)).1
  done := by
    intro X hP hw hK hc i pins s σ H E I hf st hg
    subst hP hw hK
    obtain ⟨hd, hi⟩ := hg
    obtain ⟨f0, f1, f2, f3, f4, f5⟩ := hf it (by simp)
    obtain ⟨hs, es', ep', hdt, hm, hsz, hk⟩ := frzT2 I hd
    obtain ⟨rfl, rfl⟩ := L2.dict_ep hod hdt
    obtain ⟨ok, ov, hit⟩ := st
    exact DT.endI (I.ok.hd hc) hit hm (by omega) fun h' eb => ⟨rfl, I.turned (t' := s.toks) (fun b ob hb e => eb b ob hb e) f0 f1 f3 f4 f5⟩
  self := fun A i s Q E st h => let ⟨_, _, e⟩ := st; PySem.W.kcp_self e h
def iItemsT (td : TE) : TI := fun σ H R => td σ H fun x H1 => ∃ d o kvs, x = .ref d ∧ H1 d = some (.frz o (.dT kvs)) ∧ R (ItiT d o kvs) H1
theorem pi_itemsT {X : Cx} {e : Expr} {td : TE} {apos cpos tpos : Pos} {elts : List Expr} {kk : Nat} (he : PE X e td) (hbase : attributeBase e "items" X.env (eval e X.env) = eval e X.env) (hline : (apos.endLine == cpos.line) = true) :
    PI X (.Tuple elts kk tpos) (.Call (.Attribute e "items" apos) [] [] cpos) (iItemsT td) := by
  refine ⟨fun pins s σ H R I h => ?_⟩
  refine wpAny_Call_method (T := "dict") (id := "dict.items") hbase rfl hline F.plainAttrs_dict F.slot_dict_items F.type_dict_items (L2.thn (he.run pins s σ H _ I h) fun u s1 ⟨x, H1, I1, rx, d, o, kvs, ex, hd, q⟩ => ?_)
  subst ex
  obtain rfl : u = Value.ref d := rx
  obtain ⟨hs, es, ep, hdt, hm, hsz, hk⟩ := frzT2 I1 hd
  obtain ⟨o', ho', hx, hd'⟩ := id hm
  refine ⟨hm.typeIs, fun b eb => ?_, ?_⟩
  · cases eb
    exact ⟨o', ho', hx.2.1⟩
  have I2 : Inv X pins σ H1 { s1 with heap := s1.heap.push { cls := .type "dict_items", data := .fields #[.ref d] } } := I1.kept (t' := s1.toks) fun b ob q => Heap.get?_push_of_some _ q
  have fin : wpAny (model X.prog X.w) X.A (pyIter (.ref s1.heap.objs.size)) (PIE X pins σ (.Tuple elts kk tpos) R) X.xe { s1 with heap := s1.heap.push { cls := .type "dict_items", data := .fields #[.ref d] } } := by
    refine DT.iterI (d := d) ⟨_, Heap.get?_push_size _ rfl, rfl, rfl⟩ (hm.push _) (L2.pi_one (tk := s1.toks) I2 _ (turn_itemsT _ hdt) ⟨.none, .none, ?_⟩ q)
    exact Heap.get?_push_size _ rfl
  show wpAny _ _ (callWith cpos (.builtin "dict.items") [.ref d] [] []) _ X.xe s1
  exact method_meetsIn F.slot_dict_items F.entry_dict_items rfl (PySem.evalArgs_none ⟨rfl, hm.typeIs, F.args_dict_items_1 _, _, DT.meetsItems hs, ⟨hm, fin⟩⟩)
end Eng
namespace Eng
open PySem PySem.Spec PyProof.Rows
open L2 (V HO Hp VK TE TS TA TT TI TG It Turn SqT SqL Inv Cx PE PA PI PIE FpOk RelV Vals upd upd_ne upd_same ObjOk Gl Key kV KT Rd Mut WX)
section
variable {Dw : Wd} {n : Nat} {S : Sx} {X : Cx} {Γ : Gm} {W : WX} {v : Ev} {m : Mod} {c : Nat}
theorem walks_items {ks ds : List D} {a : Addr} {t : Tmp} {ob : Obj} {kvs : List (Key × V)} (hd : t.d = .dic ks ds) (hv : t.v = .ref a) (hn : ∃ k, t.n = capN k 0) (hk : ks = kvs.map fun p => keyD p.1) (hh : Γ.H0 a = some (.frz ob (.dK kvs))) (hL : a ∉ Γ.L0) : Walks Γ (L2.Iti a ob kvs) [t] (zip2 ks ds) := by
  intro i H env σ Fs ts s
  have s : SR Γ H env σ Fs (t :: ts) := s
  have h0 := s.keep a _ hh hL (fun ps z => by cases z)
  obtain ⟨r, _⟩ := tmp0 s hn
  rw [hd, hv] at r
  obtain ⟨a', vs, ob', w, e, e2, dd, r⟩ := r
  cases e
  rw [h0] at e2
  cases e2
  have hvs : vs = kvs.map (·.2) := by
    rcases dd.2 with ⟨kvs', e, e1, e2⟩ | ⟨kvs', e, _⟩
    · cases e; exact e2
    · cases e
  have hlen : (zip2 ks ds).length = kvs.length := by
    have h1 : ks.length = kvs.length := by rw [hk]; simp
    have h2 := r.len
    rw [hvs, List.length_map] at h2
    rw [zip2_len]
    omega
  rw [hlen]
  refine ⟨fun h => ⟨h0, h⟩, fun h => ⟨h0, h⟩, fun x H' hl hy => ?_⟩
  obtain ⟨T, q, w, hq, e1, hT, e3⟩ := hy
  subst e1 e3
  have hds : i < ds.length := by have h2 := r.len; rw [hvs, List.length_map] at h2; omega
  obtain ⟨w', hw, rw'⟩ := r.get (List.getElem?_eq_getElem hds)
  rw [hvs, List.getElem?_map, hq] at hw
  cases hw
  have g1 : ks[i]? = some (keyD q) := by rw [hk, List.getElem?_map, hq]; rfl
  exact ⟨_, zip2_get g1 (List.getElem?_eq_getElem hds), SR.pushR (s.new hT) (rep_pair hT (by cases q <;> rfl) rw')⟩
theorem rep_kVs {p : Par} {H : Hp} : ∀ k : List Key, RepL p H (k.map keyD) (k.map kV)
  | [] => rfl
  | x :: k => ⟨_, _, rfl, by cases x <;> rfl, rep_kVs k⟩
theorem walks_itemsT {ks ds : List D} {a : Addr} {t : Tmp} {ob : Obj} {kvs : List (List Key × V)} (hd : t.d = .dic ks ds) (hv : t.v = .ref a) (hn : ∃ k, t.n = capN k 0) (hk : ks = kvs.map fun p => .tup (p.1.map keyD)) (hh : Γ.H0 a = some (.frz ob (.dT kvs))) (hL : a ∉ Γ.L0) : Walks Γ (ItiT a ob kvs) [t] (zip2 ks ds) := by
  intro i H env σ Fs ts s
  have s : SR Γ H env σ Fs (t :: ts) := s
  have h0 := s.keep a _ hh hL (fun ps z => by cases z)
  obtain ⟨r, _⟩ := tmp0 s hn
  rw [hd, hv] at r
  obtain ⟨a', vs, ob', w, e, e2, dd, r⟩ := r
  cases e
  rw [h0] at e2
  cases e2
  have hvs : vs = kvs.map (·.2) := by
    rcases dd.2 with ⟨kvs', e, _⟩ | ⟨kvs', e, e1, e2, _⟩
    · cases e
    · cases e; exact e2
  have hlen : (zip2 ks ds).length = kvs.length := by
    have h1 : ks.length = kvs.length := by rw [hk]; simp
    have h2 := r.len
    rw [hvs, List.length_map] at h2
    rw [zip2_len]
    omega
  rw [hlen]
  refine ⟨fun h => ⟨h0, h⟩, fun h => ⟨h0, h⟩, fun x H' hl hy => ?_⟩
  obtain ⟨T, q, k, w, hq, e1, hT, hqq, e3⟩ := hy
  subst e1 e3
  have hds : i < ds.length := by have h2 := r.len; rw [hvs, List.length_map] at h2; omega
  obtain ⟨w', hw, rw'⟩ := r.get (List.getElem?_eq_getElem hds)
  rw [hvs, List.getElem?_map, hq] at hw
  cases hw
  have g1 : ks[i]? = some (.tup (k.map keyD)) := by rw [hk, List.getElem?_map, hq]; rfl
  have rk : Rep Γ.p H (.tup (k.map keyD)) (.ref q) := by
    exact ⟨q, k.map kV, rfl, hqq, rep_kVs k⟩
  exact ⟨_, zip2_get g1 (List.getElem?_eq_getElem hds), SR.pushR (s.new hT) (rep_pair hT rk rw')⟩
theorem walks_vals {ks ds : List D} {a : Addr} {t : Tmp} {ob : Obj} {kvs : List (Key × V)} (hd : t.d = .dic ks ds) (hv : t.v = .ref a) (hn : ∃ k, t.n = capN k 0) (hh : Γ.H0 a = some (.frz ob (.dK kvs))) (hL : a ∉ Γ.L0) : Walks Γ (L2.Itd a ob kvs) [t] (flg ds) := by
  intro i H env σ Fs ts s
  have s : SR Γ H env σ Fs (t :: ts) := s
  have h0 := s.keep a _ hh hL (fun ps z => by cases z)
  obtain ⟨r, _⟩ := tmp0 s hn
  rw [hd, hv] at r
  obtain ⟨a', vs, ob', w, e, e2, dd, r⟩ := r
  cases e
  rw [h0] at e2
  cases e2
  have hvs : vs = kvs.map (·.2) := by
    rcases dd.2 with ⟨kvs', e, e1, e2⟩ | ⟨kvs', e, _⟩
    · cases e; exact e2
    · cases e
  have hl2 : ds.length = kvs.length := by have h2 := r.len; rw [hvs, List.length_map] at h2; omega
  have hlen : (flg ds).length = kvs.length := by unfold flg; rw [List.length_map, hl2]
  rw [hlen]
  refine ⟨fun h => ⟨h0, h⟩, fun h => ⟨h0, h⟩, fun x H' hl hy => ?_⟩
  obtain ⟨e1, q, hq⟩ := hy
  subst e1
  have hds : i < ds.length := by omega
  obtain ⟨w', hw, rw'⟩ := r.get (List.getElem?_eq_getElem hds)
  rw [hvs, List.getElem?_map, hq] at hw
  cases hw
  exact ⟨(ds[i], flagOf ds[i]), by rw [flg_get, List.getElem?_eq_getElem hds]; rfl, s.pushR (own_flag rw')⟩
theorem ni_items {a : E} {ea : Expr} {elts : List Expr} {kk : Nat} {apos cpos tpos : Pos} (C : Ctx Dw n S X Γ W) (hn : isPl a = none) (ha : PE X ea (tO v Γ W 0 a)) (hbase : attributeBase ea "items" X.env (eval ea X.env) = eval ea X.env) (hline : (apos.endLine == cpos.line) = true) : PI X (.Tuple elts kk tpos) (.Call (.Attribute ea "items" apos) [] [] cpos) (tI (step m v) Γ W (.items a)) := by
  refine ⟨fun pins s σ H R I ⟨env, Fs, ts, sr, q⟩ => ?_⟩
  rcases on1 (v := v) hn sr q with h | ⟨d, k0, env', l, hr, hl, key⟩
  · exact (L2.pi_items ha hbase hline).run pins s σ H R I (on1x hn sr q h)
  · cases d with
    | dic ks ds =>
      cases hl
      by_cases hf : ks.all flatKey = true
      · refine (L2.pi_items ha hbase hline).run pins s σ H R I (key _ fun u H' F Fs' s' k => ?_)
        obtain ⟨r, eF⟩ := tmp0 s' ⟨k0, rfl⟩
        obtain ⟨b, vs, ob, w, e1, e2, dd, r⟩ := r
        have e1 : u = .ref b := e1
        subst e1
        obtain ⟨kvs, e3, e4, e5⟩ := dd.flat hf
        subst e3
        exact ⟨b, ob, kvs, rfl, e2, k _ H' Fs' [_] s' (walks_items (ds := ds) rfl rfl ⟨k0, rfl⟩ e4 e2 (s'.ground e2))⟩
      · refine (pi_itemsT ha hbase hline).run pins s σ H R I (key _ fun u H' F Fs' s' k => ?_)
        obtain ⟨r, eF⟩ := tmp0 s' ⟨k0, rfl⟩
        obtain ⟨b, vs, ob, w, e1, e2, dd, r⟩ := r
        have e1 : u = .ref b := e1
        subst e1
        rcases dd.2 with ⟨kvs, e3, e4, e5⟩ | ⟨kvs, e3, e4, e5, _⟩
        · exfalso
          apply hf
          rw [e4]
          simp only [List.all_map, List.all_eq_true]
          intro p _
          obtain ⟨q, w⟩ := p
          cases q <;> rfl
        · subst e3
          exact ⟨b, ob, kvs, rfl, e2, k _ H' Fs' [_] s' (walks_itemsT (ds := ds) rfl rfl ⟨k0, rfl⟩ e4 e2 (s'.ground e2))⟩
    | _ => cases hl
theorem ni_vals {a : E} {ea tg : Expr} {apos cpos : Pos} (C : Ctx Dw n S X Γ W) (hn : isPl a = none) (ha : PE X ea (tO v Γ W 0 a)) (hbase : attributeBase ea "values" X.env (eval ea X.env) = eval ea X.env) (hline : (apos.endLine == cpos.line) = true) : PI X tg (.Call (.Attribute ea "values" apos) [] [] cpos) (tI (step m v) Γ W (.vals a)) := by
  refine ⟨fun pins s σ H R I ⟨env, Fs, ts, sr, q⟩ => ?_⟩
  rcases on1 (v := v) hn sr q with h | ⟨d, k0, env', l, hr, hl, key⟩
  · exact (L2.pi_values ha hbase hline).run pins s σ H R I (on1x hn sr q h)
  · cases d with
    | dic ks ds =>
      have hl : (if ks.all flatKey then some (flg ds) else none) = some l := hl
      split at hl
      · rename_i hf
        cases hl
        refine (L2.pi_values ha hbase hline).run pins s σ H R I (key _ fun u H' F Fs' s' k => ?_)
        obtain ⟨r, eF⟩ := tmp0 s' ⟨k0, rfl⟩
        obtain ⟨b, vs, ob, w, e1, e2, dd, r⟩ := r
        have e1 : u = .ref b := e1
        subst e1
        obtain ⟨kvs, e3, e4, e5⟩ := dd.flat hf
        subst e3
        exact ⟨b, ob, kvs, rfl, e2, k _ H' Fs' [_] s' (walks_vals (ks := ks) rfl rfl ⟨k0, rfl⟩ e2 (s'.ground e2))⟩
      · cases hl
    | _ => cases hl
theorem ni_zip {a b : E} {ea eb : Expr} {elts : List Expr} {kk : Nat} {p pos tpos : Pos} (C : Ctx Dw n S X Γ W) (hx : S.blt "zip" "zip" = true) (hn : isPl a = none) (hn2 : isPl b = none) (ha : PE X ea (tO v Γ W 0 a)) (hb : PE X eb (tO v Γ W 0 b)) (hs : notStar ea = true) (hs2 : notStar eb = true) : PI X (.Tuple elts kk tpos) (.Call (.Name "zip" p) [ea, eb] [] pos) (tI (step m v) Γ W (.zip a b)) := by
  obtain ⟨_, hg, hd, hm⟩ := C.blt hx
  have hK : X.K = Γ.p.K := C.K.trans C.pK.symm
  refine ⟨fun pins s σ H R I ⟨env, Fs, ts, sr, q⟩ => (RZ.pi_zipA hg hm (L2.pa_cons ha (L2.pa_cons hb L2.pa_nil (star_ok hs2)) (star_ok hs)) (star_ok hs) (back_no (by simp [hs2]))).run pins s σ H R I ?_⟩
  refine onIts_run (es := [a, b]) (k := itsZip) sr q (by simp [hn, hn2]) fun us H' env' Fs' tl l s' el e1 e2 hl hk => ?_
  obtain ⟨t, t2, e4⟩ := two_of el
  subst e4 e1
  obtain ⟨r, _⟩ := tmp0 s' (e2 t List.mem_cons_self)
  obtain ⟨r2, _⟩ := tmp0 s'.pop (e2 t2 (List.mem_cons_of_mem _ List.mem_cons_self))
  have n1 := e2 t List.mem_cons_self
  have n2 := e2 t2 (List.mem_cons_of_mem _ List.mem_cons_self)
  obtain ⟨d, k0, w, F⟩ := t
  obtain ⟨d2, k2, w2, F2⟩ := t2
  cases d with
  | tup x =>
    cases d2 with
    | tup y =>
      cases hl
      obtain ⟨b1, vs, e3, e5, r⟩ := r
      obtain ⟨b2, ws, e6, e7, r2⟩ := r2
      have e3 : w = .ref b1 := e3
      have e6 : w2 = .ref b2 := e6
      subst e3 e6
      rw [hK]
      exact ⟨b1, b2, vs, ws, rfl, .inr ⟨.inl (.inl e5), .inl (.inl e7), hk _ H' Fs' [_, _] s' (walks_zipT rfl rfl n1 rfl rfl n2)⟩⟩
    | _ => cases hl
  | lst x =>
    cases d2 with
    | lst y =>
      cases hl
      obtain ⟨b1, vs, ob, e3, e5, r⟩ := r
      obtain ⟨b2, ws, ob2, e6, e7, r2⟩ := r2
      have e3 : w = .ref b1 := e3
      have e6 : w2 = .ref b2 := e6
      subst e3 e6
      rw [hK]
      exact ⟨b1, b2, vs, ws, rfl, .inl ⟨.inl (.inr ⟨ob, e5⟩), .inl (.inr ⟨ob2, e7⟩), hk _ H' Fs' [_, _] s' (walks_zipL rfl rfl n1 rfl rfl n2)⟩⟩
    | _ => cases hl
  | _ => cases hl
end
end Eng
end

section
set_option linter.all false
set_option maxRecDepth 100000
namespace Eng
open PySem PySem.Spec PyProof.Rows
open L2 (V HO Hp VK TE TS TA TT TI TG TGs TSet PGs PSet WX XK SqL SqT Rd upd upd_same upd_ne Key kV Mut RelV Vals Inv Cx PE PS PT PW PA PI PG PSs Takes tVar tNil tCons tOp Vis Loc Gl Room OpR R2 EP Dp DpAll TruR TruV IxR CallR FnOk Sp Ends PassesAt)
/-! ### an owned list taken apart -/
section
variable {Γ : Gm} {H : Hp} {env : Env} {σ : L2.St} {Fs : Nat → List Addr} {ts : List Tmp}
/-- a row of owned items, their objects told apart -/
theorem ownL_split {p : Par} {m : Nat} : ∀ {ds : List D} {vs : List V} {G : List Addr}, OwnL p H m ds vs G → ∃ tl : List Tmp, tl.map (·.d) = ds ∧ tl.map (·.v) = vs ∧ tl.flatMap (·.F) = G ∧ (∀ t ∈ tl, t.n = m ∧ Own p H t.n t.d t.v t.F)
  | [], vs, G, ⟨e1, e2⟩ => ⟨[], rfl, e1.symm, e2.symm, fun t h => by cases h⟩
  | d :: ds, vs, G, ⟨v, r, G1, G2, e1, h, t, e2⟩ => by
    obtain ⟨tl, a1, a2, a3, a4⟩ := ownL_split t
    refine ⟨⟨d, m, v, G1⟩ :: tl, by simp [a1], by simp [a2, e1], by simp [a3, e2], fun t ht => ?_⟩
    rcases List.mem_cons.mp ht with e | ht
    · subst e; exact ⟨rfl, h⟩
    · exact a4 t ht
theorem SR.split {t : Tmp} (s : SR Γ H env σ Fs (t :: ts)) : ∀ (tl : List Tmp), (∀ u ∈ tl, Own Γ.p H u.n u.d u.v u.F) → (tl.flatMap (·.F)).Nodup → (∀ b ∈ tl.flatMap (·.F), b ∈ t.F) → SR Γ H env σ Fs (tl ++ ts)
  | [], _, _, _ => s.pop
  | u :: tl, h, nd, sub => by
    have nd' := List.nodup_append.mp (show (u.F ++ tl.flatMap (·.F)).Nodup from nd)
    have ih := SR.split s tl (fun w hw => h w (List.mem_cons_of_mem _ hw)) nd'.2.1 (fun b hb => sub b (List.mem_append_right _ hb))
    have su : ∀ b ∈ u.F, b ∈ t.F := fun b hb => sub b (List.mem_append_left _ hb)
    have pw := List.pairwise_cons.mp s.djt
    refine ih.push (h u List.mem_cons_self) nd'.1 (fun w hw b hb hb' => ?_) (fun i b hb => s.djm i t List.mem_cons_self b (su b hb)) (fun b hb => s.frt t List.mem_cons_self b (su b hb))
    rcases List.mem_append.mp hw with hw | hw
    · exact nd'.2.2 b hb b (List.mem_flatMap.mpr ⟨w, hw, hb'⟩) rfl
    · exact pw.1 w hw b (su b hb) hb'
theorem SR.unpack {ds : List D} {k : Nat} {D0 : Addr} {F : List Addr} (s : SR Γ H env σ Fs (⟨.lst ds, k, .ref D0, F⟩ :: ts)) (hk : k ≠ 0) : ∃ m tl, k = m + 1 ∧ m < 8 ∧ H D0 = some (.lst (tl.map (·.v))) ∧ tl.map (·.d) = ds ∧ (∀ t ∈ tl, t.n = m) ∧ SR Γ H env σ Fs (tl ++ ts) ∧
    (∀ t ∈ tl, D0 ∉ t.F) ∧ (∀ t ∈ ts, D0 ∉ t.F) ∧ (∀ i, D0 ∉ Fs i) ∧ (D0 ∈ Γ.L0 ∨ Γ.H0 D0 = none) ∧ D0 ∈ F := by
  have o : Own Γ.p H k (.lst ds) (.ref D0) F := s.tmp _ List.mem_cons_self
  have nd : F.Nodup := s.ndt _ List.mem_cons_self
  have pw := List.pairwise_cons.mp s.djt
  rcases o with ⟨e, _⟩ | ⟨m, a, vs, G, e, e2, e3, e4, r, e5⟩
  · exact absurd e hk
  · cases e3
    obtain ⟨tl, a1, a2, a3, a4⟩ := ownL_split r
    subst e5
    have nd' := List.nodup_cons.mp nd
    have s2 := s.split tl (fun u hu => (a4 u hu).2) (by rw [a3]; exact nd'.2) (fun b hb => by rw [a3] at hb; exact List.mem_cons_of_mem _ hb)
    refine ⟨m, tl, e, by omega, by rw [a2]; exact e4, a1, fun t ht => (a4 t ht).1, s2, fun t ht hb => ?_, fun t ht => pw.1 t ht D0 List.mem_cons_self, fun i => s.djm i _ List.mem_cons_self D0 List.mem_cons_self, s.frt _ List.mem_cons_self D0 List.mem_cons_self, List.mem_cons_self⟩
    exact nd'.1 (by rw [← a3]; exact List.mem_flatMap.mpr ⟨t, ht, hb⟩)
/-- an object that nobody owns is changed -/
theorem SR.updFree {D0 : Addr} {u : HO} (s : SR Γ H env σ Fs ts) (hl : Lab (H D0)) (h2 : ∀ t ∈ ts, D0 ∉ t.F) (h3 : ∀ i, D0 ∉ Fs i) (h4 : D0 ∈ Γ.L0 ∨ Γ.H0 D0 = none) : SR Γ (upd H D0 u) env σ Fs ts := by
  have kn : ∀ b o, H b = some o → ¬ Lab (some o) → upd H D0 u b = some o := fun b o e n => by
    by_cases hb : b = D0
    · subst hb; rw [e] at hl; exact absurd hl n
    · rw [upd_ne hb]; exact e
  have kp : ∀ b o, H b = some o → ¬ Mut (some o) → (∀ ps, o ≠ .tbl ps) → upd H D0 u b = some o := fun b o e n _ => kn b o e (fun z => n z.mut)
  refine ⟨s.len, fun i d n e => ?_, s.non, fun t ht => ?_, s.nds, s.ndt, s.djs, s.djt, s.djm, s.frs, s.frt, fun b o e n z => ?_, tabs_keepN s.tabs kn, fun b ps e => ?_, s.pin⟩
  · obtain ⟨v, a1, a2⟩ := s.at_ i d n e
    exact ⟨v, a1, Own.keep kp (fun b hb => upd_ne (fun z => h3 i (z ▸ hb))) a2⟩
  · exact Own.keep kp (fun b hb => upd_ne (fun z => h2 t ht (z ▸ hb))) (s.tmp t ht)
  · have q := s.keep b o e n z
    by_cases hb : b = D0
    · subst hb
      rcases h4 with h | h
      · exact absurd h n
      · rw [e] at h; cases h
    · rw [upd_ne hb]; exact q
  · obtain ⟨q, z⟩ := s.tbk b ps e
    exact ⟨q, kn b _ z (fun y => y)⟩
/-- the head two exchanged -/
theorem SR.swap {t u : Tmp} (s : SR Γ H env σ Fs (t :: u :: ts)) : SR Γ H env σ Fs (u :: t :: ts) := s.perm (.swap _ _ _)
/-- an item is put at the end of an owned list -/
theorem SR.lcPush {ds : List D} {k n : Nat} {D0 : Addr} {F G : List Addr} {d : D} {y : V} {Q : Hp → Prop} (s : SR Γ H env σ Fs (⟨d, n, y, G⟩ :: ⟨.lst ds, k, .ref D0, F⟩ :: ts)) (hk : k ≠ 0) (hk9 : k < 9) (m : Nat) (hm : m = min (k - 1) n)
    (h : ∀ H' acc F', H' D0 = some (.lst acc) → acc.length = ds.length → SR Γ (upd H' D0 (.lst (acc ++ [y]))) env σ Fs (⟨.lst (ds ++ [d]), m + 1, .ref D0, F'⟩ :: ts) → Q H') : Lk Q H := by
  have hm8 : m < 8 := by omega
  obtain ⟨L, nd, mu, sub, r⟩ := s.cap m (by omega)
  refine .frz L nd mu fun ob => ?_
  obtain ⟨G', _, _, s2⟩ := r ob
  obtain ⟨L2, nd2, mu2, sub2, r2⟩ := s2.swap.cap (m + 1) (by omega)
  refine .frz L2 nd2 mu2 fun ob2 => .done ?_
  obtain ⟨F', _, _, s3⟩ := r2 ob2
  have ek : capN k (m + 1) = m + 1 := by
    unfold capN
    rw [if_neg (by omega)]
    omega
  have s3 : SR Γ (frzL ob2 L2 (frzL ob L H)) env σ Fs (⟨.lst ds, m + 1, .ref D0, F'⟩ :: ⟨d, capN n m, y, G'⟩ :: ts) := by rw [← ek]; exact s3
  obtain ⟨m', tl, e1, _, e3, e4, e5, s4, f1, f2, f3, f4, f5⟩ := s3.unpack (by omega)
  have em : m' = m := by omega
  subst em
  have s5 : SR Γ (frzL ob2 L2 (frzL ob L H)) env σ Fs ((tl ++ [⟨d, capN n m', y, G'⟩]) ++ ts) := by rw [List.append_assoc]; exact s4
  have hl : Lab (frzL ob2 L2 (frzL ob L H) D0) := by rw [e3]; trivial
  have nt : ∀ t ∈ tl ++ [⟨d, capN n m', y, G'⟩], D0 ∉ t.F := fun t ht => by
    rcases List.mem_append.mp ht with ht | ht
    · exact f1 t ht
    · rw [List.mem_singleton.mp ht]; exact f2 _ List.mem_cons_self
  have s6 := s5.updFree (u := .lst (tl.map (·.v) ++ [y])) hl (fun t ht => by
    rcases List.mem_append.mp ht with ht | ht
    · exact nt t ht
    · exact f2 t (List.mem_cons_of_mem _ ht)) f3 f4
  have s7 := SR.pack (p := D0) (m := m') s6 hm8 (fun t ht => by
    rcases List.mem_append.mp ht with ht | ht
    · exact .inl (e5 t ht)
    · rw [List.mem_singleton.mp ht]
      show capN n m' = m' ∨ capN n m' = 9
      unfold capN
      split
      · exact .inr rfl
      · exact .inl (by omega)) (by rw [upd_same]; simp) nt (fun t ht => f2 t (List.mem_cons_of_mem _ ht)) f3 f4
  have e6 : (tl ++ [Tmp.mk d (capN n m') y G']).map (fun t => t.d) = ds ++ [d] := by rw [List.map_append, e4]; rfl
  rw [e6] at s7
  exact h _ _ _ e3 (by rw [← e4]; simp) s7
end
end Eng
end

section
set_option linter.all false
set_option maxRecDepth 100000
namespace Eng
open PySem PySem.Spec PyProof.Rows
open L2 (V HO Hp VK TE TS TA TT TI TG TGs TSet PGs PSet WX XK SqL SqT Rd upd upd_same upd_ne Key kV Mut RelV Vals Inv Cx PE PS PT PW PA PI PG PSs PTs Takes tVar tNil tCons tOp Vis Loc Gl Room OpR R2 EP Dp DpAll TruR TruV IxR CallR FnOk Sp Ends PassesAt)
/-! ### a block's own slots -/
inductive Held (env : Env) (σ : L2.St) : List Nat → List Tmp → Prop where
  | nil : Held env σ [] []
  | val {i l d n v F os} : getS env i = some (d, n) → σ[i]? = some (some v) → Held env σ l os → Held env σ (i :: l) (⟨d, n, v, F⟩ :: os)
  | non {i l os} : getS env i = none → Held env σ l os → Held env σ (i :: l) os
section
variable {Γ : Gm} {H : Hp} {env : Env} {σ : L2.St} {Fs : Nat → List Addr} {ts : List Tmp}
theorem wipeS_len (env : Env) : ∀ own, (wipeS env own).length = env.length
  | [] => rfl
  | i :: l => by show ((wipeS env l).set i none).length = _; rw [List.length_set, wipeS_len env l]
theorem wipeS_out {i : Nat} : ∀ {own : List Nat}, i ∉ own → getS (wipeS env own) i = getS env i
  | [], _ => rfl
  | j :: l, h => by
    have h1 : i ≠ j := fun z => h (by simp [z])
    show getS (setS (wipeS env l) j none) i = _
    by_cases hj : j < (wipeS env l).length
    · rw [getS_set hj, if_neg h1]; exact wipeS_out fun z => h (List.mem_cons_of_mem _ z)
    · rw [getS_set_out hj]; exact wipeS_out fun z => h (List.mem_cons_of_mem _ z)
theorem SR.wipe : ∀ (own : List Nat) {Fs : Nat → List Addr}, own.Nodup → (∀ i ∈ own, ∀ q ∈ Γ.pin, q.1 ≠ i) → SR Γ H env σ Fs ts → ∃ Fs' os, SR Γ H (wipeS env own) (L2.wipe σ own) Fs' (os ++ ts) ∧ Held env σ own os
  | [], Fs, _, _, s => ⟨Fs, [], s, .nil⟩
  | i :: l, Fs, nd, hp, s => by
    have nd' := List.nodup_cons.mp nd
    obtain ⟨Fs1, os, s1, hd⟩ := SR.wipe l nd'.2 (fun j hj => hp j (List.mem_cons_of_mem _ hj)) s
    have hset : ∀ j, j ≠ i → ((L2.wipe σ l).set i none)[j]? = (L2.wipe σ l)[j]? := fun j hj => List.getElem?_set_ne (Ne.symm hj)
    have pin := hp i List.mem_cons_self
    show ∃ Fs' os, SR Γ H (setS (wipeS env l) i none) ((L2.wipe σ l).set i none) Fs' (os ++ ts) ∧ _
    cases hg : getS env i with
    | none =>
      exact ⟨_, os, s1.drop i (by simp) hset (.inr pin), .non hg hd⟩
    | some x =>
      have hg1 : getS (wipeS env l) i = some (x.1, x.2) := by rw [wipeS_out nd'.1, hg]
      obtain ⟨v, hv, _⟩ := s1.at_ i x.1 x.2 hg1
      have s2 := s1.mov hg1 hv
      have s3 := s2.drop i (by simp) hset (.inr pin)
      rw [setS_setS] at s3
      refine ⟨_, ⟨x.1, x.2, v, Fs1 i⟩ :: os, s3, .val hg ?_ hd⟩
      rw [L2.wipe_out nd'.1] at hv
      exact hv
theorem SR.unwipe {Γ' : Gm} {H' : Hp} {ts' : List Tmp} {own : List Nat} {os : List Tmp} (hd : Held env σ own os) : ∀ {envz : Env} {Fsz : Nat → List Addr}, own.Nodup → (∀ i ∈ own, ∀ q ∈ Γ'.pin, q.1 ≠ i) → SR Γ' H' envz (L2.wipe σ own) Fsz (os ++ ts') → ∃ Fs'', SR Γ' H' (backS env envz own) σ Fs'' ts' := by
  induction hd with
  | nil => intro envz Fsz _ _ s; exact ⟨Fsz, s⟩
  | @val i l d n v F os hg hv hd ih =>
    intro envz Fsz nd hp s
    have nd' := List.nodup_cons.mp nd
    have hi : i < (L2.wipe σ (i :: l)).length := by rw [L2.wipe_length]; exact (List.getElem?_eq_some_iff.mp hv).1
    have s1 := SR.put (t := ⟨d, n, v, F⟩) s hi (fun q hq e => absurd e (hp i List.mem_cons_self q hq))
    have e : (L2.wipe σ (i :: l)).set i (some v) = L2.wipe σ l := by
      show ((L2.wipe σ l).set i none).set i (some v) = _
      rw [List.set_set]
      apply List.ext_getElem?
      intro j
      by_cases hj : j = i
      · subst hj
        rw [List.getElem?_set_self (by rw [L2.wipe_length]; exact (List.getElem?_eq_some_iff.mp hv).1), L2.wipe_out nd'.1, hv]
      · rw [List.getElem?_set_ne (Ne.symm hj)]
    rw [e] at s1
    show ∃ Fs'', SR Γ' H' (backS env (setS envz i (getS env i)) l) σ Fs'' ts'
    rw [hg]
    exact ih nd'.2 (fun j hj => hp j (List.mem_cons_of_mem _ hj)) s1
  | @non i l os hg hd ih =>
    intro envz Fsz nd hp s
    have nd' := List.nodup_cons.mp nd
    have s1 := s.drop i (σ' := L2.wipe σ l) (by show _ = ((L2.wipe σ l).set i none).length; simp) (fun j hj => by
      show _ = ((L2.wipe σ l).set i none)[j]?
      rw [List.getElem?_set_ne (Ne.symm hj)]) (.inr (hp i List.mem_cons_self))
    show ∃ Fs'', SR Γ' H' (backS env (setS envz i (getS env i)) l) σ Fs'' ts'
    rw [hg]
    exact ih nd'.2 (fun j hj => hp j (List.mem_cons_of_mem _ hj)) s1
theorem SR.rewipe : ∀ (own : List Nat) {Fs : Nat → List Addr}, (∀ i ∈ own, ∀ q ∈ Γ.pin, q.1 ≠ i) → SR Γ H env σ Fs ts → ∃ Fs', SR Γ H (wipeS env own) (L2.wipe σ own) Fs' ts
  | [], Fs, _, s => ⟨Fs, s⟩
  | i :: l, Fs, hp, s => by
    obtain ⟨Fs1, s1⟩ := SR.rewipe l (fun j hj => hp j (List.mem_cons_of_mem _ hj)) s
    exact ⟨_, s1.drop i (σ' := (L2.wipe σ l).set i none) (by simp) (fun j hj => List.getElem?_set_ne (Ne.symm hj)) (.inr (hp i List.mem_cons_self))⟩
end
theorem wipe_get {σ : L2.St} : ∀ {own : List Nat} {j : Nat}, (L2.wipe σ own)[j]? = if j ∈ own ∧ j < σ.length then some none else σ[j]?
  | [], j => by simp [L2.wipe]
  | i :: l, j => by
    show ((L2.wipe σ l).set i none)[j]? = _
    by_cases hj : j = i
    · subst hj
      by_cases hl : j < σ.length
      · rw [List.getElem?_set_self (by rw [L2.wipe_length]; exact hl), if_pos ⟨List.mem_cons_self, hl⟩]
      · rw [if_neg (fun z => hl z.2), List.getElem?_eq_none (by simp [L2.wipe_length]; omega), List.getElem?_eq_none (by omega)]
    · rw [List.getElem?_set_ne (Ne.symm hj), wipe_get]
      simp [hj]
theorem wipe_only {σ σ2 : L2.St} {own sl : List Nat} (o : Only sl (L2.wipe σ own) σ2) (h : ∀ i ∈ sl, i ∈ own) : L2.wipe σ2 own = L2.wipe σ own := by
  apply List.ext_getElem?
  intro j
  have hl : σ2.length = σ.length := by rw [o.1, L2.wipe_length]
  rw [wipe_get, wipe_get, hl]
  split
  · rfl
  · rename_i hn
    by_cases hj : j ∈ own
    · have : ¬ j < σ.length := fun z => hn ⟨hj, z⟩
      rw [List.getElem?_eq_none (by omega), List.getElem?_eq_none (by omega)]
    · rw [o.2 j (fun z => hj (h j z)), L2.wipe_out hj]
end Eng
end

section
set_option linter.all false
set_option maxRecDepth 100000
namespace Eng
open PySem PySem.Spec PyProof.Rows
open L2 (V HO Hp VK TE TS TA TT TI TG TGs TSet PGs PSet WX XK SqL SqT Rd upd upd_same upd_ne Key kV Mut RelV Vals Inv Cx PE PS PT PW PA PI PG PSs PTs Takes tVar tNil tCons tOp Vis Loc Gl Room OpR R2 EP Dp DpAll TruR TruV IxR CallR FnOk Sp Ends PassesAt BlkOk)
section
variable {Dw : Wd} {n : Nat} {S : Sx} {X : Cx} {Γ : Gm} {W : WX} {v : Ev} {m : Mod} {c : Nat}
abbrev noX : WX := fun _ _ _ _ => False
/-- a clause's tests -/
def tIfs (v : Ev) (Γ : Gm) (W : WX) (ifs : List E) : TT := fun σ H Q => ∃ env Fs ts, SR Γ H env σ Fs ts ∧ match ifs with
  | [] => ∀ H' Fs', SR Γ H' env σ Fs' ts → Q true H'
  | [c] => PTr Γ W σ ts Q (tstR v c env)
  | _ => False
theorem nts_nil : PTs X [] (tIfs v Γ W []) := ⟨fun pins s σ H Q I ⟨env, Fs, ts, r, q⟩ => L2.pts_nil.run pins s σ H Q I (q H Fs r)⟩
theorem nts_one {c : E} {e : Expr} (h : PT X e (tT v Γ W c)) : PTs X [e] (tIfs v Γ W [c]) := ⟨fun pins s σ H Q I ⟨env, Fs, ts, r, q⟩ => (L2.pts_one h).run pins s σ H Q I ⟨env, Fs, ts, r, q⟩⟩
theorem pts_any {X : Cx} {e : List Expr} {ifs : List E} (h : ∀ H L, PTs X e (tIfs v (Γ.at H L) noX ifs)) : PTs X e (fun σ H Q => ∃ H1 L, tIfs v (Γ.at H1 L) noX ifs σ H Q) := ⟨fun pins s σ H Q I ⟨H1, L, q⟩ => (h H1 L).run pins s σ H Q I q⟩
theorem pe_any {X : Cx} {e : Expr} {i : E} (h : ∀ H L, PE X e (tE v (Γ.at H L) noX i)) : PE X e (fun σ H Q => ∃ H1 L, tE v (Γ.at H1 L) noX i σ H Q) := ⟨fun pins s σ H Q I ⟨H1, L, q⟩ => (h H1 L).run pins s σ H Q I q⟩
theorem lst_lv (x : D × Nat) (acc : List (D × Nat)) : lstLv (x :: acc) = min (lstLv acc - 1) x.2 + 1 := by
  show min (min x.2 (minOwn acc)) 7 + 1 = min (min (minOwn acc) 7 + 1 - 1) x.2 + 1
  omega
theorem ifs_ok {ifs : List E} {env : Env} {k : Bool → Env → RL} : ifsL v ifs env k = match ifs with
  | [] => k true env
  | [c] => (match tstR v c env with | .ok b env' => k b env' | .ex c a env' => .ex c a env' | .bad => .bad)
  | _ => .bad := by
  cases ifs with
  | nil => rfl
  | cons c l => cases l with
    | nil => exact testL_eq v c env k
    | cons _ _ => rfl
/-- what the evaluator tells of a comprehension, in the rule's form -/
theorem lc_imp {own : List Nat} {ownp : List (Str × Nat)} {elt : E} {t : T} {i : Eng.It} {ifs : List E} (C : Ctx Dw n S X Γ W) (hown : ownp.map (·.2) = own) (nd : own.Nodup) (hp : ∀ i ∈ own, i ∉ S.pins) (hsl : ∀ i ∈ tSlots t, i ∈ own)
    (σ : L2.St) (H : Hp) (Q : VK) (h : tE (step m v) Γ W (.lc own elt t i ifs) σ H Q) : L2.tLc (tI v Γ W i) (fun u σ H Q => ∃ H1 L, tG (Γ.at H1 L) t u σ H Q) (fun σ H Q => ∃ H1 L, tIfs v (Γ.at H1 L) noX ifs σ H Q) (tLkS (fun σ H Q => ∃ H1 L, tE v (Γ.at H1 L) noX elt σ H Q)) (ownp.map (·.2)) σ H Q := by
  obtain ⟨env, Fs, ts, s0, q⟩ := h
  refine ⟨env, Fs, ts, s0, ?_⟩
  rw [hown]
  have q : PR Γ W σ ts Q (match v.it i env with
    | .ok l env1 => (match lcGo v own t ifs (lcElt v elt) l [] env1 with
      | .ok acc env2 => .ok (.lst (acc.reverse.map (·.1))) (lstLv acc) (backS env1 env2 own)
      | _ => .bad)
    | .ex c a env' => .ex c a env'
    | .bad => .bad) := q
  cases hr : v.it i env with
  | ex k a env1 => rw [hr] at q; exact q
  | bad => rw [hr] at q; exact q
  | ok l env1 =>
    rw [hr] at q
    dsimp only at q
    intro J H1 Fs1 us s1 wk D0 hD
    have hpin : ∀ i ∈ own, ∀ q ∈ Γ.pin, q.1 ≠ i := fun i hi q hq e => hp i hi (e ▸ C.pn q hq)
    generalize hΓ : Γ.at H1 (ownAll Fs1 (us ++ ts) σ.length) = Γ1 at wk
    have back : ∀ {H2 env2 σ2 Fs2 ts2}, SR Γ1 H2 env2 σ2 Fs2 ts2 → SR Γ H2 env2 σ2 Fs2 ts2 := fun s2 => by subst hΓ; exact s1.leave s2
    have s1' : SR Γ1 H1 env1 σ Fs1 (us ++ ts) := by subst hΓ; exact s1.enter
    have hpin1 : ∀ i ∈ own, ∀ q ∈ Γ1.pin, q.1 ≠ i := by subst hΓ; exact hpin
    have hat : ∃ H L, Γ.at H L = Γ1 := ⟨_, _, hΓ⟩
    obtain ⟨Ha, La, hat⟩ := hat
    obtain ⟨Fs2, os, s2, held⟩ := SR.wipe own nd hpin1 s1'
    have fr := s2.free hD
    have s3 : SR Γ1 (upd H1 D0 (.lst [])) (wipeS env1 own) (L2.wipe σ own) Fs2 (⟨.lst [], 8, .ref D0, [D0]⟩ :: (os ++ (us ++ ts))) := by
      have own8 : Own Γ1.p (upd H1 D0 (.lst [])) 8 (.lst []) (.ref D0) [D0] := .inr ⟨7, D0, [], [], rfl, by omega, rfl, upd_same, ⟨rfl, rfl⟩, rfl⟩
      refine (s2.new hD).push (t := ⟨.lst [], 8, .ref D0, [D0]⟩) own8 (by simp) (fun u hu b hb hb' => ?_) (fun i b hb hb' => ?_) (fun b hb => ?_)
      · rw [List.mem_singleton.mp hb] at hb'; exact fr.2 u hu hb'
      · rw [List.mem_singleton.mp hb] at hb'; exact fr.1 i hb'
      · rw [List.mem_singleton.mp hb]; exact s2.fresh hD
    have pm : ∀ t : Tmp, (t :: (os ++ (us ++ ts))).Perm (us ++ (t :: (os ++ ts))) := fun t => by
      have e : (os ++ (us ++ ts)).Perm (us ++ (os ++ ts)) := by
        rw [← List.append_assoc, ← List.append_assoc]
        exact List.perm_append_comm.append_right ts
      exact (List.Perm.cons t e).trans List.perm_middle.symm
    refine ⟨fun i k H => k = l.length - i ∧ i ≤ l.length ∧ ∃ env Fs acc F, SR Γ1 H (wipeS env own) (L2.wipe σ own) Fs (us ++ (⟨.lst (acc.reverse.map (·.1)), lstLv acc, .ref D0, F⟩ :: (os ++ ts))) ∧
      PR Γ W σ ts Q (match lcGo v own t ifs (lcElt v elt) (l.drop i) acc env with
        | .ok acc env2 => .ok (.lst (acc.reverse.map (·.1))) (lstLv acc) (backS env1 env2 own)
        | _ => .bad), ⟨_, rfl, Nat.zero_le _, env1, Fs2, [], [D0], s3.perm (pm _), q⟩, ?_⟩
    rintro i k H2 ⟨rfl, hile, env2, Fs3, acc, F, s4, q2⟩
    obtain ⟨w1, w2, w3⟩ := wk i H2 _ _ Fs3 _ s4
    by_cases hlt : i < l.length
    · refine .inr ⟨w1 hlt, fun H' => ∃ env Fs acc F, SR Γ1 H' (wipeS env own) (L2.wipe σ own) Fs (us ++ (⟨.lst (acc.reverse.map (·.1)), lstLv acc, .ref D0, F⟩ :: (os ++ ts))) ∧
        PR Γ W σ ts Q (match lcGo v own t ifs (lcElt v elt) (l.drop (i + 1)) acc env with
          | .ok acc env2 => .ok (.lst (acc.reverse.map (·.1))) (lstLv acc) (backS env1 env2 own)
          | _ => .bad), fun H' x => ⟨l.length - (i + 1), by omega, rfl, hlt, x⟩, fun x H' hy => ?_⟩
      obtain ⟨y, hy1, s5⟩ := w3 x H' hlt hy
      have hd : l.drop i = y :: l.drop (i + 1) := by
        rw [List.drop_eq_getElem_cons hlt]
        congr 1
        rw [List.getElem?_eq_getElem hlt] at hy1
        exact Option.some.inj hy1
      rw [hd] at q2
      unfold lcGo at q2
      refine ⟨Ha, La, ?_⟩
      rw [hat]
      refine ⟨_, Fs3, _, y.1, y.2, [], s5, ?_⟩
      cases ha : asgT t y (wipeS env2 own) with
      | none => rw [ha] at q2; exact q2
      | some env3 =>
        rw [ha] at q2
        dsimp only at q2 ⊢
        rw [ifs_ok] at q2
        intro σ3 H3 Fs4 on s6
        have ew : L2.wipe σ3 own = L2.wipe σ own := wipe_only on hsl
        refine ⟨ew, Ha, La, ?_⟩
        rw [hat]
        refine ⟨env3, Fs4, _, s6, ?_⟩
        -- what happens behind the tests
        have nextN : ∀ {H4 env4 Fs5}, SR Γ1 H4 env4 σ3 Fs5 (us ++ (⟨.lst (acc.reverse.map (·.1)), lstLv acc, .ref D0, F⟩ :: (os ++ ts))) →
            PR Γ W σ ts Q (match lcGo v own t ifs (lcElt v elt) (l.drop (i + 1)) acc env4 with
              | .ok acc env2 => .ok (.lst (acc.reverse.map (·.1))) (lstLv acc) (backS env1 env2 own)
              | _ => .bad) → ∃ env Fs acc F, SR Γ1 H4 (wipeS env own) (L2.wipe σ own) Fs (us ++ (⟨.lst (acc.reverse.map (·.1)), lstLv acc, .ref D0, F⟩ :: (os ++ ts))) ∧
              PR Γ W σ ts Q (match lcGo v own t ifs (lcElt v elt) (l.drop (i + 1)) acc env with
                | .ok acc env2 => .ok (.lst (acc.reverse.map (·.1))) (lstLv acc) (backS env1 env2 own)
                | _ => .bad) := fun s7 q7 => by
          obtain ⟨Fs6, s8⟩ := SR.rewipe own hpin1 s7
          rw [ew] at s8
          exact ⟨_, Fs6, acc, F, s8, q7⟩
        have nextY : ∀ {H4 env4 Fs5}, SR Γ1 H4 env4 σ3 Fs5 (us ++ (⟨.lst (acc.reverse.map (·.1)), lstLv acc, .ref D0, F⟩ :: (os ++ ts))) →
            PR Γ W σ ts Q (match (match lcElt v elt acc env4 with
              | .ok acc' env3 => lcGo v own t ifs (lcElt v elt) (l.drop (i + 1)) acc' env3
              | r => r) with
              | .ok acc env2 => .ok (.lst (acc.reverse.map (·.1))) (lstLv acc) (backS env1 env2 own)
              | _ => .bad) →
            tLkS (fun σ H Q => ∃ H1 L, tE v (Γ.at H1 L) noX elt σ H Q) σ3 H4 fun y H5 => ∃ acc', H5 D0 = some (.lst acc') ∧ acc'.length < sizeLine ∧ ∃ env Fs acc F, SR Γ1 (upd H5 D0 (.lst (acc' ++ [y]))) (wipeS env own) (L2.wipe σ own) Fs (us ++ (⟨.lst (acc.reverse.map (·.1)), lstLv acc, .ref D0, F⟩ :: (os ++ ts))) ∧
              PR Γ W σ ts Q (match lcGo v own t ifs (lcElt v elt) (l.drop (i + 1)) acc env with
                | .ok acc env2 => .ok (.lst (acc.reverse.map (·.1))) (lstLv acc) (backS env1 env2 own)
                | _ => .bad) := fun {H4 env4 Fs5} s7 q7 => by
          refine ⟨Ha, La, ?_⟩
          rw [hat]
          refine ⟨env4, Fs5, _, s7, ?_⟩
          unfold lcElt at q7
          cases he2 : v.e elt env4 with
          | ex k a env5 => rw [he2] at q7; exact q7.elim
          | bad => rw [he2] at q7; exact q7.elim
          | ok d kk env5 =>
            rw [he2] at q7
            dsimp only at q7
            intro u H5 G Fs6 s8
            by_cases hz : acc.length < SZ
            · rw [if_pos hz] at q7
              dsimp only at q7
              have s9 : SR Γ1 H5 env5 σ3 Fs6 (⟨d, kk, u, G⟩ :: ⟨.lst (acc.reverse.map (·.1)), lstLv acc, .ref D0, F⟩ :: (us ++ (os ++ ts))) := s8.perm (.cons _ List.perm_middle)
              have hk9 : lstLv acc < 9 := by unfold lstLv; omega
              have hk0 : lstLv acc ≠ 0 := by unfold lstLv; omega
              refine s9.lcPush hk0 hk9 _ rfl fun H6 acc' F' e1 e2 s10 => ⟨acc', e1, ?_, ?_⟩
              · rw [e2]
                have : (acc.reverse.map (·.1)).length = acc.length := by simp
                rw [this]
                exact Nat.lt_of_lt_of_le hz SZ_le
              · have s11 := s10.perm (us := us ++ (⟨.lst (acc.reverse.map (·.1) ++ [d]), min (lstLv acc - 1) kk + 1, .ref D0, F'⟩ :: (os ++ ts))) List.perm_middle.symm
                obtain ⟨Fs7, s12⟩ := SR.rewipe own hpin1 s11
                rw [ew] at s12
                have e3 : acc.reverse.map (·.1) ++ [d] = ((d, kk) :: acc).reverse.map (·.1) := by simp
                rw [e3, ← lst_lv (d, kk) acc] at s12
                exact ⟨_, Fs7, (d, kk) :: acc, F', s12, q7⟩
            · rw [if_neg hz] at q7; exact q7.elim
        cases ifs with
        | nil =>
          intro H4 Fs5 s7
          rw [if_pos rfl]
          exact nextY s7 q2
        | cons c0 cl =>
          cases cl with
          | cons _ _ => exact q2.elim
          | nil =>
            dsimp only at q2 ⊢
            cases ht2 : tstR v c0 env3 with
            | ex k a env4 => rw [ht2] at q2; exact q2.elim
            | bad => rw [ht2] at q2; exact q2.elim
            | ok b env4 =>
              rw [ht2] at q2
              intro H4 Fs5 s7
              cases b with
              | true => rw [if_pos rfl]; exact nextY s7 q2
              | false => rw [if_neg Bool.false_ne_true]; exact nextN s7 q2
    · have e : i = l.length := by omega
      refine .inl ⟨w2 (by omega), ?_⟩
      rw [e, List.drop_length] at q2
      have q2 : PR Γ W σ ts Q (.ok (.lst (acc.reverse.map (·.1))) (lstLv acc) (backS env1 (wipeS env2 own) own)) := q2
      have s5 : SR Γ1 H2 (wipeS env2 own) (L2.wipe σ own) Fs3 (os ++ (⟨.lst (acc.reverse.map (·.1)), lstLv acc, .ref D0, F⟩ :: (us ++ ts))) := s4.perm ((pm _).symm.trans List.perm_middle.symm)
      obtain ⟨Fs5, s6⟩ := SR.unwipe held nd hpin1 s5
      exact q2 _ H2 F Fs5 ((back s6).sub (List.Sublist.cons_cons _ (List.sublist_append_right _ _)))
theorem nd_lc {own : List Nat} {ownp : List (Str × Nat)} {elt : E} {t : T} {i : Eng.It} {ifs : List E} {ee et ei : Expr} {eifs : List Expr} {scope : Scope} {pos : Pos} (C : Ctx Dw n S X Γ W) (hot : S.hot = false) (hown : ownp.map (·.2) = own) (nd : own.Nodup) (hp : ∀ i ∈ own, i ∉ S.pins) (hsl : ∀ i ∈ tSlots t, i ∈ own)
    (ok : BlkOk X.N X.env.scope scope ownp) (hi : PI X et ei (tI v Γ W i))
    (hg : ∀ (s : Shared) (H : Hp) (C : Addr) (cl : List (Str × Addr)) (fp : List Addr) H1 L, PG (X.blk s H scope (compEnvC scope cl C X.env) fp) et (tG (Γ.at H1 L) t))
    (ht : ∀ (s : Shared) (H : Hp) (C : Addr) (cl : List (Str × Addr)) (fp : List Addr) H1 L, PTs (X.blk s H scope (compEnvC scope cl C X.env) fp) eifs (tIfs v (Γ.at H1 L) noX ifs))
    (he : ∀ (s : Shared) (H : Hp) (C : Addr) (cl : List (Str × Addr)) (fp : List Addr) H1 L, PE (X.blk s H scope (compEnvC scope cl C X.env) fp) ee (tE v (Γ.at H1 L) noX elt))
    (hs : ∀ x, foldedSetIterable ei X.env x = pure x) : PE X (.ListComp ee [⟨et, ei, eifs, 0⟩] scope pos) (tE (step m v) Γ W (.lc own elt t i ifs)) :=
  pe_mono (L2.pe_lc (C.calm hot) (by rw [C.N]; exact C.nd) hi ok (fun s H C cl fp => pg_any (hg s H C cl fp)) (fun s H C cl fp => pts_any (ht s H C cl fp)) (fun s H C cl fp => pe_lkS (pe_any (he s H C cl fp))) hs) fun σ H Q h => lc_imp C hown nd hp hsl σ H Q h
/-- what is wanted behind a statement may freeze -/
theorem ps_lkE {X : Cx} {st : Stmt} {t : TS} (h : PS X st t) : PS X st (fun D σ H => t { D with nx := fun σ' H' => Lk (D.nx σ') H' } σ H) := ⟨fun pins s σ H D I hw => L2.thn (h.run pins s σ H _ I hw) fun f s1 hq => by
  cases f with
  | next =>
    obtain ⟨σ', H', I', k⟩ := hq
    obtain ⟨H2, I2, q⟩ := k.inv I'
    exact ⟨σ', H2, I2, q⟩
  | brk => exact hq
  | cont => exact hq
  | ret u => exact hq⟩
/-- name = [..] on one line -/
theorem ns_lcAsg {own : List Nat} {ownp : List (Str × Nat)} {elt : E} {t : T} {i : Eng.It} {ifs : List E} {j lv : Nat} {y : Str} {py : Pos} {ee et ei : Expr} {eifs : List Expr} {scope : Scope} {pos spos : Pos} (C : Ctx Dw n S X Γ W) (hot : S.hot = false) (hown : ownp.map (·.2) = own) (nd : own.Nodup) (hp : ∀ i ∈ own, i ∉ S.pins) (hsl : ∀ i ∈ tSlots t, i ∈ own)
    (hj : S.loc j y = true) (hpj : j ∉ S.pins) (hyl : X.env.scope.names.lookup y = some .local) (hsw : swapsWith (.ListComp ee [⟨et, ei, eifs, 0⟩] scope pos) (some (.Name y py)) spos.line X.env = pure true)
    (ok : BlkOk X.N X.env.scope scope ownp) (hi : PI X et ei (tI v Γ W i))
    (hg : ∀ (s : Shared) (H : Hp) (C : Addr) (cl : List (Str × Addr)) (fp : List Addr) H1 L, PG (X.blk s H scope (compEnvC scope cl C X.env) fp) et (tG (Γ.at H1 L) t))
    (ht : ∀ (s : Shared) (H : Hp) (C : Addr) (cl : List (Str × Addr)) (fp : List Addr) H1 L, PTs (X.blk s H scope (compEnvC scope cl C X.env) fp) eifs (tIfs v (Γ.at H1 L) noX ifs))
    (he : ∀ (s : Shared) (H : Hp) (C : Addr) (cl : List (Str × Addr)) (fp : List Addr) H1 L, PE (X.blk s H scope (compEnvC scope cl C X.env) fp) ee (tE v (Γ.at H1 L) noX elt))
    (hs : ∀ x, foldedSetIterable ei X.env x = pure x) : PS X (.Assign [.Name y py] (.ListComp ee [⟨et, ei, eifs, 0⟩] scope pos) spos) (tS1 (step m v) m Γ W (.asg (.nm j lv) (.lc own elt t i ifs))) := by
  have hy : X.N[j]? = some y := by rw [C.N]; exact of_decide_eq_true (and_ok hj).1
  refine ps_mono (ps_lkE (L2.ps_setLc (C.calm hot) (by rw [C.N]; exact C.nd) hy hyl hsw hi ok (fun s H C cl fp => pg_any (hg s H C cl fp)) (fun s H C cl fp => pts_any (ht s H C cl fp)) (fun s H C cl fp => pe_lkS (pe_any (he s H C cl fp))) hs)) fun D σ H ⟨env, Fs, ts, r, q⟩ => ?_
  refine lc_imp (m := m) C hown nd hp hsl σ H _ ⟨env, Fs, ts, r, ?_⟩
  have q : PF Γ W ts D (opsF (step m v) 7 [.lc own elt t i ifs] env fun ds env => match ds with
    | [x] => nxO (asgT (.nm j lv) x env)
    | _ => .bad) := q
  have q : PF Γ W ts D (match (step m v).e (.lc own elt t i ifs) env with
    | .ok d n env' => nxO (asgT (.nm j lv) (d, capN n 7) env')
    | .ex a b env' => .ex a b env'
    | .bad => .bad) := by
    unfold opsF evL at q
    have hpl : isPl (.lc own elt t i ifs) = none := rfl
    rw [hpl] at q
    dsimp only at q
    cases hr : (step m v).e (.lc own elt t i ifs) env with
    | ok d n env' => rw [hr] at q; exact q
    | ex a b env' => rw [hr] at q; exact q
    | bad => rw [hr] at q; exact q
  cases hr : (step m v).e (.lc own elt t i ifs) env with
  | ex k a env' => rw [hr] at q; exact fun cls dd H' Fs' s' x => q cls dd σ H' Fs' s' x
  | bad => rw [hr] at q; exact q
  | ok d k env' =>
    rw [hr] at q
    have q : PF Γ W ts D (nxO (if j < env'.length && lv < 9 then some (setS env' j (some (d, capN (capN k 7) lv))) else none)) := q
    intro u H' F Fs' s'
    show Lk (D.nx (σ.set j (some u))) H'
    split at q
    · rename_i c1
      obtain ⟨c11, c12⟩ := and_ok c1
      have q : PF Γ W ts D (.nx (setS env' j (some (d, capN (capN k 7) lv)))) := q
      have lj : j < σ.length := by rw [← s'.len]; exact of_decide_eq_true c11
      refine .frz _ (s'.cap 7 (by omega)).choose_spec.1 (s'.cap 7 (by omega)).choose_spec.2.1 fun ob => ?_
      obtain ⟨G1, _, _, s2⟩ := (s'.cap 7 (by omega)).choose_spec.2.2.2 ob
      exact s2.capped (of_decide_eq_true c12) fun H3 G2 s3 => q _ H3 _ (s3.put lj fun q hq e => absurd (e ▸ C.pn q hq) hpj)
    · exact q.elim
end
end Eng
end

section
set_option linter.all false
set_option maxRecDepth 100000
namespace Eng
open PySem PySem.Spec PyProof.Rows
open L2 (V HO Hp VK TE TS TA TT TI TG TGs TSet PGs PSet WX XK SqL SqT Rd upd upd_same upd_ne Key kV Mut RelV Vals Inv Cx PE PS PT PW PA PI PG PSs PTs Takes tVar tNil tCons tOp Vis Loc Gl Room OpR R2 EP Dp DpAll TruR TruV IxR CallR FnOk Sp Ends PassesAt BlkOk)
section
variable {Dw : Wd} {n : Nat} {S : Sx} {X : Cx} {Γ : Gm} {W : WX} {v : Ev} {m : Mod} {c : Nat}
theorem opsF1 {i : E} {env : Env} {k : List (D × Nat) → Env → F} (h : isPl i = none) : opsF v c [i] env k = match v.e i env with | .ok d n env' => k [(d, capN n c)] env' | .ex a b env' => .ex a b env' | .bad => .bad := by
  unfold opsF evL
  rw [h]
  dsimp only
  cases v.e i env with
  | ok d n env' =>
    show (match patch env' [i] [(d, capN n c)] with | some ds => k ds env' | none => F.bad) = _
    unfold patch
    rw [h]
    rfl
  | ex a b env' => rfl
  | bad => rfl
theorem ns_asg {t : T} {i : E} {tg e : Expr} {pos : Pos} (hp : isPl i = none) (he : PE X e (tO v Γ W 7 i)) (hg : PG X tg (tG Γ t)) (hs : swapsWithSole [tg] e pos.line X.env = pure false) (hw : swappedStores [tg] e X.env = pure none) (h1 : (assignEach [tg] X.env).map (·.2) = [assign tg X.env]) : PS X (.Assign [tg] e pos) (tS1 v m Γ W (.asg t i)) := by
  refine ⟨fun pins s σ H D I ⟨env, Fs, ts, r, q⟩ => (L2.ps_asg he hg hs hw h1).run pins s σ H D I ?_⟩
  have q : PF Γ W ts D (opsF v 7 [i] env fun ds env => match ds with
    | [x] => nxO (asgT t x env)
    | _ => .bad) := q
  rw [opsF1 hp] at q
  show tO v Γ W 7 i σ H _
  unfold tO
  rw [hp]
  refine ⟨env, Fs, ts, r, ?_⟩
  cases hr : v.e i env with
  | ok d k env' =>
    rw [hr] at q
    have q : PF Γ W ts D (nxO (asgT t (d, capN k 7) env')) := q
    intro u H' F Fs' s'
    refine ⟨env', Fs', ts, d, capN k 7, F, s', ?_⟩
    cases ha : asgT t (d, capN k 7) env' with
    | none => rw [ha] at q; exact q
    | some env2 => rw [ha] at q; exact fun σ' H2 Fs2 _ s2 => q σ' H2 Fs2 s2
  | ex k a env' => rw [hr] at q; exact fun cls dd H' Fs' s' x => q cls dd σ H' Fs' s' x
  | bad => rw [hr] at q; exact q
/-- operands of a statement -/
theorem opsF_run {es : List E} {k : List (D × Nat) → Env → F} {D : Ends} {Q' : List V → Hp → Prop} {env : Env} {σ : L2.St} {H : Hp} {Fs : Nat → List Addr} {ts : List Tmp} (s : SR Γ H env σ Fs ts) (h : PF Γ W ts D (opsF v c es env k))
    (hk : ∀ ds dsP env' us H' Fs' tl, SR Γ H' env' σ Fs' (tl ++ ts) → OpT σ c es ds us tl → patch env' es ds = some dsP → PF Γ W ts D (k dsP env') → Q' us H') : tOs v Γ W c es σ H Q' := by
  refine evL_run es s ?_
  unfold opsF at h
  cases hr : evL v c es env with
  | ok ds env' =>
    rw [hr] at h
    dsimp only at h
    intro us H' Fs' tl s' o
    cases hp : patch env' es ds with
    | none => rw [hp] at h; exact h.elim
    | some dsP => rw [hp] at h; exact hk ds dsP env' us H' Fs' tl s' o hp h
  | ex k a env' => rw [hr] at h; exact fun cls dd H' Fs' s' x => h cls dd σ H' Fs' s' x
  | bad => rw [hr] at h; exact h
/-- a, b, .. = x, y, .. where the tuple is laid -/
theorem ns_asgt {t : List T} {is : List E} {tgs es : List Expr} {k1 k2 : Nat} {p1 p2 pos : Pos} (C : Ctx Dw n S X Γ W) (hot : S.hot = false) (hn : is.all (fun e => (isPl e).isNone) = true) (ha : PA X es (tOs v Γ W 7 is)) (hg : PGs X tgs (tGs Γ t)) (hl : is.length = tgs.length) (hz : is.length ≤ SZ) (hst : tgs.all notStar = true)
    (hw : swappedStores [.Tuple tgs k1 p1] (.Tuple es k2 p2) X.env = pure none) : PS X (.Assign [.Tuple tgs k1 p1] (.Tuple es k2 p2) pos) (tS1 v m Γ W (.asgt t is)) := by
  obtain ⟨a1, a2⟩ := assign_len (env := X.env) hst
  refine ⟨fun pins s σ H D I ⟨env, Fs, ts, r, q⟩ => (L2.ps_asg (L2.pe_tup ha) (L2.pg_tup (C.calm hot) hg a1 a2) rfl hw rfl).run pins s σ H D I ?_⟩
  have q : PF Γ W ts D (opsF v 7 is env fun ds env => nxO (asgL t ds env)) := q
  refine opsF_run r q fun ds dsP env' us H' Fs' tl s' o hp q' => ?_
  obtain ⟨i1, i2, i3, i4⟩ := o.np hn
  rw [i4] at hp
  cases hp
  have hlen : us.length = is.length := o.len
  refine ⟨by rw [hlen]; exact Nat.le_trans hz SZ_le, fun p hp => ⟨p, us, rfl, .inl (.inl upd_same), by rw [hlen, hl], env', Fs', ts, tl, i2.symm, s'.new hp, ?_⟩⟩
  rw [← i1]
  cases ha2 : asgL t ds env' with
  | none => rw [ha2] at q'; exact q'
  | some env2 => rw [ha2] at q'; exact fun σ' H2 Fs2 _ s2 => q' σ' H2 Fs2 s2
/-- x, y = a, b of local names: stored at once -/
theorem ns_par {i j l1 l2 : Nat} {a b : E} {x y : Str} {ea eb : Expr} {px py pt : Pos} {kt k2 : Nat} {pt2 pos : Pos} (C : Ctx Dw n S X Γ W) (hot : S.hot = false) (hna : isPl a = none) (hnb : isPl b = none) (ha : PE X ea (tO v Γ W 7 a)) (hb : PE X eb (tO v Γ W 7 b)) (hsa : notStar ea = true) (hsb : notStar eb = true)
    (h1 : S.loc i x = true) (h2 : S.loc j y = true) (hij : i ≠ j) (hpi : i ∉ S.pins) (hpj : j ∉ S.pins) (hx : X.env.scope.names.lookup x = some .local) (hy : X.env.scope.names.lookup y = some .local)
    (hw : swappedStores [.Tuple [.Name x px, .Name y py] kt pt] (.Tuple [ea, eb] k2 pt2) X.env = pure (some [x, y])) : PS X (.Assign [.Tuple [.Name x px, .Name y py] kt pt] (.Tuple [ea, eb] k2 pt2) pos) (tS1 v m Γ W (.asgt [.nm i l1, .nm j l2] [a, b])) := by
  have hN : X.N.Nodup := by rw [C.N]; exact C.nd
  have hi : X.N[i]? = some x := by rw [C.N]; exact of_decide_eq_true (and_ok h1).1
  have hj : X.N[j]? = some y := by rw [C.N]; exact of_decide_eq_true (and_ok h2).1
  have pa := L2.pa_cons ha (L2.pa_cons (pe_lkS hb) L2.pa_nil (star_ok hsb)) (star_ok hsa)
  refine ⟨fun pins s σ H D I ⟨env, Fs, ts, r, q⟩ => (L2.ps_par (C.calm hot) hN hi hj hij hx hy pa hw rfl).run pins s σ H D I ?_⟩
  have q : PF Γ W ts D (opsF v 7 [a, b] env fun ds env => nxO (asgL [.nm i l1, .nm j l2] ds env)) := q
  refine opsF_run (Q' := fun us H1 => Lk (fun H2 => ∃ v w, us = [v, w] ∧ D.nx ((σ.set i (some v)).set j (some w)) H2) H1) r q fun ds dsP env' us H' Fs' tl s' o hp q' => ?_
  obtain ⟨i1, i2, i3, i4⟩ := o.np (by simp [hna, hnb])
  rw [i4] at hp
  cases hp
  obtain ⟨t1, t2, e4⟩ := two_of (l := tl) (by have := o.len; rw [i2, List.length_map] at this; exact this)
  subst e4 i1 i2
  have q' : PF Γ W ts D (nxO ((if i < env'.length && l1 < 9 then some (setS env' i (some (t1.d, capN t1.n l1))) else none).bind fun env => (if j < env.length && l2 < 9 then some (setS env j (some (t2.d, capN t2.n l2))) else none).bind fun env => some env)) := q'
  split at q'
  · rename_i c1
    obtain ⟨c11, c12⟩ := and_ok c1
    simp only [Option.bind_some] at q'
    split at q'
    · rename_i c2
      obtain ⟨c21, c22⟩ := and_ok c2
      have q' : PF Γ W ts D (.nx (setS (setS env' i (some (t1.d, capN t1.n l1))) j (some (t2.d, capN t2.n l2)))) := q'
      have s' : SR Γ H' env' σ Fs' (t1 :: t2 :: ts) := s'
      refine .frz _ (s'.cap l1 (of_decide_eq_true c12)).choose_spec.1 (s'.cap l1 (of_decide_eq_true c12)).choose_spec.2.1 fun ob => ?_
      obtain ⟨G1, _, _, s2⟩ := (s'.cap l1 (of_decide_eq_true c12)).choose_spec.2.2.2 ob
      refine s2.swap.capped (of_decide_eq_true c22) fun H3 G2 s3 => ⟨t1.v, t2.v, rfl, ?_⟩
      have li : i < σ.length := by rw [← s'.len]; exact of_decide_eq_true c11
      have lj : j < σ.length := by have := of_decide_eq_true c21; simp [setS] at this; rw [← s'.len]; exact this
      have s4 := s3.swap.put li fun q hq e => absurd (e ▸ C.pn q hq) hpi
      have s5 := s4.put (i := j) (by simpa using lj) fun q hq e => absurd (e ▸ C.pn q hq) hpj
      exact q' _ H3 _ s5
    · exact q'.elim
  · exact q'.elim
end
end Eng
end

section
set_option linter.all false
set_option maxRecDepth 100000
namespace Eng
open PySem PySem.Spec PyProof.Rows
open L2 (V HO Hp VK TE TS TA TT TI TG TGs TSet PGs PSet WX XK SqL SqT Rd upd upd_same upd_ne upd_upd Key kV Mut RelV Vals Inv Cx PE PS PT PW PA PI PG PSs PTs Takes tVar tNil tCons tOp Vis Loc Gl Room OpR R2 EP Dp DpAll TruR TruV IxR CallR FnOk Sp Ends PassesAt BlkOk DPut valV)
/-! ### stores -/
/-- the heap behind a[y] = v, a dict; an empty one takes any key -/
def PutD (H : Hp) (a : Addr) (y v : V) (H' : Hp) : Prop := DPut H a y v H' ∨ (H a = some (.dK []) ∧ ∃ (b : Addr) (k : List Key), y = .ref b ∧ H b = some (.tup (k.map kV)) ∧ H' = upd H a (.dT [(k, v)]))
theorem inv_dT {X : Cx} {pins : List (Addr × Obj)} {σ : L2.St} {H : Hp} {s : Shared} {a : Addr} (I : Inv X pins σ H s) (h : H a = some (.dK [])) : Inv X pins σ (upd H a (.dT [])) s := by
  obtain ⟨z, hd, vs, rel, dd⟩ := L2.dk_of I.hok h
  cases rel
  obtain ⟨o, es, ep, e, c, d, he, _⟩ := dk_dt (P := X.prog) (w := X.w) dd
  have new : L2.ObjOk X.prog X.w (upd H a (.dT [])) s.heap a (.dT []) := ⟨Nat.zero_le _, hd, [], .nil, o, es, ep, e, c, d, he, List.nodup_nil⟩
  exact I.write (x := a) (e := a) (t' := s.toks) (by rw [h]; trivial) (.inl rfl) (fun b u _ q => q) ⟨o, e⟩ new
theorem g_setItem {X : Cx} {pins : List (Addr × Obj)} {σ : L2.St} {H H' : Hp} {s : Shared} {a : Addr} {y v : V} {u r : Value} {A : Around} {E : Value → Shared → Prop} {Q : Unit → Shared → Prop} (hu : A.units + 1 < cLine) (I : Inv X pins σ H s) (g : PutD H a y v H') (ry : RelV y u) (rv : RelV v r) (h : ∀ s', Inv X pins σ H' s' → Q () s') :
    wpAny (model X.prog X.w) A (setItem (.ref a) u r) Q E s := by
  rcases g with g | ⟨e, b, k, ey, eb, eH⟩
  · exact L2.d_setItem hu I g ry rv h
  · have I1 := inv_dT I e
    have ne : b ≠ a := L2.ne_of eb e (fun z => nomatch z)
    refine L2.d_setItem hu I1 (.inr ⟨[], k, b, upd_same, ey, by rw [upd_ne ne]; exact eb, by decide, rfl⟩) ry rv fun s' I' => h s' ?_
    rw [upd_upd] at I'
    rw [eH]
    exact I'
def rSetG : TSet := fun o i v H Q => L2.rSetL o i v H Q ∨ ∃ a H', o = .ref a ∧ PutD H a i v H' ∧ Q H'
theorem set_G {X : Cx} (hu : X.A.units + 1 < cLine) : PSet X rSetG := by
  intro pins s σ H o i v ov iv u Q I ro ri rv h
  rcases h with h | ⟨a, H', rfl, g, q⟩
  · exact L2.set_list pins s σ H o i v ov iv u Q I ro ri rv h
  · cases ro
    exact g_setItem hu I g ri rv fun s' I' => ⟨H', I', q⟩
section
variable {Γ : Gm} {H : Hp} {env : Env} {σ : L2.St} {Fs : Nat → List Addr} {ts : List Tmp}
/-- an owned dict taken apart -/
theorem SR.unpackD {ks ds : List D} {k : Nat} {D0 : Addr} {F : List Addr} (s : SR Γ H env σ Fs (⟨.dic ks ds, k, .ref D0, F⟩ :: ts)) (hk : k ≠ 0) : ∃ m tl u, k = m + 1 ∧ m < 8 ∧ H D0 = some u ∧ DicU ks (tl.map (·.v)) u ∧ tl.map (·.d) = ds ∧ (∀ t ∈ tl, t.n = m) ∧ SR Γ H env σ Fs (tl ++ ts) ∧
    (∀ t ∈ tl, D0 ∉ t.F) ∧ (∀ t ∈ ts, D0 ∉ t.F) ∧ (∀ i, D0 ∉ Fs i) ∧ (D0 ∈ Γ.L0 ∨ Γ.H0 D0 = none) := by
  have o : Own Γ.p H k (.dic ks ds) (.ref D0) F := s.tmp _ List.mem_cons_self
  have nd : F.Nodup := s.ndt _ List.mem_cons_self
  have pw := List.pairwise_cons.mp s.djt
  rcases o with ⟨e, _⟩ | ⟨m, a, vs, u, G, e, e2, e3, e4, d, r, e5⟩
  · exact absurd e hk
  · cases e3
    obtain ⟨tl, a1, a2, a3, a4⟩ := ownL_split r
    subst e5
    have nd' := List.nodup_cons.mp nd
    have s2 := s.split tl (fun u hu => (a4 u hu).2) (by rw [a3]; exact nd'.2) (fun b hb => by rw [a3] at hb; exact List.mem_cons_of_mem _ hb)
    refine ⟨m, tl, u, e, by omega, e4, by rw [a2]; exact d, a1, fun t ht => (a4 t ht).1, s2, fun t ht hb => ?_, fun t ht => pw.1 t ht D0 List.mem_cons_self, fun i => s.djm i _ List.mem_cons_self D0 List.mem_cons_self, s.frt _ List.mem_cons_self D0 List.mem_cons_self⟩
    exact nd'.1 (by rw [← a3]; exact List.mem_flatMap.mpr ⟨t, ht, hb⟩)
theorem SR.packD {m : Nat} {tl : List Tmp} {p : Addr} {ks : List D} {u : HO} (s : SR Γ H env σ Fs (tl ++ ts)) (hm : m < 8) (hn : ∀ t ∈ tl, t.n = m ∨ t.n = 9) (hp : H p = some u) (hd : DicU ks (tl.map (·.v)) u) (h1 : ∀ t ∈ tl, p ∉ t.F) (h2 : ∀ t ∈ ts, p ∉ t.F) (h3 : ∀ i, p ∉ Fs i) (h4 : p ∈ Γ.L0 ∨ Γ.H0 p = none) :
    SR Γ H env σ Fs (⟨.dic ks (tl.map (·.d)), m + 1, .ref p, p :: tl.flatMap (·.F)⟩ :: ts) := by
  obtain ⟨o, nd, fr⟩ := s.join (by omega) tl hn
  have own : Own Γ.p H (m + 1) (.dic ks (tl.map (·.d))) (.ref p) (p :: tl.flatMap (·.F)) := .inr ⟨m, p, _, u, _, rfl, by omega, rfl, hp, hd, o, rfl⟩
  have np : p ∉ tl.flatMap (·.F) := fun h => by
    obtain ⟨u, hu, hb⟩ := List.mem_flatMap.mp h
    exact h1 u hu hb
  refine s.tail.push (t := ⟨.dic ks (tl.map (·.d)), m + 1, .ref p, p :: tl.flatMap (·.F)⟩) own (List.nodup_cons.mpr ⟨np, nd⟩) (fun u hu b hb hb' => ?_) (fun i b hb hb' => ?_) (fun b hb => ?_)
  · rcases List.mem_cons.mp hb with e | hb
    · subst e; exact h2 u hu hb'
    · exact (fr b hb).2.1 u hu hb'
  · rcases List.mem_cons.mp hb with e | hb
    · subst e; exact h3 i hb'
    · exact (fr b hb).1 i hb'
  · rcases List.mem_cons.mp hb with e | hb
    · subst e; exact h4
    · exact (fr b hb).2.2.1
/-- a pending item takes the place j -/
theorem SR.setAt {x : Tmp} {tl : List Tmp} {j : Nat} (s : SR Γ H env σ Fs (x :: (tl ++ ts))) (hj : j < tl.length) : SR Γ H env σ Fs (tl.set j x ++ ts) := by
  rw [List.set_eq_take_append_cons_drop, if_pos hj]
  have sub : (tl.take j ++ tl.drop (j + 1)).Sublist tl := by
    conv => rhs; rw [← List.take_append_drop j tl]
    exact List.Sublist.append (List.Sublist.refl _) (by rw [← List.drop_drop]; exact List.drop_sublist _ _)
  have s2 : SR Γ H env σ Fs (x :: ((tl.take j ++ tl.drop (j + 1)) ++ ts)) := s.sub (List.Sublist.cons_cons _ (List.Sublist.append sub (List.Sublist.refl _)))
  refine s2.perm ?_
  rw [List.append_assoc, List.append_assoc]
  exact List.perm_middle.symm
end
end Eng
end

section
set_option linter.all false
set_option maxRecDepth 100000
namespace Eng
open PySem PySem.Spec PyProof.Rows
open L2 (V HO Hp upd upd_same upd_ne upd_upd)
/-! ### an item stored in, or put at the end of, an owned list: the item's deeper objects are given up after the store -/
section
variable {Γ : Gm} {H : Hp} {env : Env} {σ : L2.St} {Fs : Nat → List Addr} {ts : List Tmp}
theorem map_setV {tl : List Tmp} {j : Nat} {x : Tmp} : (tl.set j x).map (fun t => t.v) = (tl.map (fun t => t.v)).set j x.v := List.map_set
theorem map_setD {tl : List Tmp} {j : Nat} {x : Tmp} : (tl.set j x).map (fun t => t.d) = (tl.map (fun t => t.d)).set j x.d := List.map_set
theorem capN_9 {n m : Nat} (h : m ≤ n) : capN n m = m ∨ capN n m = 9 := by
  unfold capN
  split
  · exact .inr rfl
  · exact .inl (by omega)
theorem SR.storeL {ds : List D} {k n j : Nat} {D0 : Addr} {F G : List Addr} {d : D} {y : V} (s : SR Γ H env σ Fs (⟨d, n, y, G⟩ :: ⟨.lst ds, k, .ref D0, F⟩ :: ts)) (hk : k ≠ 0) (hk9 : k < 9) (hn : k - 1 ≤ n) (hj : j < ds.length) :
    ∃ acc : List V, H D0 = some (.lst acc) ∧ acc.length = ds.length ∧ ∀ Q : Hp → Prop, (∀ H' F', SR Γ H' env σ Fs (⟨.lst (ds.set j d), k, .ref D0, F'⟩ :: ts) → Q H') → Lk Q (upd H D0 (.lst (acc.set j y))) := by
  obtain ⟨m, tl, e1, m8, e3, e4, e5, s4, f1, f2, f3, f4, f5⟩ := s.swap.unpack hk
  subst e1
  have tlen : tl.length = ds.length := by rw [← e4, List.length_map]
  have hl : Lab (H D0) := by rw [e3]; trivial
  refine ⟨tl.map (·.v), e3, by rw [List.length_map, tlen], fun Q h => ?_⟩
  have s5 : SR Γ H env σ Fs (⟨d, n, y, G⟩ :: (tl ++ ts)) := s4.perm (List.perm_middle)
  have fx : D0 ∉ G := f2 _ List.mem_cons_self
  have s6 := s5.updFree (u := .lst ((tl.map (·.v)).set j y)) hl (fun t ht => by
    rcases List.mem_cons.mp ht with e | ht
    · subst e; exact fx
    · rcases List.mem_append.mp ht with ht | ht
      · exact f1 t ht
      · exact f2 t (List.mem_cons_of_mem _ ht)) f3 f4
  obtain ⟨L, nd, mu, sub, r⟩ := s6.cap m (by omega)
  refine .frz L nd mu fun ob => .done ?_
  obtain ⟨G', g1, _, s7⟩ := r ob
  have s8 := s7.setAt (j := j) (by omega)
  have nd0 : D0 ∉ L := fun z => fx (sub _ z)
  have hm := capN_9 (n := n) (m := m) (by omega)
  have s9 := SR.pack (p := D0) (m := m) s8 m8 (fun t ht => by
    rcases List.mem_or_eq_of_mem_set ht with ht | e
    · exact .inl (e5 t ht)
    · subst e; exact hm) (by rw [frzL_out nd0, upd_same, map_setV]) (fun t ht => by
    rcases List.mem_or_eq_of_mem_set ht with ht | e
    · exact f1 t ht
    · subst e; exact fun z => fx (g1 _ z)) (fun t ht => f2 t (List.mem_cons_of_mem _ ht)) f3 f4
  rw [map_setD, e4] at s9
  exact h _ _ s9
theorem SR.appEnd {ds : List D} {k n : Nat} {D0 : Addr} {F G : List Addr} {d : D} {y : V} (s : SR Γ H env σ Fs (⟨d, n, y, G⟩ :: ⟨.lst ds, k, .ref D0, F⟩ :: ts)) (hk : k ≠ 0) (hk9 : k < 9) (hn : k - 1 ≤ n) :
    ∃ acc : List V, H D0 = some (.lst acc) ∧ acc.length = ds.length ∧ ∀ Q : Hp → Prop, (∀ H' F', SR Γ H' env σ Fs (⟨.lst (ds ++ [d]), k, .ref D0, F'⟩ :: ts) → Q H') → Lk Q (upd H D0 (.lst (acc ++ [y]))) := by
  obtain ⟨m, tl, e1, m8, e3, e4, e5, s4, f1, f2, f3, f4, f5⟩ := s.swap.unpack hk
  subst e1
  have tlen : tl.length = ds.length := by rw [← e4, List.length_map]
  have hl : Lab (H D0) := by rw [e3]; trivial
  refine ⟨tl.map (·.v), e3, by rw [List.length_map, tlen], fun Q h => ?_⟩
  have s5 : SR Γ H env σ Fs (⟨d, n, y, G⟩ :: (tl ++ ts)) := s4.perm (List.perm_middle)
  have fx : D0 ∉ G := f2 _ List.mem_cons_self
  have s6 := s5.updFree (u := .lst (tl.map (·.v) ++ [y])) hl (fun t ht => by
    rcases List.mem_cons.mp ht with e | ht
    · subst e; exact fx
    · rcases List.mem_append.mp ht with ht | ht
      · exact f1 t ht
      · exact f2 t (List.mem_cons_of_mem _ ht)) f3 f4
  obtain ⟨L, nd, mu, sub, r⟩ := s6.cap m (by omega)
  refine .frz L nd mu fun ob => .done ?_
  obtain ⟨G', g1, _, s7⟩ := r ob
  have s8 : SR Γ (frzL ob L (upd H D0 (.lst (tl.map (·.v) ++ [y])))) env σ Fs ((tl ++ [⟨d, capN n m, y, G'⟩]) ++ ts) := by
    rw [List.append_assoc]
    exact s7.perm List.perm_middle.symm
  have nd0 : D0 ∉ L := fun z => fx (sub _ z)
  have hm := capN_9 (n := n) (m := m) (by omega)
  have s9 := SR.pack (p := D0) (m := m) s8 m8 (fun t ht => by
    rcases List.mem_append.mp ht with ht | ht
    · exact .inl (e5 t ht)
    · rw [List.mem_singleton.mp ht]; exact hm) (by rw [frzL_out nd0, upd_same]; simp) (fun t ht => by
    rcases List.mem_append.mp ht with ht | ht
    · exact f1 t ht
    · rw [List.mem_singleton.mp ht]; exact fun z => fx (g1 _ z)) (fun t ht => f2 t (List.mem_cons_of_mem _ ht)) f3 f4
  have e6 : (tl ++ [Tmp.mk d (capN n m) y G']).map (fun t => t.d) = ds ++ [d] := by rw [List.map_append, e4]; rfl
  rw [e6] at s9
  exact h _ _ s9
end
end Eng
end

section
set_option linter.all false
set_option maxRecDepth 100000
namespace Eng
open PySem PySem.Spec PyProof.Rows
open L2 (V HO Hp upd upd_same upd_ne upd_upd Key kV)
/-! ### a key set in a dict -/
def dsetG {α : Type} (k : D) (x : α) : List D → List α → List D × List α
  | a :: ks, b :: vs => if D.eqv a k then (a :: ks, x :: vs) else let r := dsetG k x ks vs; (a :: r.1, b :: r.2)
  | _, _ => ([k], [x])
theorem dset_G {k v : D} : ∀ {ks vs : List D}, dset k v ks vs = dsetG k v ks vs
  | [], vs => rfl
  | _ :: _, [] => rfl
  | a :: ks, b :: vs => by
    unfold dset dsetG
    rw [dset_G (ks := ks) (vs := vs)]
theorem dsetG_map {α β : Type} {k : D} {x : α} (f : α → β) : ∀ {ks : List D} {vs : List α}, dsetG k (f x) ks (vs.map f) = ((dsetG k x ks vs).1, (dsetG k x ks vs).2.map f)
  | [], vs => rfl
  | _ :: _, [] => rfl
  | a :: ks, b :: vs => by
    rw [List.map_cons]
    unfold dsetG
    by_cases h : D.eqv a k = true
    · rw [if_pos h, if_pos h]; rfl
    · rw [if_neg h, if_neg h]
      dsimp only
      rw [dsetG_map f (ks := ks) (vs := vs)]
      rfl
theorem dsetG_perm {α : Type} {k : D} {x : α} : ∀ {ks : List D} {vs : List α}, vs.length = ks.length → ∃ l, (dsetG k x ks vs).2.Perm (x :: l) ∧ l.Sublist vs
  | [], [], _ => ⟨[], .refl _, .refl _⟩
  | [], _ :: _, h => by cases h
  | _ :: _, [], h => by cases h
  | a :: ks, b :: vs, h => by
    unfold dsetG
    by_cases e : D.eqv a k = true
    · rw [if_pos e]; exact ⟨vs, .refl _, List.sublist_cons_self _ _⟩
    · rw [if_neg e]
      obtain ⟨l, p, s⟩ := dsetG_perm (k := k) (x := x) (ks := ks) (vs := vs) (by simpa using h)
      exact ⟨b :: l, (List.Perm.cons b p).trans (.swap _ _ _), s.cons_cons b⟩
theorem putK_nil {κ : Type} [DecidableEq κ] {k : κ} {v : V} : L2.putK [] k v = [(k, v)] := rfl
theorem map_noK {κ : Type} [DecidableEq κ] {k : κ} {v : V} : ∀ {r : List (κ × V)}, k ∉ r.map (·.1) → r.map (fun kv => if kv.1 = k then (kv.1, v) else kv) = r
  | [], _ => rfl
  | p :: r, h => by
    rw [List.map_cons, List.mem_cons, not_or] at h
    rw [List.map_cons, if_neg (fun e => h.1 e.symm), map_noK h.2]
theorem putK_cons {κ : Type} [DecidableEq κ] {p : κ × V} {r : List (κ × V)} {k : κ} {v : V} (nd : ((p :: r).map (·.1)).Nodup) : L2.putK (p :: r) k v = if p.1 = k then (p.1, v) :: r else p :: L2.putK r k v := by
  rw [List.map_cons] at nd
  have nd := List.nodup_cons.mp nd
  unfold L2.putK
  by_cases h : p.1 = k
  · rw [if_pos h, if_pos (by simp [h]), List.map_cons, if_pos h, map_noK (fun z => nd.1 (h ▸ z))]
  · rw [if_neg h]
    by_cases h2 : (r.any fun kv => decide (kv.1 = k)) = true
    · rw [if_pos h2, if_pos (by simp only [List.any_cons, h2, Bool.or_true]), List.map_cons, if_neg h]
    · rw [if_neg h2, if_neg (by simp only [List.any_cons, h, decide_false, Bool.false_or]; exact h2)]
      rfl
theorem putK_G {κ : Type} [DecidableEq κ] {f : κ → D} (hf : ∀ a b, D.eqv (f a) (f b) = decide (a = b)) {k : κ} {v : V} : ∀ {kvs : List (κ × V)}, (kvs.map (·.1)).Nodup →
    dsetG (f k) v (kvs.map fun p => f p.1) (kvs.map (·.2)) = ((L2.putK kvs k v).map (fun p => f p.1), (L2.putK kvs k v).map (·.2))
  | [], _ => rfl
  | p :: r, nd => by
    rw [putK_cons nd]
    rw [List.map_cons] at nd
    have ih := putK_G hf (k := k) (v := v) (List.nodup_cons.mp nd).2
    rw [List.map_cons, List.map_cons]
    unfold dsetG
    rw [hf]
    by_cases h : p.1 = k
    · rw [if_pos (by simpa using h), if_pos h]; rfl
    · rw [if_neg (by simpa using h), if_neg h, ih]; rfl
theorem putK_keys {κ : Type} [DecidableEq κ] {k : κ} {v : V} : ∀ {kvs : List (κ × V)}, (kvs.map (·.1)).Nodup → ((L2.putK kvs k v).map (·.1)).Nodup ∧ ∀ q ∈ (L2.putK kvs k v).map (·.1), q = k ∨ q ∈ kvs.map (·.1)
  | [], _ => ⟨by simp [putK_nil], fun q h => by simpa [putK_nil] using h⟩
  | p :: r, nd => by
    rw [putK_cons nd]
    rw [List.map_cons] at nd
    obtain ⟨n1, n2⟩ := List.nodup_cons.mp nd
    obtain ⟨a, b⟩ := putK_keys (k := k) (v := v) n2
    by_cases h : p.1 = k
    · rw [if_pos h]
      exact ⟨by rw [List.map_cons]; exact nd, fun q hq => .inr hq⟩
    · rw [if_neg h]
      refine ⟨?_, fun q hq => ?_⟩
      · rw [List.map_cons]
        refine List.nodup_cons.mpr ⟨fun z => ?_, a⟩
        rcases b _ z with e | e
        · exact h e
        · exact n1 e
      · rw [List.map_cons] at hq
        rcases List.mem_cons.mp hq with e | e
        · exact .inr (by rw [e, List.map_cons]; exact List.mem_cons_self)
        · rcases b _ e with e | e
          · exact .inl e
          · exact .inr (by rw [List.map_cons]; exact List.mem_cons_of_mem _ e)
end Eng
end

section
set_option linter.all false
set_option maxRecDepth 100000
namespace Eng
open PySem PySem.Spec PyProof.Rows
open L2 (V HO Hp upd upd_same upd_ne upd_upd Key kV DPut)
theorem nodup_of_map {α β : Type} {f : α → β} {l : List α} (h : (l.map f).Nodup) : l.Nodup := (List.pairwise_map.mp h).imp fun n e => n (congrArg f e)
theorem nodup_map {α β : Type} {f : α → β} (hf : ∀ a b, f a = f b → a = b) {l : List α} (h : l.Nodup) : (l.map f).Nodup := List.pairwise_map.mpr (h.imp fun n e => n (hf _ _ e))
theorem keyDs_inj : ∀ {a b : List Key}, a.map keyD = b.map keyD → a = b
  | [], [], _ => rfl
  | [], _ :: _, h => by cases h
  | _ :: _, [], h => by cases h
  | x :: a, y :: b, h => by
    rw [List.map_cons, List.map_cons] at h
    injection h with h1 h2
    rw [keyD_inj h1, keyDs_inj h2]
theorem DicU.put {p : Par} {H : Hp} {ks : List D} {vs : List V} {u : HO} {a : Addr} {k : D} {y v : V} (hu : DicU ks vs u) (ha : H a = some u) (r : Rep p H k y) (h : keyFor ks k = true) (hl : ks.length < sizeLine) :
    ∃ u', PutD H a y v (upd H a u') ∧ DicU (dsetG k v ks vs).1 (dsetG k v ks vs).2 u' := by
  obtain ⟨nd, c⟩ := hu
  rcases rep_key r (keyFor_ok h) with ⟨q, e1, e2⟩ | ⟨q, b, e1, e2, e3⟩
  · subst e1 e2
    rcases c with ⟨kvs, e, ek, ev⟩ | ⟨kvs, e, ek, ev, ne⟩
    · subst ek ev
      have n1 : (kvs.map (·.1)).Nodup := nodup_of_map (f := keyD) (by rw [List.map_map]; exact nd)
      have g := putK_G (f := keyD) (fun a b => eqv_keyD) (k := q) (v := v) n1
      refine ⟨.dK (L2.putK kvs q v), .inl (DPut.k (by rw [ha, e]) (by simpa using hl)), ?_⟩
      rw [g]
      refine ⟨?_, .inl ⟨_, rfl, rfl, rfl⟩⟩
      have := nodup_map (f := keyD) (fun a b => keyD_inj) (putK_keys (k := q) (v := v) n1).1
      rw [List.map_map] at this
      exact this
    · exfalso
      cases kvs with
      | nil => exact ne rfl
      | cons x xs =>
        rw [ek] at h
        have h2 := (and_ok h).2
        cases q <;> exact absurd h2 (by simp [keyD])
  · subst e1 e2
    rcases c with ⟨kvs, e, ek, ev⟩ | ⟨kvs, e, ek, ev, ne⟩
    · cases kvs with
      | nil =>
        subst ek ev
        refine ⟨.dT [(q, v)], .inr ⟨by rw [ha, e], b, q, rfl, e3, rfl⟩, ?_⟩
        exact ⟨by simp [dsetG], .inr ⟨[(q, v)], rfl, rfl, rfl, by simp⟩⟩
      | cons x xs =>
        exfalso
        rw [ek] at h
        have h2 := (and_ok h).2
        rcases x with ⟨x | x, w⟩ <;> exact absurd h2 (by simp [keyD])
    · subst ek ev
      have n1 : (kvs.map (·.1)).Nodup := nodup_of_map (f := fun p => D.tup (p.map keyD)) (by rw [List.map_map]; exact nd)
      have g := putK_G (f := fun p => D.tup (p.map keyD)) (fun a b => by
        show D.eqvL (a.map keyD) (b.map keyD) = _
        exact eqv_keyDs) (k := q) (v := v) n1
      refine ⟨.dT (L2.putK kvs q v), .inl (DPut.t (by rw [ha, e]) e3 (by simpa using hl)), ?_⟩
      rw [g]
      refine ⟨?_, .inr ⟨_, rfl, rfl, rfl, ?_⟩⟩
      · have := nodup_map (f := fun p : List Key => D.tup (p.map keyD)) (fun a b e => keyDs_inj (by injection e)) (putK_keys (k := q) (v := v) n1).1
        rw [List.map_map] at this
        exact this
      · cases kvs with
        | nil => exact absurd rfl ne
        | cons x xs =>
          rw [putK_cons n1]
          split <;> simp
section
variable {Γ : Gm} {H : Hp} {env : Env} {σ : L2.St} {Fs : Nat → List Addr} {ts : List Tmp}
theorem SR.storeD {ks ds : List D} {k n : Nat} {D0 : Addr} {F G : List Addr} {d q : D} {y kv : V} (s : SR Γ H env σ Fs (⟨d, n, y, G⟩ :: ⟨.dic ks ds, k, .ref D0, F⟩ :: ts)) (hk : k ≠ 0) (hk9 : k < 9) (hn : k - 1 ≤ n) (r : Rep Γ.p H q kv) (hq : keyFor ks q = true) (hl : ks.length < sizeLine) :
    ∃ H', PutD H D0 kv y H' ∧ ∀ Q : Hp → Prop, (∀ H2 F', SR Γ H2 env σ Fs (⟨.dic (dset q d ks ds).1 (dset q d ks ds).2, k, .ref D0, F'⟩ :: ts) → Q H2) → Lk Q H' := by
  obtain ⟨m, tl, u, e1, m8, e3, du, e4, e5, s4, f1, f2, f3, f4⟩ := s.swap.unpackD hk
  subst e1
  obtain ⟨u', pd, du'⟩ := du.put (v := y) e3 r hq hl
  have tlen : tl.length = ks.length := by have := du.len; rw [List.length_map] at this; exact this
  have hlab : Lab (H D0) := by
    rw [e3]
    rcases du.2 with ⟨_, e, _⟩ | ⟨_, e, _⟩ <;> subst e <;> trivial
  refine ⟨_, pd, fun Q h => ?_⟩
  have s5 : SR Γ H env σ Fs (⟨d, n, y, G⟩ :: (tl ++ ts)) := s4.perm (List.perm_middle)
  have fx : D0 ∉ G := f2 _ List.mem_cons_self
  have s6 := s5.updFree (u := u') hlab (fun t ht => by
    rcases List.mem_cons.mp ht with e | ht
    · subst e; exact fx
    · rcases List.mem_append.mp ht with ht | ht
      · exact f1 t ht
      · exact f2 t (List.mem_cons_of_mem _ ht)) f3 f4
  obtain ⟨L, nd, mu, sub, r⟩ := s6.cap m (by omega)
  refine .frz L nd mu fun ob => .done ?_
  obtain ⟨G', g1, _, s7⟩ := r ob
  obtain ⟨l, pm, sl⟩ := dsetG_perm (k := q) (x := (⟨d, capN n m, y, G'⟩ : Tmp)) tlen
  have s8 : SR Γ (frzL ob L (upd H D0 u')) env σ Fs ((dsetG q (⟨d, capN n m, y, G'⟩ : Tmp) ks tl).2 ++ ts) :=
    (s7.sub (List.Sublist.cons_cons _ (List.Sublist.append sl (List.Sublist.refl _)))).perm (List.Perm.append pm (List.Perm.refl _)).symm
  have nd0 : D0 ∉ L := fun z => fx (sub _ z)
  have hm := capN_9 (n := n) (m := m) (by omega)
  have mem : ∀ t ∈ (dsetG q (⟨d, capN n m, y, G'⟩ : Tmp) ks tl).2, t = ⟨d, capN n m, y, G'⟩ ∨ t ∈ tl := fun t ht => by
    rcases List.mem_cons.mp (pm.mem_iff.mp ht) with e | e
    · exact .inl e
    · exact .inr (sl.subset e)
  have gv := dsetG_map (k := q) (x := (⟨d, capN n m, y, G'⟩ : Tmp)) (fun t => t.v) (ks := ks) (vs := tl)
  have gd := dsetG_map (k := q) (x := (⟨d, capN n m, y, G'⟩ : Tmp)) (fun t => t.d) (ks := ks) (vs := tl)
  rw [gv] at du'
  have s9 := SR.packD (p := D0) (m := m) (ks := (dsetG q (⟨d, capN n m, y, G'⟩ : Tmp) ks tl).1) (u := u') s8 m8 (fun t ht => by
    rcases mem t ht with e | ht
    · subst e; exact hm
    · exact .inl (e5 t ht)) (by rw [frzL_out nd0, upd_same]) du' (fun t ht => by
    rcases mem t ht with e | ht
    · subst e; exact fun z => fx (g1 _ z)
    · exact f1 t ht) (fun t ht => f2 t (List.mem_cons_of_mem _ ht)) f3 f4
  have e9 : dset q d ks ds = ((dsetG q (⟨d, capN n m, y, G'⟩ : Tmp) ks tl).1, (dsetG q (⟨d, capN n m, y, G'⟩ : Tmp) ks tl).2.map (fun t => t.d)) := by
    rw [dset_G, ← e4]
    exact gd
  exact h _ _ (by rw [e9]; exact s9)
end
end Eng
end

section
set_option linter.all false
set_option maxRecDepth 100000
namespace Eng
open PySem PySem.Spec PyProof.Rows
open L2 (V HO Hp upd upd_same upd_ne upd_upd Key kV DPut)
section
variable {Γ : Gm} {H : Hp} {env : Env} {σ : L2.St} {Fs : Nat → List Addr} {ts : List Tmp}
/-- the store behind a target c[k] = x -/
theorem SR.putK {c c' k : D} {n : Nat} {x : D × Nat} {o y kv : V} {F G : List Addr} {Q : Hp → Prop} (s : SR Γ H env σ Fs (⟨x.1, x.2, y, G⟩ :: ⟨c, n, o, F⟩ :: ts)) (hp : Eng.putK c n k x = some c') (r : Rep Γ.p H k kv)
    (h : ∀ H2 F', SR Γ H2 env σ Fs (⟨c', n, o, F'⟩ :: ts) → Q H2) : rSetG o kv y H (Lk Q) := by
  unfold Eng.putK at hp
  split at hp
  · cases hp
  rename_i h1
  split at hp
  · rename_i h2
    have n0 : n ≠ 0 := fun e => h1 (by simp [e])
    have own : Own Γ.p H n c o F := s.tmp _ (List.mem_cons_of_mem _ List.mem_cons_self)
    have lv : n < 9 → n - 1 ≤ x.2 := fun n9 => by
      simp only [Bool.or_eq_true, decide_eq_true_eq] at h2
      omega
    cases c with
    | lst l =>
      cases k with
      | int j =>
        dsimp only at hp
        cases hj : pyIx l.length j with
        | none => rw [hj] at hp; cases hp
        | some i =>
          rw [hj] at hp
          have hp : some (D.lst (l.set i x.1)) = some c' := hp
          cases hp
          rcases own with ⟨e, _⟩ | ⟨m, a, vs, G', e, n9, e2, e3, _⟩
          · exact absurd e n0
          · subst e2
            have lt : i < l.length := (L2.ixN_seq (show L2.ixN l.length j = some i from hj)).2.1
            obtain ⟨acc, a1, a2, a3⟩ := s.storeL (j := i) n0 n9 (lv n9) lt
            have r : kv = .int j := r
            exact .inl ⟨a, acc, j, i, rfl, r, a1, by rw [a2]; exact hj, a3 Q h⟩
      | _ => cases hp
    | dic ks vs =>
      have hp : (if (keyFor ks k && decide (ks.length < SZ)) = true then some (D.dic (dset k x.1 ks vs).1 (dset k x.1 ks vs).2) else none) = some c' := by
        cases k <;> exact hp
      split at hp
      · rename_i h3
        obtain ⟨h31, h32⟩ := and_ok h3
        cases hp
        rcases own with ⟨e, _⟩ | ⟨m, a, vs', u, G', e, n9, e2, e3, _⟩
        · exact absurd e n0
        · subst e2
          obtain ⟨H', a1, a2⟩ := s.storeD n0 n9 (lv n9) r h31 (Nat.lt_of_lt_of_le (of_decide_eq_true h32) (by decide))
          exact .inr ⟨a, H', rfl, a1, a2 Q h⟩
      · cases hp
    | _ => cases k <;> cases hp
  · cases hp
end
end Eng
end

section
set_option linter.all false
set_option maxRecDepth 100000
namespace Eng
open PySem PySem.Spec PyProof.Rows
open L2 (V HO Hp VK TE TS TA TT TI TG TGs TSet PGs PSet WX XK SqL SqT Rd upd upd_same upd_ne upd_upd Key kV Mut RelV Vals Inv Cx PE PS PT PW PA PI PG PSs PTs Takes tVar tNil tCons tOp Vis Loc Gl Room OpR R2 EP Dp DpAll TruR TruV IxR CallR FnOk Sp Ends PassesAt BlkOk DPut valV)
section
variable {Dw : Wd} {n : Nat} {S : Sx} {X : Cx} {Γ : Gm} {W : WX} {v : Ev} {m : Mod} {c : Nat}
theorem tO_mono {i : E} {σ : L2.St} {H : Hp} {Q Q' : VK} (h : ∀ u H', Q u H' → Q' u H') : tO v Γ W c i σ H Q → tO v Γ W c i σ H Q' := by
  unfold tO
  cases isPl i with
  | some j => exact fun ⟨u, hu, q⟩ => ⟨u, hu, h _ _ q⟩
  | none =>
    intro ⟨env, Fs, ts, s, q⟩
    refine ⟨env, Fs, ts, s, ?_⟩
    cases hr : v.e i env with
    | ok d k env' => rw [hr] at q; exact fun u H' F Fs' s' => h _ _ (q u H' F Fs' s')
    | ex k a env' => rw [hr] at q; exact q
    | bad => rw [hr] at q; exact q
theorem putK_key {c c' k : D} {n : Nat} {x : D × Nat} (h : Eng.putK c n k x = some c') : isKey k = true := by
  unfold Eng.putK at h
  split at h
  · cases h
  split at h
  · split at h
    · rfl
    · split at h
      · rename_i h3; exact keyFor_ok (and_ok h3).1
      · cases h
    · cases h
  · cases h
/-- x[k] = e -/
theorem ns_seti {i : Nat} {k e : E} {ex ek ee : Expr} {ps pos : Pos} (C : Ctx Dw n S X Γ W) (hne : isPl e = none) (hx : PE X ex (tVar i)) (he : PE X ee (tO v Γ W 7 e)) (hk : PE X ek (tO v Γ W 7 k))
    (ha : ∀ v, assign (.Subscript ex ek ps) X.env v = (do
      let ov ← holding [v] (eval ex X.env)
      let iv ← holding [v, ov] (eval ek X.env)
      standAt ps
      holding [v, ov, iv] (setItem ov iv v)
      release [v, ov, iv] []))
    (h1 : (assignEach [.Subscript ex ek ps] X.env).map (·.2) = [assign (.Subscript ex ek ps) X.env])
    (hs : swapsWithSole [.Subscript ex ek ps] ee pos.line X.env = pure false) (hw : swappedStores [.Subscript ex ek ps] ee X.env = pure none) : PS X (.Assign [.Subscript ex ek ps] ee pos) (tS1 v m Γ W (.seti i k e)) := by
  have un := C.un
  refine ⟨fun pins s σ H D I ⟨env, Fs, ts, r, q⟩ => (ps_lkE (L2.ps_asg he (L2.pg_sub hx hk (set_G (by omega)) ha) hs hw h1)).run pins s σ H D I ?_⟩
  have q : PF Γ W ts D (if (getS env i).isNone then .bad else opsF v 7 [e, k] env fun ds env => match ds, getS env i with
    | [x, (k, _)], some (c, n) => nxO ((Eng.putK c n k x).map fun c => setS env i (some (c, n)))
    | _, _ => .bad) := q
  cases hg : getS env i with
  | none => rw [hg] at q; exact q.elim
  | some c0 =>
    rw [hg] at q
    obtain ⟨o, ho, _⟩ := r.at_ i c0.1 c0.2 hg
    have z := opsF_run (Q' := fun us H3 => match us with | [u, kv] => rSetG o kv u H3 (Lk (D.nx σ)) | _ => True) r q fun ds dsP env' us H' Fs' tl s' op hp q2 => by
      have vw := opv op s' hp
      cases op with
      | pl h => rw [hne] at h; cases h
      | val h op2 =>
        rename_i d nn ds2 u us2 F tl2
        cases hp2 : patch env' [k] ds2 with
        | none =>
          unfold patch at hp
          rw [hne] at hp
          dsimp only at hp
          rw [hp2] at hp
          cases hp
        | some w =>
          unfold patch at hp
          rw [hne] at hp
          dsimp only at hp
          rw [hp2] at hp
          have hp : (d, capN nn 7) :: w = dsP := Option.some.inj hp
          subst hp
          cases vw with
          | cons o1 vw =>
          cases vw with
          | nil => trivial
          | @cons d2 n2 kv F2 _ _ o2 vw =>
          cases vw with
          | cons _ _ => trivial
          | nil =>
          show rSetG o kv u H' _
          cases hge : getS env' i with
          | none => rw [hge] at q2; exact q2.elim
          | some cn =>
            obtain ⟨cc, cn⟩ := cn
            rw [hge] at q2
            have q2 : PF Γ W ts D (nxO ((Eng.putK cc cn d2 (d, capN nn 7)).map fun c => setS env' i (some (c, cn)))) := q2
            cases hpk : Eng.putK cc cn d2 (d, capN nn 7) with
            | none => rw [hpk] at q2; exact q2.elim
            | some c' =>
              rw [hpk] at q2
              have q2 : PF Γ W ts D (.nx (setS env' i (some (c', cn)))) := q2
              have rk := own_key o2 (putK_key hpk)
              have s1 := s'.mov hge ho
              have s2 : SR Γ H' (setS env' i none) σ (updF Fs' i []) (⟨d, capN nn 7, u, F⟩ :: ⟨cc, cn, o, Fs' i⟩ :: ts) :=
                (s1.sub (List.Sublist.cons_cons _ (List.Sublist.cons_cons _ (List.sublist_append_right _ _)))).swap
              refine s2.putK hpk rk fun H2 F' s3 => ?_
              have s4 := s3.back (i := i) (List.getElem?_eq_some_iff.mp ho).1 ho
              rw [setS_setS] at s4
              exact q2 σ H2 _ s4
    refine tO_mono (fun u H1 q1 => ?_) (show tO v Γ W 7 e σ H _ from z)
    exact ⟨o, ho, q1⟩
end
end Eng
end

section
set_option linter.all false
set_option maxRecDepth 100000
namespace Eng
open PySem PySem.Spec PyProof.Rows
open L2 (V HO Hp VK TE TS TA TT TI TG TGs TSet PGs PSet WX XK SqL SqT Rd upd upd_same upd_ne upd_upd Key kV Mut RelV Vals Inv Cx PE PS PT PW PA PI PG PSs PTs Takes tVar tNil tCons tOp Vis Loc Gl Room OpR R2 EP Dp DpAll TruR TruV IxR CallR FnOk Sp Ends PassesAt BlkOk DPut valV)
section
variable {Dw : Wd} {n : Nat} {S : Sx} {X : Cx} {Γ : Gm} {W : WX} {v : Ev} {m : Mod} {c : Nat}
/-- x.append(e) -/
theorem ns_app {i : Nat} {e : E} {ee cl : Expr} {pos : Pos} (C : Ctx Dw n S X Γ W) (hne : isPl e = none)
    (hcall : PE X cl (L2.tBM X.K "list" L2.rAppend (tVar i) (tOs v Γ W 7 [e])))
    (hs : swapsWith cl none pos.line X.env = pure false) : PS X (.Expr cl pos) (tS1 v m Γ W (.app i [] e)) := by
  refine ⟨fun pins s σ H D I ⟨env, Fs, ts, r, q⟩ => (ps_lkE (L2.ps_expr hcall hs)).run pins s σ H D I ?_⟩
  have q : PF Γ W ts D (if (match getS env i with | some (.lst _, n) => n == 0 || n == 9 | _ => true) then .bad else opsF v 7 [e] env fun ds env => match ds, getS env i with
    | [x], some (.lst l, n) => if n = 0 || n == 9 || SZ ≤ l.length then .bad else if x.2 = 9 || n ≤ 1 || n - 1 ≤ x.2 then .nx (setS env i (some (.lst (l ++ [x.1]), n))) else .bad
    | _, _ => .bad) := q
  cases hg : getS env i with
  | none => rw [hg] at q; exact q.elim
  | some c0 =>
  obtain ⟨d0, n0⟩ := c0
  rw [hg] at q
  cases d0 with
  | lst l0 =>
    have q : PF Γ W ts D (if (n0 == 0 || n0 == 9) = true then .bad else opsF v 7 [e] env fun ds env => match ds, getS env i with
      | [x], some (.lst l, n) => if n = 0 || n == 9 || SZ ≤ l.length then .bad else if x.2 = 9 || n ≤ 1 || n - 1 ≤ x.2 then .nx (setS env i (some (.lst (l ++ [x.1]), n))) else .bad
      | _, _ => .bad) := q
    by_cases h0 : (n0 == 0 || n0 == 9) = true
    · rw [if_pos h0] at q; exact q.elim
    rw [if_neg h0] at q
    have n00 : n0 ≠ 0 := fun z => h0 (by simp [z])
    obtain ⟨o, ho, own⟩ := r.at_ i _ _ hg
    rcases own with ⟨z, _⟩ | ⟨m0, a, vs, G', z1, n9, z2, z3, _⟩
    · exact absurd z n00
    subst z2
    refine ⟨.ref a, ho, .inl ⟨rfl, vs, .inl (.inl z3)⟩, ?_⟩
    refine opsF_run r q fun ds dsP env' us H' Fs' tl s' op hp q2 => ?_
    cases op with
    | pl h => rw [hne] at h; cases h
    | val h op2 =>
      cases op2
      rename_i d nn u F
      unfold patch at hp
      rw [hne] at hp
      have hp : [(d, capN nn 7)] = dsP := Option.some.inj hp
      subst hp
      cases hge : getS env' i with
      | none => rw [hge] at q2; exact q2.elim
      | some cn =>
        obtain ⟨cc, cn⟩ := cn
        rw [hge] at q2
        cases cc with
        | lst l =>
          dsimp only at q2
          split at q2
          · exact q2.elim
          rename_i h1
          split at q2
          · rename_i h2
            have n0 : cn ≠ 0 := fun z => h1 (by simp [z])
            have n9 : cn ≠ 9 := fun z => h1 (by simp [z])
            have sz : l.length < SZ := by
              refine Nat.lt_of_not_le fun z => h1 (by simp [z])
            have s1 : SR Γ H' (setS env' i none) σ (updF Fs' i []) (⟨.lst l, cn, .ref a, Fs' i⟩ :: ⟨d, capN nn 7, u, F⟩ :: ts) := s'.mov hge ho
            have lv9 : cn < 9 := by
              rcases s1.tmp _ List.mem_cons_self with ⟨z, _⟩ | ⟨_, _, _, _, _, z, _⟩
              · exact absurd z n0
              · exact z
            obtain ⟨acc, a1, a2, a3⟩ := s1.swap.appEnd n0 lv9 (by
              simp only [Bool.or_eq_true, decide_eq_true_eq] at h2
              omega)
            refine ⟨a, acc, u, rfl, rfl, a1, by rw [a2]; exact Nat.lt_of_lt_of_le sz (by decide), a3 _ fun H2 F' s3 => ?_⟩
            have s4 := s3.back (i := i) (List.getElem?_eq_some_iff.mp ho).1 ho
            rw [setS_setS] at s4
            exact q2 σ H2 _ s4
          · exact q2.elim
        | _ => exact q2.elim
  | _ => exact q.elim
end
end Eng
end

section
set_option linter.all false
set_option maxRecDepth 100000
namespace Eng
open PySem PySem.Spec PyProof.Rows
open L2 (V HO Hp VK TE TS TA TT TI TG TGs TSet PGs PSet WX XK SqL SqT Rd upd upd_same upd_ne upd_upd Key kV Mut RelV Vals Inv Cx PE PS PT PW PA PI PG PSs PTs Takes tVar tNil tCons tOp Vis Loc Gl Room OpR R2 EP Dp DpAll TruR TruV IxR CallR FnOk Sp Ends PassesAt BlkOk DPut valV)
section
variable {Dw : Wd} {n : Nat} {S : Sx} {X : Cx} {Γ : Gm} {W : WX} {v : Ev} {m : Mod} {c : Nat}
/-- raise K('m') -/
theorem ns_rais {k : Nat} {e : Expr} {pos : Pos} (C : Ctx Dw n S X Γ W) (hot : S.hot = false) (he : L2N.PMk X e (fun _ H Q => Q (.ref (Γ.p.ca k)) none H)) : PS X (.Raise (some e) none pos) (tS1 v m Γ W (.rais k none)) :=
  ⟨fun pins s σ H D I ⟨env, Fs, ts, r, q⟩ => (L2N.ps_raise (C.calm hot) C.tk he).run pins s σ H D I
    (q _ none σ H Fs r ⟨rfl, (fun x e => by cases e), fun _ => rfl⟩)⟩
/-- raise K(e): the exception bears a number -/
theorem ns_raisP {k : Nat} {e : E} {ee : Expr} {x : Str} {p p2 pos : Pos} (C : Ctx Dw n S X Γ W) (hot : S.hot = false) (hn : 2 ≤ n) (hx : S.clsn k x = true) (hl : S.g.lims.contains k = true) (he : PE X ee (tE v Γ W (.pad e))) (hs : notStar ee = true) : PS X (.Raise (some (.Call (.Name x p) [ee] [] p2)) none pos) (tS1 v m Γ W (.rais k (some e))) := by
  obtain ⟨g1, g2⟩ := and_ok hx
  obtain ⟨g3, g4⟩ := C.glob g1
  obtain ⟨c1, c2⟩ := C.g.cls _ _ (of_decide_eq_true g2)
  obtain ⟨fI, fd, Sp⟩ := C.g.lim k hl
  have Sx : L2.SupI X.prog X.K X.mg (Dw.ca k) fI fd := by rw [C.prog, C.K, C.mg]; exact Sp
  refine ⟨fun pins s σ H D I ⟨env, Fs, ts, r, q⟩ => (L2N.ps_raise (C.calm hot) C.tk (L2.pmk_lim Sx ((C.room hot).mono hn) g3 (by rw [C.mg]; exact c1) he g4 (star_ok hs))).run pins s σ H D I ⟨env, Fs, ts, r, ?_⟩⟩
  have q : PF Γ W ts D (match v.e (.pad e) env with
    | .ok (.int i) _ env => .ex k (some (.int i)) env
    | .ex c a env => .ex c a env
    | _ => .bad) := q
  cases hr : v.e (.pad e) env with
  | bad => rw [hr] at q; exact q.elim
  | ex c a env1 => rw [hr] at q; exact fun cls dd H' Fs' s' x => q cls dd σ H' Fs' s' x
  | ok d n1 env1 =>
    rw [hr] at q
    cases d with
    | int i =>
      intro u H' F Fs' s'
      have eu : u = .int i := (s'.tmp _ List.mem_cons_self).1
      refine ⟨i, eu, fun dx hd => ?_⟩
      exact q _ (some dx) σ _ Fs' (s'.pop.new hd) ⟨by rw [C.pca], (fun x ex => by cases ex; exact ⟨i, dx, rfl, rfl, upd_same⟩), fun z => by cases z⟩
    | _ => exact q.elim
end
end Eng
end

section
set_option linter.all false
set_option maxRecDepth 100000
namespace Eng
open PySem PySem.Spec PyProof.Rows
open L2 (V HO Hp VK TE TS TA TT TI TG TGs TSet PGs PSet WX XK SqL SqT Rd upd upd_same upd_ne upd_upd Key kV Mut RelV Vals Inv Cx PE PS PT PW PA PI PG PSs PTs Takes tVar tNil tCons tOp Vis Loc Gl Room OpR R2 EP Dp DpAll TruR TruV IxR CallR FnOk Sp Ends PassesAt BlkOk DPut valV SlR)
section
variable {Dw : Wd} {n : Nat} {S : Sx} {X : Cx} {Γ : Gm} {W : WX} {v : Ev} {m : Mod} {c : Nat}
/-! ### slices -/
def rSl (K : PySem.W.Frag) : V → Option Int → Option Int → Hp → VK → Prop := fun x lo hi H Q => L2.rSlL K x lo hi H Q ∨ (L2.rSlA K x lo hi H Q ∨ L2.rSlS x lo hi H Q)
theorem sl_any {X : Cx} : SlR X (rSl X.K) := L2.SlR.or L2.sl_list (L2.SlR.or L2.sl_tupA L2.sl_str)
theorem repL_drop {p : Par} {H : Hp} : ∀ (k : Nat) {l : List D} {vs : List V}, RepL p H l vs → RepL p H (l.drop k) (vs.drop k)
  | 0, l, vs, r => r
  | k + 1, [], vs, r => by rw [show vs = [] from r]; rfl
  | k + 1, d :: l, vs, ⟨v, t, e, h, r⟩ => by subst e; exact repL_drop k r
theorem repL_take {p : Par} {H : Hp} : ∀ (k : Nat) {l : List D} {vs : List V}, RepL p H l vs → RepL p H (l.take k) (vs.take k)
  | 0, l, vs, r => rfl
  | k + 1, [], vs, r => by rw [show vs = [] from r]; rfl
  | k + 1, d :: l, vs, ⟨v, t, e, h, r⟩ => by subst e; exact ⟨v, _, rfl, h, repL_take k r⟩
theorem repL_cut {p : Par} {H : Hp} {l : List D} {vs : List V} {lo hi : Option Int} (r : RepL p H l vs) : RepL p H (cut l lo hi) (L2.cutV vs lo hi) := by
  have e : vs.length = l.length := r.len
  show RepL p H _ ((vs.drop (sIx vs.length 0 lo)).take (sIx vs.length vs.length hi - sIx vs.length 0 lo))
  rw [e]
  exact repL_take _ (repL_drop _ r)
theorem cut_all {α : Type} {l : List α} {lo hi : Option Int} (h : sIx l.length 0 lo = 0 ∧ sIx l.length l.length hi = l.length) : cut l lo hi = l := by
  unfold cut
  rw [h.1, h.2]
  simp
def slR (env : Env) (x : D) (n : Nat) (l h : Option (Option Int)) : R := if shareOk x n then (match x, l, h with
        | .lst xs, some l, some h => .ok (.lst (cut xs l h)) 1 env
        | .tup xs, some l, some h => .ok (.tup (cut xs l h)) (flagOf (.tup (cut xs l h))) env
        | .str s, some l, some h => if s.cps.size ≤ SZ then .ok (.str ⟨(cut s.cps.toList l h).toArray⟩) 9 env else .bad
        | _, _, _ => .bad)
      else .bad
theorem slR_bad {σ : L2.St} {ts : List Tmp} {Q : VK} {env : Env} {x : D} {k : Nat} {h : Option (Option Int)} (q : PR Γ W σ ts Q (slR env x k none h)) : False := by
  unfold slR at q
  split at q
  · cases x <;> exact q
  · exact q
theorem slR_bad2 {σ : L2.St} {ts : List Tmp} {Q : VK} {env : Env} {x : D} {k : Nat} {h : Option (Option Int)} (q : PR Γ W σ ts Q (slR env x k h none)) : False := by
  unfold slR at q
  split at q
  · cases x <;> cases h <;> exact q
  · exact q
theorem sl_ok {H : Hp} {env : Env} {σ : L2.St} {Fs : Nat → List Addr} {ts tl : List Tmp} {Q : VK} {x : D} {k : Nat} {u : V} {F : List Addr} {l h : Option Int} (s : SR Γ H env σ Fs (tl ++ ts)) (o : Own Γ.p H k x u F) (q : PR Γ W σ ts Q (slR env x k (some l) (some h))) : rSl Γ.p.K u l h H Q := by
  unfold slR at q
  split at q
  · rename_i hs
    cases x with
    | lst xs =>
      obtain ⟨a, vs, e1, h1, r⟩ := own_lstR o hs
      exact .inl ⟨a, vs, e1, .inl h1, fun p hp => resL s q hp (repL_cut r) (.inl rfl)⟩
    | tup xs =>
      obtain ⟨a, vs, e1, h1, r⟩ := own_tup o
      refine .inr (.inl ⟨a, vs, e1, .inl (.inl h1), fun hw => ?_, fun hw p hp => resT s q hp (repL_cut r) flag9⟩)
      rw [r.len] at hw
      have e := cut_all hw
      dsimp only at q
      rw [e] at q
      refine res0 s q ?_
      subst e1
      exact ⟨⟨a, vs, rfl, h1, r⟩, rfl, flag9⟩
    | str z =>
      dsimp only at q
      split at q
      · rename_i hz
        exact .inr (.inr ⟨z, own_str o, Nat.le_trans hz SZ_le, resS s (i := L2.cutS z l h) (by
          have e : L2.cutS z l h = ⟨(cut z.cps.toList l h).toArray⟩ := by
            show Str.mk _ = Str.mk _
            have e2 : z.length = z.cps.toList.length := by rw [Array.length_toList]; rfl
            unfold cut
            rw [e2]
            rfl
          rw [e]; exact q)⟩)
      · exact q.elim
    | _ => exact q.elim
  · exact q.elim
/-- a[lo:] -/
theorem nd_slLo {a lo : E} {ea el : Expr} {p2 pos : Pos} (C : Ctx Dw n S X Γ W) (hl : isPl lo = none) (ha : PE X ea (tO v Γ W 1 a)) (he : PE X el (tO v Γ W 1 lo)) : PE X (.Subscript ea (.Slice (some el) none none p2) pos) (tE (step m v) Γ W (.sl a (some lo) none)) := by
  refine pe_mono (L2.pe_slice sl_any ha (L2.po_some he) L2.po_none) fun σ H Q ⟨env, Fs, ts, s, q⟩ => ?_
  have hK : X.K = Γ.p.K := by rw [C.K, C.pK]
  have q : PR Γ W σ ts Q (ops v 1 [a, lo] env fun ds env => match ds with
    | (x, n) :: r => slR env x n (match r with | (.int i, _) :: _ => some (some i) | _ => none) (some none)
    | _ => .bad) := by
    refine cast ?_ q
    show PR Γ W σ ts Q (ops v 1 [a, lo] env _) = PR Γ W σ ts Q (ops v 1 [a, lo] env _)
    congr 2
    funext ds env
    cases ds with
    | nil => rfl
    | cons x r => cases r with
      | nil => rfl
      | cons y r => obtain ⟨d, k⟩ := y; cases d <;> rfl
  have z := ops_run (Q' := fun us H3 => match us with | [x, y] => ∃ i, y = .int i ∧ rSl X.K x (some i) none H3 Q | _ => False) s q fun ds dsP env' us H' Fs' tl s' o hp q' => by
    have vw := opv o s' hp
    obtain ⟨u1, u2, e⟩ := two_of (l := us) o.len
    subst e
    cases vw with | cons o1 vw => cases vw with | @cons d2 n2 _ F2 _ _ o2 vw => cases vw with | nil =>
    cases d2 with
    | int i => exact ⟨i, own_int o2, by rw [hK]; exact sl_ok s' o1 q'⟩
    | _ => exact (slR_bad q').elim
  exact z
/-- a[:hi] -/
theorem nd_slHi {a lo : E} {ea el : Expr} {p2 pos : Pos} (C : Ctx Dw n S X Γ W) (hl : isPl lo = none) (ha : PE X ea (tO v Γ W 1 a)) (he : PE X el (tO v Γ W 1 lo)) : PE X (.Subscript ea (.Slice none (some el) none p2) pos) (tE (step m v) Γ W (.sl a none (some lo))) := by
  refine pe_mono (L2.pe_slice sl_any ha L2.po_none (L2.po_some he)) fun σ H Q ⟨env, Fs, ts, s, q⟩ => ?_
  have hK : X.K = Γ.p.K := by rw [C.K, C.pK]
  have q : PR Γ W σ ts Q (ops v 1 [a, lo] env fun ds env => match ds with
    | (x, n) :: r => slR env x n (some none) (match r with | [(.int i, _)] => some (some i) | _ => none)
    | _ => .bad) := by
    refine cast ?_ q
    show PR Γ W σ ts Q (ops v 1 [a, lo] env _) = PR Γ W σ ts Q (ops v 1 [a, lo] env _)
    congr 2
    funext ds env
    cases ds with
    | nil => rfl
    | cons x r => cases r with
      | nil => rfl
      | cons y r => obtain ⟨d, k⟩ := y; cases r <;> cases d <;> rfl
  have z := ops_run (Q' := fun us H3 => match us with | [x, y] => ∃ i, y = .int i ∧ rSl X.K x none (some i) H3 Q | _ => False) s q fun ds dsP env' us H' Fs' tl s' o hp q' => by
    have vw := opv o s' hp
    obtain ⟨u1, u2, e⟩ := two_of (l := us) o.len
    subst e
    cases vw with | cons o1 vw => cases vw with | @cons d2 n2 _ F2 _ _ o2 vw => cases vw with | nil =>
    cases d2 with
    | int i => exact ⟨i, own_int o2, by rw [hK]; exact sl_ok s' o1 q'⟩
    | _ => exact (slR_bad2 q').elim
  exact z
end
end Eng
end

section
set_option linter.all false
set_option maxRecDepth 100000
namespace Eng
open PySem PySem.Spec PyProof.Rows
open L2 (V HO Hp VK TE TS TA TT TI TG TGs TSet PGs PSet WX XK SqL SqT Rd upd upd_same upd_ne upd_upd Key kV Mut RelV Vals Inv Cx PE PS PT PW PA PI PG PSs PTs Takes tVar tNil tCons tOp Vis Loc Gl Room OpR R2 EP Dp DpAll TruR TruV IxR CallR FnOk Sp Ends PassesAt BlkOk DPut valV SlR)
section
variable {Dw : Wd} {n : Nat} {S : Sx} {X : Cx} {Γ : Gm} {W : WX} {v : Ev} {m : Mod} {c : Nat}
theorem PR.more {σ : L2.St} {ts tl : List Tmp} {Q : VK} {r : R} (h : PR Γ W σ ts Q r) : PR Γ W σ (tl ++ ts) Q r := by
  cases r with
  | ok d n env => exact fun u H F Fs s => h u H F Fs (s.sub (List.Sublist.cons_cons _ (List.sublist_append_right _ _)))
  | ex k a env => exact fun cls dd H Fs s x => h cls dd H Fs s.tail x
  | bad => exact h
/-! ### a < b < c -/
theorem nd_cmp2 {o o' : Cm} {a b c : E} {ea eb ec : Expr} {pos : Pos} (C : Ctx Dw n S X Γ W) (hb0 : isPl b = none) (ha : PE X ea (tO v Γ W 0 a)) (hb : PE X eb (tO v Γ W 0 b)) (hc : PE X ec (tO v Γ W 0 c)) (hm : lastMarks [cmOf o, cmOf o'] [eb, ec] = false) :
    PE X (.Compare ea [cmOf o, cmOf o'] [eb, ec] pos) (tE (step m v) Γ W (.cmp2 o o' a b c)) := by
  have hK : X.K = Γ.p.K := by rw [C.K, C.pK]
  have un := C.un
  refine pe_mono (L2.pe_chain (op_cm un o) (op_cm un o') ha hb hc hm) fun σ H Q ⟨env, Fs, ts, s, q⟩ => ?_
  have q : PR Γ W σ ts Q (ops v 0 [a, b] env fun ds env => match ds with
    | [x, y] => (match cmpop o x.1 y.1 with
      | some true => ops v 0 [c] env fun ds env => (match ds with
        | [z] => (match cmpop o' y.1 z.1 with | some k => .ok (.bl k) 9 env | none => .bad)
        | _ => .bad)
      | some false => .ok (.bl false) 9 env
      | none => .bad)
    | _ => .bad) := q
  have z := ops_run (Q' := fun us H3 => match us with | [x, y] => rCm X.K o x y H3 (fun z H3 => ∃ k, z = .bl k ∧ (if k = true then tO v Γ W 0 c σ H3 fun w' H4 => rCm X.K o' y w' H4 Q else Q (.bl false) H3)) | _ => False) s q fun ds dsP env' us H' Fs' tl s' op hp q' => by
    have vw := opv op s' hp
    obtain ⟨u1, u2, e⟩ := two_of (l := us) op.len
    subst e
    cases vw with | @cons d1 n1 _ F1 _ _ o1 vw => cases vw with | @cons d2 n2 _ F2 _ _ o2 vw => cases vw with | nil =>
    have my : ∃ F, (⟨d2, n2, u2, F⟩ : Tmp) ∈ tl := by
      cases op with
      | pl h hu r =>
        cases r with
        | pl h' hu' r' => rw [hb0] at h'; cases h'
        | val h' r' =>
          cases r'
          unfold patch at hp
          rw [h] at hp
          dsimp only at hp
          unfold patch at hp
          rw [h'] at hp
          dsimp only at hp
          unfold patch at hp

          cases hg : getS env' _ with
          | none => rw [hg] at hp; cases hp
          | some x0 =>
            rw [hg] at hp
            cases hp
            exact ⟨_, List.mem_cons_self⟩
      | val h r =>
        cases r with
        | pl h' hu' r' => rw [hb0] at h'; cases h'
        | val h' r' =>
          cases r'
          unfold patch at hp
          rw [h] at hp
          dsimp only at hp
          unfold patch at hp
          rw [h'] at hp
          dsimp only at hp
          unfold patch at hp
          cases hp
          exact ⟨_, List.mem_cons_of_mem _ List.mem_cons_self⟩
    dsimp only at q' ⊢
    cases hc1 : cmpop o d1 d2 with
    | none => rw [hc1] at q'; exact q'.elim
    | some k1 =>
      rw [hc1] at q'
      refine cm_ok hK hc1 o1 o2 ⟨k1, rfl, ?_⟩
      cases k1 with
      | false => rw [if_neg Bool.false_ne_true]; exact resB s' q'
      | true =>
        rw [if_pos rfl]
        have z2 := ops_run (Q' := fun us H4 => match us with | [w'] => rCm X.K o' u2 w' H4 Q | _ => False) s' (PR.more q') fun ds2 dsP2 env2 us2 H2 Fs2 tl2 s2 op2 hp2 q2 => by
          have vw2 := opv op2 s2 hp2
          have e : ∃ w', us2 = [w'] := by
            have := op2.len
            cases us2 with
            | nil => cases this
            | cons w' r => cases r with
              | nil => exact ⟨w', rfl⟩
              | cons _ _ => cases this
          obtain ⟨w', e⟩ := e
          subst e
          cases vw2 with | @cons d3 n3 _ F3 _ _ o3 vw2 => cases vw2 with | nil =>
          obtain ⟨F, mF⟩ := my
          have oy : Own Γ.p H2 n2 d2 u2 F := s2.tmp ⟨d2, n2, u2, F⟩ (List.mem_append_right _ (List.mem_append_left _ mF))
          dsimp only at q2 ⊢
          cases hc2 : cmpop o' d2 d3 with
          | none => rw [hc2] at q2; exact q2.elim
          | some k2 => rw [hc2] at q2; exact cm_ok hK hc2 oy o3 (resB s2 q2)
        exact z2
  exact z
end
end Eng
end

section
set_option linter.all false
set_option maxRecDepth 100000
namespace Eng
open PySem PySem.Spec PyProof.Rows
open L2 (V HO Hp VK TE TS TA TT TI TG TGs TSet PGs PSet WX XK SqL SqT Rd upd upd_same upd_ne upd_upd Key kV Mut RelV Vals Inv Cx PE PS PT PW PA PI PG PSs PTs Takes tVar tNil tCons tOp Vis Loc Gl Room OpR R2 EP Dp DpAll TruR TruV IxR CallR FnOk Sp Ends PassesAt BlkOk DPut valV SlR MtR)
def biN : B → Str
  | .len => "len" | .abs => "abs" | .tuple => "tuple" | .list => "list" | .sum => "sum" | .min2 => "min" | .max2 => "max"
  | .any => "any" | .all => "all" | .int => "int" | .str => "str" | .max => "max" | .min => "min" | .sorted => "sorted" | .dict => "dict" | .maxd => "max" | .gcd => "gcd" | .set => "set" | .lenset => "len" | .sortset => "sorted"
section
variable {Dw : Wd} {n : Nat} {S : Sx} {X : Cx} {Γ : Gm} {W : WX} {v : Ev} {m : Mod} {c : Nat}
theorem bi_call {X : Cx} {b : B} {x : Str} {p pos : Pos} {e : Expr} {es : List Expr} {t : TA} (hc : X.calm = true) (hb : biS b = true) (hg : Gl X x) (hm : X.mg x = none) (ex : x = biN b) (ha : PA X (e :: es) t) (he : starEach (e :: es) X.env = (false, eval e X.env) :: starEach es X.env) (hpl : (backTo pos (starEach es X.env)).any (·.1) = false) : PE X (.Call (.Name x p) (e :: es) [] pos) (L2.tCB (rBi X.K b) t) := by
  subst ex
  have cr := cr_bi hc b
  cases b with
  | len => exact L2.pe_callB cr hg hm rfl ha (by decide) (by decide) he hpl
  | abs => exact L2.pe_callB cr hg hm rfl ha (by decide) (by decide) he hpl
  | tuple => exact L2.pe_callTy cr hg hm rfl ha (by decide) (by decide) he hpl
  | list => exact L2.pe_callTy cr hg hm rfl ha (by decide) (by decide) he hpl
  | sum => exact L2.pe_callB cr hg hm rfl ha (by decide) (by decide) he hpl
  | min2 => exact L2.pe_callB cr hg hm rfl ha (by decide) (by decide) he hpl
  | max2 => exact L2.pe_callB cr hg hm rfl ha (by decide) (by decide) he hpl
  | any => exact L2.pe_callB cr hg hm rfl ha (by decide) (by decide) he hpl
  | all => exact L2.pe_callB cr hg hm rfl ha (by decide) (by decide) he hpl
  | int => exact L2.pe_callTy cr hg hm rfl ha (by decide) (by decide) he hpl
  | str => exact L2.pe_callTy cr hg hm rfl ha (by decide) (by decide) he hpl
  | max => exact L2.pe_callB cr hg hm rfl ha (by decide) (by decide) he hpl
  | _ => cases hb
theorem nd_bi {b : B} {x : Str} {p pos : Pos} {is : List E} {e : Expr} {es : List Expr} (C : Ctx Dw n S X Γ W) (hot : S.hot = false) (hb : biS b = true) (hx : S.blt (biN b) x = true) (ha : PA X (e :: es) (tOs v Γ W 1 is)) (hs : (e :: es).all notStar = true) : PE X (.Call (.Name x p) (e :: es) [] pos) (tE (step m v) Γ W (.bi b is)) := by
  obtain ⟨e1, hg, hd, hm⟩ := C.blt hx
  rw [List.all_cons] at hs
  have hK : X.K = Γ.p.K := by rw [C.K, C.pK]
  refine pe_mono (bi_call (C.calm hot) hb hg hm e1 ha (star_ok (and_ok hs).1) (back_no (and_ok hs).2)) fun σ H Q ⟨env, Fs, ts, s, q⟩ => ?_
  have q : PR Γ W σ ts Q (ops v 1 is env fun ds env => okO (bfn b ds) env) := q
  refine ops_run s q fun ds dsP env' us H' Fs' tl s' o hp q' => ?_
  cases hr : bfn b dsP with
  | none => rw [hr] at q'; exact q'.elim
  | some x => rw [hr] at q'; exact bi_ok hK hb hr (opv o s' hp) s' q'
/-! ### x.append(e) -/
theorem ns_appN {i : Nat} {e : E} {x : Str} {p apos cpos pos : Pos} {ee : Expr} (C : Ctx Dw n S X Γ W) (hne : isPl e = none) (hx : S.slot i x = true) (he : PE X ee (tO v Γ W 7 e)) (hs : notStar ee = true) (hline : (apos.endLine == cpos.line) = true) : PS X (.Expr (.Call (.Attribute (.Name x p) "append" apos) [ee] [] cpos) pos) (tS1 v m Γ W (.app i [] e)) := by
  have st : starEach [ee] X.env = (false, eval ee X.env) :: starEach [] X.env := star_ok hs
  refine ns_app (ee := ee) C hne (L2.pe_bm (T := "list") (id := "list.append") PySem.F.plainAttrs_list PySem.F.slot_list_append (by rfl) (fun pins s σ H x xs v us Q I rx rs q => L2.mt_append pins s σ H x xs v us Q I rx rs q) (C.slot hx) (L2.pa_cons he L2.pa_nil st) (by rfl) ?_ hline st (by rfl)) (by rfl)
  rw [st]
  rfl
theorem pe_bool1 {X : Cx} {e : Expr} {t : TE} {op : BoolOp} {pos : Pos} (h : PE X e t) : PE X (.BoolOp op [e] pos) t := ⟨fun pins s σ H Q I q => h.run pins s σ H Q I q⟩
end
end Eng
end

section
set_option linter.all false
set_option maxRecDepth 100000
namespace Eng
open PySem PySem.Spec PyProof.Rows
open L2 (V HO Hp VK TE TS TA TT TI TG TGs TSet PGs PSet WX XK SqL SqT Rd upd upd_same upd_ne upd_upd Key kV Mut RelV Vals Inv Cx PE PS PT PW PA PI PG PSs PTs Takes tVar tNil tCons tOp Vis Loc Gl Room OpR R2 EP Dp DpAll TruR TruV IxR CallR FnOk Sp Ends PassesAt BlkOk DPut valV SlR MtR TyX TyOf kitB)
section
variable {Dw : Wd} {n : Nat} {S : Sx} {X : Cx} {Γ : Gm} {W : WX} {v : Ev} {m : Mod} {c : Nat}
/-! ### isinstance(x, T), T a built-in type -/
def tyS : Ty → String
  | .int => "int" | .bool => "bool" | .str => "str" | .tuple => "tuple" | .list => "list" | .dict => "dict" | .own _ => ""
def tyOwn : Ty → Bool
  | .own _ => true
  | _ => false
theorem ty_own {p : Par} {H : Hp} {k : Nat} {d : D} {u : V} {F : List Addr} {t : Ty} {b : Bool} {sub : Nat → Nat → Bool} (o : Own p H k d u F) (h : isTy sub d t = some b) (ht : tyOwn t = false) : ∃ tn, TyX p.K H u (.type tn) ∧ PySem.W.kitOne p.K (.type tn) (.type (tyS t)) = some b := by
  cases d with
  | non =>
    rw [own_non o]
    refine ⟨_, .base .non, ?_⟩
    cases t <;> first | (cases ht; done) | (cases h; exact L2.kit_ty (by decide +kernel))
  | bl y =>
    rw [own_bl o]
    refine ⟨_, .base (.bl y), ?_⟩
    cases t <;> first | (cases ht; done) | (cases h; exact L2.kit_ty (by decide +kernel))
  | int y =>
    rw [own_int o]
    refine ⟨_, .base (.int y), ?_⟩
    cases t <;> first | (cases ht; done) | (cases h; exact L2.kit_ty (by decide +kernel))
  | str y =>
    rw [own_str o]
    refine ⟨_, .base (.str y), ?_⟩
    cases t <;> first | (cases ht; done) | (cases h; exact L2.kit_ty (by decide +kernel))
  | tup l =>
    obtain ⟨a, vs, e1, h1, r⟩ := own_tup o
    rw [e1]
    refine ⟨_, .base (.tup h1), ?_⟩
    cases t <;> first | (cases ht; done) | (cases h; exact L2.kit_ty (by decide +kernel))
  | lst l =>
    obtain ⟨a, vs, e1, h1, r⟩ := own_lstS o
    rw [e1]
    refine ⟨"list", .base ?_, ?_⟩
    · rcases h1 with h1 | ⟨ob, h1⟩
      · exact .lst h1
      · exact .frz h1
    · cases t <;> first | (cases ht; done) | (cases h; exact L2.kit_ty (by decide +kernel))
  | dic ks vs => cases t <;> first | (cases ht; done) | (cases h; done)
  | _ => cases t <;> first | (cases ht; done) | (cases h; done)
theorem nd_isi {a : E} {t : Ty} {ea : Expr} {x y : Str} {p p2 pos : Pos} (C : Ctx Dw n S X Γ W) (ht : tyOwn t = false) (hx : S.blt "isinstance" x = true) (hy : S.blt (Str.ofString (tyS t)) y = true) (ha : PE X ea (tO v Γ W 1 a)) (hs : notStar ea = true) : PE X (.Call (.Name x p) [ea, .Name y p2] [] pos) (tE (step m v) Γ W (.isi a [t])) := by
  obtain ⟨e1, hg, hd, hm⟩ := C.blt hx
  obtain ⟨e2, hg2, hd2, hm2⟩ := C.blt hy
  have hK : X.K = Γ.p.K := by rw [C.K, C.pK]
  subst e1 e2
  have pt : PE X (.Name (Str.ofString (tyS t)) p2) (L2.tC (.ty (tyS t))) := by
    cases t with
    | int => exact L2.pe_bltn hg2 hm2 (u := .type "int") rfl rfl (by decide) (by decide)
    | bool => exact L2.pe_bltn hg2 hm2 (u := .type "bool") rfl rfl (by decide) (by decide)
    | str => exact L2.pe_bltn hg2 hm2 (u := .type "str") rfl rfl (by decide) (by decide)
    | tuple => exact L2.pe_bltn hg2 hm2 (u := .type "tuple") rfl rfl (by decide) (by decide)
    | list => exact L2.pe_bltn hg2 hm2 (u := .type "list") rfl rfl (by decide) (by decide)
    | dict => exact L2.pe_bltn hg2 hm2 (u := .type "dict") rfl rfl (by decide) (by decide)
    | own k => cases ht
  refine pe_mono (L2.pe_callB L2.call_isi hg hm rfl (L2.pa_cons ha (L2.pa_cons pt L2.pa_nil (star_ok rfl)) (star_ok hs)) (by decide) (by decide) (star_ok hs) (by rfl)) fun σ H Q ⟨env, Fs, ts, s, q⟩ => ?_
  have q : PR Γ W σ ts Q (ops v 1 [a] env fun ds env => match ds with
    | [(x, _)] => (match anyTy m.sub x [t] with | some b => .ok (.bl b) 9 env | none => .bad)
    | _ => .bad) := q
  have z := ops_run (Q' := fun us H3 => match us with | [u] => L2.rIsi X.K [u, .ty (tyS t)] H3 Q | _ => False) s q fun ds dsP env' us H' Fs' tl s' op hp q' => by
    have vw := opv op s' hp
    obtain ⟨u1, e⟩ := one_of (l := us) op.len
    subst e
    cases vw with | @cons d1 n1 _ F1 _ _ o1 vw => cases vw with | nil =>
    dsimp only at q' ⊢
    cases hb : isTy m.sub d1 t with
    | none =>
      have e : anyTy m.sub d1 [t] = none := by unfold anyTy; rw [hb]; rfl
      rw [e] at q'; exact q'.elim
    | some b =>
      have e : anyTy m.sub d1 [t] = some b := by
        unfold anyTy
        rw [hb]
        cases b <;> rfl
      rw [e] at q'
      obtain ⟨tn, h1, h2⟩ := ty_own o1 hb ht
      exact ⟨u1, .ty (tyS t), .type tn, .type (tyS t), b, rfl, .ty _, by rw [hK]; exact h1, by rw [hK]; exact h2, resB s' q'⟩
  exact z
end
end Eng
end

section
set_option linter.all false
set_option maxRecDepth 100000
namespace Eng
open PySem PySem.Spec PyProof.Rows
open L2 (V HO Hp VK TE TS TA TT TI TG TGs TSet PGs PSet WX XK SqL SqT Rd upd upd_same upd_ne upd_upd Key kV Mut RelV Vals Inv Cx PE PS PT PW PA PI PG PSs PTs Takes tVar tNil tCons tOp Vis Loc Gl Room OpR R2 EP Dp DpAll TruR TruV IxR CallR FnOk Sp Ends PassesAt BlkOk DPut valV SlR MtR)
section
variable {Dw : Wd} {n : Nat} {S : Sx} {X : Cx} {Γ : Gm} {W : WX} {v : Ev} {m : Mod} {c : Nat}
/-! ### {} -/
theorem nd_dic0 {pos : Pos} : PE X (.Dict [] [] pos) (tE (step m v) Γ W (.dic [] [])) := by
  refine pe_mono L2.pe_dnewK fun σ H Q ⟨env, Fs, ts, s, q⟩ => ?_
  have q : PR Γ W σ ts Q (.ok (.dic [] []) 1 env) := q
  exact fun p hp => resD (tl := []) (vs := []) s q hp ⟨.nil, .inl ⟨[], rfl, rfl, rfl⟩⟩ rfl
/-! ### list(range(b)) -/
theorem rg_rep {p : Par} {H : Hp} {b : Int} : RepL p H ((List.range b.toNat).map fun (k : Nat) => D.int (0 + (k : Int))) (L2.rgV 0 b) := by
  unfold L2.rgV
  rw [show (b - 0) = b by omega]
  induction List.range b.toNat with
  | nil => rfl
  | cons x l ih => exact ⟨_, _, rfl, rfl, ih⟩
theorem flg_fst (l : List D) : (flg l).map (·.1) = l := by
  unfold flg
  rw [List.map_map]
  induction l with
  | nil => rfl
  | cons x l ih => rw [List.map_cons, ih]; rfl
theorem nd_lrg {a : E} {ea : Expr} {x y : Str} {p p2 pos pos2 : Pos} (C : Ctx Dw n S X Γ W) (hot : S.hot = false) (hx : S.blt "list" x = true) (hy : S.blt "range" y = true) (hn : isPl a = none) (hs : notStar ea = true) (ha : ∃ v', (∀ env, v.it (.rng [a]) env = stepIt v' (.rng [a]) env) ∧ PE X ea (tO v' Γ W 0 a)) : PE X (.Call (.Name x p) [.Call (.Name y p2) [ea] [] pos2] [] pos) (tE (step m v) Γ W (.bit .list (.rng [a]))) := by
  obtain ⟨e1, hg, hd, hm⟩ := C.blt hx
  obtain ⟨e2, hg2, hd2, hm2⟩ := C.blt hy
  subst e1 e2
  obtain ⟨v', hv, ha⟩ := ha
  refine pe_mono (L2.pe_listRg (C.calm hot) hg hm (L2.prg_1 hg2 hm2 ha (star_ok hs)) (star_ok rfl)) fun σ H Q ⟨env, Fs, ts, s, q⟩ => ?_
  have q : PR Γ W σ ts Q (match v.it (.rng [a]) env with
    | .ok l env' => okO (bfn .list [(.lst (l.map (·.1)), 1)]) env'
    | .ex c a env' => .ex c a env'
    | .bad => .bad) := q
  rw [hv] at q
  have q : PR Γ W σ ts Q (match onIts v' [a] env (fun ds => (rngOf ds).map flg) with
    | .ok l env' => okO (bfn .list [(.lst (l.map (·.1)), 1)]) env'
    | .ex c a env' => .ex c a env'
    | .bad => .bad) := q
  unfold onIts evL at q
  rw [hn] at q
  dsimp only at q
  show tO v' Γ W 0 a σ H _
  unfold tO
  rw [hn]
  refine ⟨env, Fs, ts, s, ?_⟩
  cases hr : v'.e a env with
  | ex k b env' => rw [hr] at q; exact q
  | bad => rw [hr] at q; exact q
  | ok d k env' =>
    rw [hr] at q
    intro u H' F Fs' s'
    have o := s'.tmp _ List.mem_cons_self
    cases d with
    | int b =>
      have q : PR Γ W σ ts Q (match (match (rngOf [.int b]).map flg with | some l => RL.ok l env' | none => .bad) with
        | .ok l env' => okO (bfn .list [(.lst (l.map (·.1)), 1)]) env'
        | .ex c a env' => .ex c a env'
        | .bad => .bad) := q
      have er : rngOf [.int b] = if b.natAbs ≤ SZ then some ((List.range b.toNat).map fun (k : Nat) => D.int (0 + (k : Int))) else none := rfl
      rw [er] at q
      by_cases hz : b.natAbs ≤ SZ
      · rw [if_pos hz] at q
        have e : SZ = 100000 := rfl
        rw [e] at hz
        have q : PR Γ W σ ts Q (okO (bfn .list [(.lst ((flg ((List.range b.toNat).map fun (k : Nat) => D.int (0 + (k : Int)))).map (·.1)), 1)]) env') := q
        rw [flg_fst] at q
        have q : PR Γ W σ ts Q (.ok (.lst ((List.range b.toNat).map fun (k : Nat) => D.int (0 + (k : Int)))) 1 env') := q
        exact ⟨b, own_int o, ⟨by omega, by omega, by omega, by omega, by omega⟩, fun z hz2 => resL (tl := [_]) s' q hz2 rg_rep (.inl rfl)⟩
      · rw [if_neg hz] at q; exact q.elim
    | _ => exact q.elim
end
end Eng
end

section
set_option linter.all false
set_option maxRecDepth 100000
namespace Eng
open PySem PySem.Spec PyProof.Rows
open L2 (V HO Hp VK TE TS TA TT TI TG TGs TSet PGs PSet WX XK SqL SqT Rd upd upd_same upd_ne upd_upd Key kV Mut RelV Vals Inv Cx PE PS PT PW PA PI PG PSs PTs Takes tVar tNil tCons tOp Vis Loc Gl Room OpR R2 EP Dp DpAll TruR TruV IxR CallR FnOk Sp Ends PassesAt BlkOk DPut valV SlR MtR)
/-! ### sorted -/
theorem perm_sorted_eq {α : Type} {r : α → α → Prop} : ∀ {l1 l2 : List α}, l1.Perm l2 → l1.Pairwise r → l2.Pairwise r → (∀ x ∈ l1, ∀ y ∈ l1, r x y → r y x → x = y) → l1 = l2
  | [], l2, p, _, _, _ => p.nil_eq
  | a :: l1, [], p, _, _, _ => absurd p.symm.nil_eq (by simp)
  | a :: l1, b :: l2, p, h1, h2, an => by
    have h1' := List.pairwise_cons.mp h1
    have h2' := List.pairwise_cons.mp h2
    have e : a = b := by
      have ha : a ∈ b :: l2 := p.mem_iff.mp List.mem_cons_self
      have hb : b ∈ a :: l1 := p.mem_iff.mpr List.mem_cons_self
      rcases List.mem_cons.mp ha with e | ha'
      · exact e
      · rcases List.mem_cons.mp hb with e | hb'
        · exact e.symm
        · exact an a List.mem_cons_self b hb (h1'.1 b hb') (h2'.1 a ha')
    subst e
    rw [perm_sorted_eq (p.cons_inv) h1'.2 h2'.2 fun x hx y hy => an x (List.mem_cons_of_mem _ hx) y (List.mem_cons_of_mem _ hy)]
theorem insI_perm (x : Int) : ∀ l, (insI x l).Perm (x :: l)
  | [] => .refl _
  | y :: l => by
    unfold insI
    split
    · exact (List.Perm.cons y (insI_perm x l)).trans (.swap _ _ _)
    · exact .refl _
theorem insI_sorted (x : Int) : ∀ l, l.Pairwise (· ≤ ·) → (insI x l).Pairwise (· ≤ ·)
  | [], _ => by unfold insI; simp
  | y :: l, h => by
    have h' := List.pairwise_cons.mp h
    unfold insI
    split
    · rename_i hlt
      refine List.pairwise_cons.mpr ⟨fun z hz => ?_, insI_sorted x l h'.2⟩
      rcases List.mem_cons.mp ((insI_perm x l).mem_iff.mp hz) with e | hz
      · omega
      · exact h'.1 z hz
    · rename_i hlt
      refine List.pairwise_cons.mpr ⟨fun z hz => ?_, h⟩
      rcases List.mem_cons.mp hz with e | hz
      · omega
      · have := h'.1 z hz; omega
theorem sortI_perm : ∀ l, (sortI l).Perm l
  | [] => .refl _
  | x :: l => (insI_perm x _).trans ((sortI_perm l).cons x)
theorem sortI_sorted : ∀ l, (sortI l).Pairwise (· ≤ ·)
  | [] => .nil
  | x :: l => insI_sorted x _ (sortI_sorted l)
theorem insC_perm (x : List Int) : ∀ l, (insC x l).Perm (x :: l)
  | [] => .refl _
  | y :: l => by
    unfold insC
    split
    · exact (List.Perm.cons y (insC_perm x l)).trans (.swap _ _ _)
    · exact .refl _
theorem insC_sorted (x : List Int) : ∀ l, l.Pairwise (fun a b => codeI a ≤ codeI b) → (insC x l).Pairwise (fun a b => codeI a ≤ codeI b)
  | [], _ => by unfold insC; simp
  | y :: l, h => by
    have h' := List.pairwise_cons.mp h
    unfold insC
    split
    · rename_i hlt
      refine List.pairwise_cons.mpr ⟨fun z hz => ?_, insC_sorted x l h'.2⟩
      rcases List.mem_cons.mp ((insC_perm x l).mem_iff.mp hz) with e | hz
      · subst e; omega
      · exact h'.1 z hz
    · rename_i hlt
      refine List.pairwise_cons.mpr ⟨fun z hz => ?_, h⟩
      rcases List.mem_cons.mp hz with e | hz
      · subst e; omega
      · have := h'.1 z hz; omega
theorem sortC_perm : ∀ l, (sortC l).Perm l
  | [] => .refl _
  | x :: l => (insC_perm x _).trans ((sortC_perm l).cons x)
theorem sortC_sorted : ∀ l, (sortC l).Pairwise (fun a b => codeI a ≤ codeI b)
  | [] => .nil
  | x :: l => insC_sorted x _ (sortC_sorted l)
theorem codeI_eq : ∀ l, TS.code 1000 l = codeI l
  | [] => rfl
  | d :: r => by show d * 1000 ^ r.length + TS.code 1000 r = _; rw [codeI_eq r]; rfl
theorem code_inj : ∀ {a b : List Int}, a.length = b.length → TS.Bd 1000 a → TS.Bd 1000 b → codeI a ≤ codeI b → codeI b ≤ codeI a → a = b
  | [], [], _, _, _, _, _ => rfl
  | [], _ :: _, h, _, _, _, _ => by cases h
  | _ :: _, [], h, _, _, _, _ => by cases h
  | x :: a, y :: b, h, ha, hb, h1, h2 => by
    have hl : a.length = b.length := by simpa using h
    rcases Int.lt_trichotomy x y with c | c | c
    · have := TS.code_lt hl ha.tail hb.tail c
      rw [codeI_eq, codeI_eq] at this
      omega
    · subst c
      have e1 : codeI (x :: a) = x * 1000 ^ a.length + codeI a := rfl
      have e2 : codeI (x :: b) = x * 1000 ^ b.length + codeI b := rfl
      rw [e1, e2, hl] at h1 h2
      rw [code_inj hl ha.tail hb.tail (by omega) (by omega)]
    · have := TS.code_lt hl.symm hb.tail ha.tail c
      rw [codeI_eq, codeI_eq] at this
      omega
theorem tups_of : ∀ {l : List D} {ts : List (List Int)}, tupsI l = some ts → l = ts.map fun u => .tup (u.map .int)
  | [], ts, h => by cases h; rfl
  | d :: l, ts, h => by
    cases d with
    | tup k =>
      obtain ⟨a, e1, h⟩ := Option.bind_eq_some_iff.mp h
      obtain ⟨ts', e2, e3⟩ := Option.map_eq_some_iff.mp h
      subst e3
      rw [List.map_cons, ← tups_of e2]
      have : ∀ {k : List D} {a : List Int}, intsOf k = some a → k = a.map .int := by
        intro k
        induction k with
        | nil => intro a h; cases h; rfl
        | cons d k ih =>
          intro a h
          cases d with
          | int i =>
            obtain ⟨b, e4, e5⟩ := Option.map_eq_some_iff.mp h
            subst e5
            rw [List.map_cons, ← ih e4]
          | _ => cases h
      rw [← this e1]
    | _ => cases h
section
variable {Dw : Wd} {n : Nat} {S : Sx} {X : Cx} {Γ : Gm} {W : WX} {v : Ev} {m : Mod} {c : Nat}
theorem repL_ints {p : Par} {H : Hp} : ∀ (ns : List Int), RepL p H (ns.map .int) (ns.map V.int)
  | [] => rfl
  | x :: l => ⟨_, _, rfl, rfl, repL_ints l⟩
theorem ints_rep {p : Par} {H : Hp} : ∀ {ns : List Int} {vs : List V}, RepL p H (ns.map .int) vs → vs = ns.map V.int
  | [], vs, h => h
  | x :: l, vs, ⟨v, r, e, h, t⟩ => by rw [e, ints_rep t, show v = V.int x from h]; rfl
abbrev tD (u : List Int) : D := .tup (u.map .int)
theorem repT_perm {p : Par} {H : Hp} {xs ys : List V} (h : ys.Perm xs) : ∀ {ts : List (List Int)}, RepL p H (ts.map tD) xs → ∃ ts' : List (List Int), ts'.Perm ts ∧ RepL p H (ts'.map tD) ys := by
  induction h with
  | nil => intro ts r; exact ⟨ts, .refl _, r⟩
  | cons x q ih =>
    intro ts r
    cases ts with
    | nil => cases r
    | cons t ts =>
      obtain ⟨v, w, e, h1, h2⟩ := r
      cases e
      obtain ⟨ts', a, b⟩ := ih h2
      exact ⟨t :: ts', a.cons t, _, _, rfl, h1, b⟩
  | swap x y l =>
    intro ts r
    cases ts with
    | nil => cases r
    | cons t ts =>
      obtain ⟨v, w, e, h1, h2⟩ := r
      cases e
      cases ts with
      | nil => cases h2
      | cons t2 ts =>
        obtain ⟨v2, w2, e2, h3, h4⟩ := h2
        cases e2
        exact ⟨t2 :: t :: ts, .swap _ _ _, _, _, rfl, h3, _, _, rfl, h1, h4⟩
  | trans p1 p2 ih1 ih2 =>
    intro ts r
    obtain ⟨ts1, a1, b1⟩ := ih2 r
    obtain ⟨ts2, a2, b2⟩ := ih1 b1
    exact ⟨ts2, a2.trans a1, b2⟩
theorem rep_tupI {p : Par} {H : Hp} {t : List Int} {v : V} (h : Rep p H (tD t) v) : L2.TupI p.K H v t := by
  obtain ⟨a, vs, e1, e2, r⟩ := h
  exact ⟨a, e1, .inl (.inl (by rw [← ints_rep r]; exact e2))⟩
theorem repT_pw {p : Par} {H : Hp} : ∀ {ts : List (List Int)} {ys : List V}, RepL p H (ts.map tD) ys → ys.Pairwise (fun x y => ∀ n m, L2.TupI p.K H x n → L2.TupI p.K H y m → TS.code 1000 n ≤ TS.code 1000 m) → ts.Pairwise (fun a b => codeI a ≤ codeI b)
  | [], ys, r, h => .nil
  | t :: ts, ys, ⟨v, w, e, h1, h2⟩, h => by
    subst e
    have h := List.pairwise_cons.mp h
    refine List.pairwise_cons.mpr ⟨fun u hu => ?_, repT_pw h2 h.2⟩
    have : ∀ {ts : List (List Int)} {w : List V}, RepL p H (ts.map tD) w → u ∈ ts → ∃ y ∈ w, Rep p H (tD u) y := by
      intro ts
      induction ts with
      | nil => intro w _ hu; cases hu
      | cons a ts ih =>
        intro w ⟨v', w', e', h1', h2'⟩ hu
        subst e'
        rcases List.mem_cons.mp hu with e | hu
        · subst e; exact ⟨v', List.mem_cons_self, h1'⟩
        · obtain ⟨y, a, b⟩ := ih h2' hu
          exact ⟨y, List.mem_cons_of_mem _ a, b⟩
    obtain ⟨y, hy, ry⟩ := this h2 hu
    have := h.1 y hy t u (rep_tupI h1) (rep_tupI ry)
    rw [codeI_eq, codeI_eq] at this
    exact this
theorem repT_all {p : Par} {H : Hp} : ∀ {ts : List (List Int)} {ys : List V}, RepL p H (ts.map tD) ys → ∀ x ∈ ys, ∃ t ∈ ts, L2.TupI p.K H x t
  | [], ys, r, x, h => by rw [show ys = [] from r] at h; cases h
  | t :: ts, ys, ⟨v0, w, e, h1, h2⟩, x, h => by
    rw [e] at h
    rcases List.mem_cons.mp h with e2 | h
    · rw [e2]; exact ⟨t, List.mem_cons_self, rep_tupI h1⟩
    · obtain ⟨u, a, b⟩ := repT_all h2 x h
      exact ⟨u, List.mem_cons_of_mem _ a, b⟩
def rSort (K : PySem.W.Frag) : List V → Hp → VK → Prop := fun vs H Q => L2.rSortedI K vs H Q ∨ ∃ d, 1 ≤ d ∧ L2.rSortU K d 1000 vs H Q
theorem cr_sort {X : Cx} : CallR X (.builtin "sorted") (rSort X.K) := CallR.or L2.cr_sortedI fun pins s σ H xs us Q I r ⟨d, hd, q⟩ => L2.cr_sortT hd pins s σ H xs us Q I r q
theorem sort_ok {H : Hp} {env : Env} {σ : L2.St} {Fs : Nat → List Addr} {ts tl : List Tmp} {Q : VK} {x : D × Nat} {l : List D} {k : Nat} {u : V} {F : List Addr} (s : SR Γ H env σ Fs (tl ++ ts)) (o : Own Γ.p H k (.lst l) u F) (hs : shareOk (.lst l) k = true) (h : sortV l = some x) (q : PR Γ W σ ts Q (.ok x.1 x.2 env)) : rSort Γ.p.K [u] H Q := by
  unfold sortV at h
  split at h
  · rename_i ns e
    cases h
    obtain ⟨a, e1, r⟩ := own_ints o e
    refine .inl ⟨a, ns, by rw [e1], r, fun ns' p hp hw hn => ?_⟩
    have e2 : ns' = sortI ns := perm_sorted_eq (hp.trans (sortI_perm ns).symm) hw (sortI_sorted ns) fun x _ y _ h1 h2 => by omega
    subst e2
    exact resL s q hn (repL_ints _) (.inl rfl)
  · obtain ⟨us, e, h⟩ := Option.bind_eq_some_iff.mp h
    cases us with
    | nil => cases h
    | cons t us =>
      dsimp only at h
      split at h
      · rename_i hc
        cases h
        obtain ⟨h1, h3⟩ := and_ok hc
        obtain ⟨h1, h2⟩ := and_ok h1
        have h1 := of_decide_eq_true h1
        have h3 := of_decide_eq_true h3
        have hb : ∀ w ∈ t :: us, w.length = t.length ∧ TS.Bd 1000 w := fun w hw => by
          obtain ⟨a, b⟩ := and_ok (List.all_eq_true.mp h2 w hw)
          refine ⟨by simpa using a, fun z hz => ?_⟩
          have := List.all_eq_true.mp b z hz
          simpa using this
        obtain ⟨a, vs, e1, r1, r⟩ := own_lstR o hs
        have el := tups_of e
        rw [el] at r
        have r : RepL Γ.p H ((t :: us).map tD) vs := r
        refine .inr ⟨t.length, h1, a, vs, by rw [e1], .inl r1, ?_, fun y hy => ?_, fun ys p hp hw hn => ?_⟩
        · have := r.len; rw [List.length_map] at this; rw [this]; exact h3
        · obtain ⟨w, hw, z⟩ := repT_all r y hy
          exact ⟨w, z, hb w hw⟩
        · obtain ⟨ts', p1, r2⟩ := repT_perm hp r
          have pw := repT_pw r2 hw
          have e2 : ts' = sortC (t :: us) := perm_sorted_eq (p1.trans (sortC_perm _).symm) pw (sortC_sorted _) fun x hx y hy h1 h2 => by
            have b1 := hb x (p1.mem_iff.mp hx)
            have b2 := hb y (p1.mem_iff.mp hy)
            exact code_inj (by rw [b1.1, b2.1]) b1.2 b2.2 h1 h2
          subst e2
          exact resL s q hn r2 (.inl rfl)
      · cases h
theorem nd_sorted {a : E} {ea : Expr} {x : Str} {p pos : Pos} (C : Ctx Dw n S X Γ W) (hx : S.blt "sorted" x = true) (ha : PE X ea (tO v Γ W 1 a)) (hs : notStar ea = true) : PE X (.Call (.Name x p) [ea] [] pos) (tE (step m v) Γ W (.bi .sorted [a])) := by
  obtain ⟨e1, hg, hd, hm⟩ := C.blt hx
  subst e1
  have hK : X.K = Γ.p.K := by rw [C.K, C.pK]
  refine pe_mono (L2.pe_callB cr_sort hg hm rfl (L2.pa_cons ha L2.pa_nil (star_ok hs)) (by decide) (by decide) (star_ok hs) (by rfl)) fun σ H Q ⟨env, Fs, ts, s, q⟩ => ?_
  have q : PR Γ W σ ts Q (ops v 1 [a] env fun ds env => okO (bfn .sorted ds) env) := q
  have z := ops_run (Q' := fun us H3 => rSort X.K us H3 Q) s q fun ds dsP env' us H' Fs' tl s' op hp q' => by
    have vw := opv op s' hp
    obtain ⟨u1, e⟩ := one_of (l := us) op.len
    subst e
    cases vw with | @cons d1 n1 _ F1 _ _ o1 vw => cases vw with | nil =>
    have e : bfn .sorted [(d1, n1)] = if shareOk d1 n1 then (match d1 with | .lst l => sortV l | _ => none) else none := rfl
    rw [e] at q'
    cases hs2 : shareOk d1 n1 with
    | false => rw [hs2] at q'; exact q'.elim
    | true =>
      rw [hs2, if_pos rfl] at q'
      cases d1 with
      | lst l =>
        dsimp only at q'
        cases hr : sortV l with
        | none => rw [hr] at q'; exact q'.elim
        | some x => rw [hr] at q'; rw [hK]; exact sort_ok s' o1 hs2 hr q'
      | _ => exact q'.elim
  exact z
end
end Eng
end

section
set_option linter.all false
set_option maxRecDepth 100000
namespace Eng
open PySem PySem.Spec PyProof.Rows
open L2 (V HO Hp VK TE TS TA TT TI TG TGs TSet PGs PSet WX XK SqL SqT Rd upd upd_same upd_ne upd_upd Key kV Mut RelV Vals Inv Cx PE PS PT PW PA PI PG PSs PTs Takes tVar tNil tCons tOp Vis Loc Gl Room OpR R2 EP Dp DpAll TruR TruV IxR CallR FnOk Sp Ends PassesAt BlkOk DPut valV SlR MtR)
section
variable {Dw : Wd} {n : Nat} {S : Sx} {X : Cx} {Γ : Gm} {W : WX} {v : Ev} {m : Mod} {c : Nat}
/-- what is pending gets a local slot -/
theorem SR.give {H : Hp} {env : Env} {σ : L2.St} {Fs : Nat → List Addr} {t : Tmp} {ts : List Tmp} {Q : Hp → Prop} {i lv : Nat} (s : SR Γ H env σ Fs (t :: ts)) (hi : i < env.length) (hl : lv < 9) (hp : ∀ q ∈ Γ.pin, q.1 ≠ i)
    (h : ∀ H' Fs', SR Γ H' (setS env i (some (t.d, capN t.n lv))) (σ.set i (some t.v)) Fs' ts → Lk Q H') : Lk Q H := by
  obtain ⟨L, nd, mu, _, r⟩ := s.cap lv hl
  refine .frz L nd mu fun ob => ?_
  obtain ⟨G, _, _, s2⟩ := r ob
  exact h _ _ (SR.put (t := ⟨t.d, capN t.n lv, t.v, G⟩) s2 (by rw [← s.len]; exact hi) fun q hq e => absurd e (hp q hq))
theorem Lk.bind {P Q : Hp → Prop} {H : Hp} (k : Lk P H) (h : ∀ H', P H' → Lk Q H') : Lk Q H := by
  induction k with
  | done p => exact h _ p
  | frz L nd mu _ ih => exact .frz L nd mu ih
/-- x, y, z = a, b, c of local names -/
theorem ns_par3 {i j l l1 l2 l3 : Nat} {a b d : E} {x y z : Str} {ea eb ed : Expr} {px py pz pt : Pos} {kt k2 : Nat} {pt2 pos : Pos} (C : Ctx Dw n S X Γ W) (hot : S.hot = false) (hna : isPl a = none) (hnb : isPl b = none) (hnd : isPl d = none) (ha : PE X ea (tO v Γ W 7 a)) (hb : PE X eb (tO v Γ W 7 b)) (hd : PE X ed (tO v Γ W 7 d)) (hsa : notStar ea = true) (hsb : notStar eb = true) (hsd : notStar ed = true)
    (h1 : S.loc i x = true) (h2 : S.loc j y = true) (h3 : S.loc l z = true) (hij : i ≠ j) (hil : i ≠ l) (hjl : j ≠ l) (hpi : i ∉ S.pins) (hpj : j ∉ S.pins) (hpl : l ∉ S.pins) (hx : X.env.scope.names.lookup x = some .local) (hy : X.env.scope.names.lookup y = some .local) (hz : X.env.scope.names.lookup z = some .local)
    (hw : swappedStores [.Tuple [.Name x px, .Name y py, .Name z pz] kt pt] (.Tuple [ea, eb, ed] k2 pt2) X.env = pure (some [x, y, z])) : PS X (.Assign [.Tuple [.Name x px, .Name y py, .Name z pz] kt pt] (.Tuple [ea, eb, ed] k2 pt2) pos) (tS1 v m Γ W (.asgt [.nm i l1, .nm j l2, .nm l l3] [a, b, d])) := by
  have hN : X.N.Nodup := by rw [C.N]; exact C.nd
  have hi : X.N[i]? = some x := by rw [C.N]; exact of_decide_eq_true (and_ok h1).1
  have hj : X.N[j]? = some y := by rw [C.N]; exact of_decide_eq_true (and_ok h2).1
  have hl : X.N[l]? = some z := by rw [C.N]; exact of_decide_eq_true (and_ok h3).1
  have pa := L2.pa_cons ha (L2.pa_cons hb (L2.pa_cons (pe_lkS hd) L2.pa_nil (star_ok hsd)) (star_ok hsb)) (star_ok hsa)
  refine ⟨fun pins s σ H D I ⟨env, Fs, ts, r, q⟩ => (L2.ps_par3 (C.calm hot) hN hi hj hl hij hil hjl hx hy hz pa hw rfl).run pins s σ H D I ?_⟩
  have q : PF Γ W ts D (opsF v 7 [a, b, d] env fun ds env => nxO (asgL [.nm i l1, .nm j l2, .nm l l3] ds env)) := q
  refine opsF_run (Q' := fun us H1 => Lk (fun H2 => ∃ u v w, us = [u, v, w] ∧ D.nx (((σ.set i (some u)).set j (some v)).set l (some w)) H2) H1) r q fun ds dsP env' us H' Fs' tl s' o hp q' => ?_
  obtain ⟨i1, i2, i3, i4⟩ := o.np (by simp [hna, hnb, hnd])
  rw [i4] at hp
  cases hp
  obtain ⟨t1, t2, t3, e4⟩ := three_of (l := tl) (by have := o.len; rw [i2, List.length_map] at this; exact this)
  subst e4 i1 i2
  have q' : PF Γ W ts D (nxO ((if i < env'.length && l1 < 9 then some (setS env' i (some (t1.d, capN t1.n l1))) else none).bind fun env => (if j < env.length && l2 < 9 then some (setS env j (some (t2.d, capN t2.n l2))) else none).bind fun env => (if l < env.length && l3 < 9 then some (setS env l (some (t3.d, capN t3.n l3))) else none).bind fun env => some env)) := q'
  by_cases c1 : (decide (i < env'.length) && decide (l1 < 9)) = true
  · rw [if_pos c1] at q'
    obtain ⟨c11, c12⟩ := and_ok c1
    simp only [Option.bind_some] at q'
    by_cases c2 : (decide (j < (setS env' i (some (t1.d, capN t1.n l1))).length) && decide (l2 < 9)) = true
    · rw [if_pos c2] at q'
      obtain ⟨c21, c22⟩ := and_ok c2
      simp only [Option.bind_some] at q'
      by_cases c3 : (decide (l < (setS (setS env' i (some (t1.d, capN t1.n l1))) j (some (t2.d, capN t2.n l2))).length) && decide (l3 < 9)) = true
      · rw [if_pos c3] at q'
        obtain ⟨c31, c32⟩ := and_ok c3
        have q' : PF Γ W ts D (.nx (setS (setS (setS env' i (some (t1.d, capN t1.n l1))) j (some (t2.d, capN t2.n l2))) l (some (t3.d, capN t3.n l3)))) := q'
        have s' : SR Γ H' env' σ Fs' (t1 :: t2 :: t3 :: ts) := s'
        refine s'.give (of_decide_eq_true c11) (of_decide_eq_true c12) (fun q hq e => absurd (e ▸ C.pn q hq) hpi) fun H2 Fs2 s2 => ?_
        refine s2.give (of_decide_eq_true c21) (of_decide_eq_true c22) (fun q hq e => absurd (e ▸ C.pn q hq) hpj) fun H3 Fs3 s3 => ?_
        exact s3.give (of_decide_eq_true c31) (of_decide_eq_true c32) (fun q hq e => absurd (e ▸ C.pn q hq) hpl) fun H4 Fs4 s4 => .done ⟨t1.v, t2.v, t3.v, rfl, q' _ H4 _ s4⟩
      · rw [if_neg c3] at q'; exact q'.elim
    · rw [if_neg c2] at q'; exact q'.elim
  · rw [if_neg c1] at q'; exact q'.elim
end
end Eng
end

section
set_option linter.all false
set_option maxRecDepth 100000
namespace Eng
open PySem PySem.Spec PyProof.Rows
open L2 (V HO Hp VK TE TS TA TT TI TG TGs TSet PGs PSet WX XK SqL SqT Rd upd upd_same upd_ne upd_upd Key kV Mut RelV Vals Inv Cx PE PS PT PW PA PI PG PSs PTs Takes tVar tNil tCons tOp Vis Loc Gl Room OpR R2 EP Dp DpAll TruR TruV IxR CallR FnOk Sp Ends PassesAt BlkOk DPut valV SlR MtR)
/-! ### expressions that are read without a change -/
section
variable {Dw : Wd} {n : Nat} {S : Sx} {X : Cx} {Γ : Gm} {W : WX} {v : Ev} {m : Mod} {c : Nat}
def tP (Γ : Gm) (k : E) : TE := fun σ H Q => ∃ env Fs ts d, SR Γ H env σ Fs ts ∧ evS k env = some d ∧ ∀ u, Rep Γ.p H d u → Q u H
theorem np_c {d0 : D} {e : Expr} {u : V} (h : PE X e (L2.tC u)) (hd : d0.noMut = true) (hr : ∀ H, Rep Γ.p H d0 u) : PE X e (tP Γ (.con d0)) := by
  refine pe_mono h fun σ H Q ⟨env, Fs, ts, d, s, ev, q⟩ => ?_
  have ev : (if d0.noMut then some d0 else none) = some d := ev
  rw [if_pos hd] at ev
  cases ev
  exact q u (hr H)
theorem np_con {d : D} {e : Expr} (C : Ctx Dw n S X Γ W) (h : conOk S d e = true) : PE X e (tP Γ (.con d)) := by
  unfold conOk at h
  split at h
  · exact np_c L2.pe_non rfl fun H => rfl
  · rename_i b c _ _; cases b <;> cases c <;> first | exact np_c L2.pe_bl rfl (fun H => rfl) | cases h
  · have e := eq_of_beq h; subst e; exact np_c L2.pe_int rfl fun H => rfl
  · have e := eq_of_beq h; subst e
    exact np_c (pe_unC L2.un_neg L2.pe_int (u' := .int _) fun H Q q => ⟨_, rfl, q⟩) rfl fun H => rfl
  · have e := of_decide_eq_true h; subst e; exact np_c L2.pe_str rfl fun H => rfl
  · obtain ⟨h1, h2⟩ := and_ok h
    obtain ⟨a, b⟩ := C.glob h1
    split at h2
    · rename_i j hl
      have e := eq_of_beq h2; subst e
      obtain ⟨t, ht⟩ := C.g.con _ _ hl
      exact np_c (L2.pe_glob a (by rw [C.mg]; exact ht) (v := .int _) ⟨t, rfl⟩ b) rfl fun H => rfl
    · cases h2
  · cases h
theorem np_var {i : Nat} {x : Str} {pos : Pos} (C : Ctx Dw n S X Γ W) (h : S.slot i x = true) : PE X (.Name x pos) (tP Γ (.var i)) := by
  refine pe_mono (C.slot h) fun σ H Q ⟨env, Fs, ts, d, s, ev, q⟩ => ?_
  obtain ⟨y, e1, e2⟩ := Option.bind_eq_some_iff.mp (show ((getS env i).bind fun x => if x.2 = 9 then some x.1 else none) = some d from ev)
  split at e2
  · rename_i h9
    cases e2
    obtain ⟨u, hu, o⟩ := s.at_ i y.1 y.2 e1
    rw [h9] at o
    exact ⟨u, hu, q u (o.rep (.inr rfl)).1⟩
  · cases e2
theorem np_add {a b : E} {ea eb : Expr} {pos : Pos} (C : Ctx Dw n S X Γ W) (ha : PE X ea (tP Γ a)) (hb : PE X eb (tP Γ b)) : PE X (.BinOp ea .Add eb pos) (tP Γ (.bin .add a b)) := by
  refine pe_mono (L2.pe_op (op_bin .add) ha hb) fun σ H Q ⟨env, Fs, ts, d, s, ev, q⟩ => ?_
  obtain ⟨x, e1, ev⟩ := Option.bind_eq_some_iff.mp (show ((evS a env).bind fun x => (evS b env).bind fun y => match x, y with
    | .int _, .int _ => (binop .add x y).map (·.1)
    | _, _ => none) = some d from ev)
  obtain ⟨y, e2, ev⟩ := Option.bind_eq_some_iff.mp ev
  refine ⟨env, Fs, ts, x, s, e1, fun u r => ⟨env, Fs, ts, y, s, e2, fun w r2 => ?_⟩⟩
  cases x with
  | int i =>
    cases y with
    | int j =>
      cases ev
      exact .inl (.inl ⟨i, j, r, r2, q _ rfl⟩)
    | _ => cases ev
  | _ => cases ev
theorem np_ix {i : Nat} {k : E} {x : Str} {p pos : Pos} {ek : Expr} (C : Ctx Dw n S X Γ W) (hx : S.slot i x = true) (hk : PE X ek (tP Γ k)) (hs : plainIx ek = true) : PE X (.Subscript (.Name x p) ek pos) (tP Γ (.ix (.bor i) k)) := by
  have un := C.un
  refine pe_mono (L2.pe_ix (L2.ix_seq.or (ix_dic (by omega))) (C.slot hx) hk (plainIx_ok hs)) fun σ H Q ⟨env, Fs, ts, d, s, ev, q⟩ => ?_
  obtain ⟨y, e1, ev⟩ := Option.bind_eq_some_iff.mp (show ((evS k env).bind fun y => (getS env i).bind fun x => (getIdx x.1 y).bind fun d => if d.noMut then some d else none) = some d from ev)
  obtain ⟨z, e2, ev⟩ := Option.bind_eq_some_iff.mp ev
  obtain ⟨d', e3, ev⟩ := Option.bind_eq_some_iff.mp ev
  split at ev
  · rename_i hm
    cases ev
    obtain ⟨u, hu, o⟩ := s.at_ i z.1 z.2 e2
    refine ⟨u, hu, env, Fs, ts, y, s, e1, fun w r => ?_⟩
    exact ix_ok (C.K.trans C.pK.symm) e3 (.inr (.inr hm)) o (Own.of r (.inl rfl)) fun v rv => q v rv
  · cases ev
/-! ### a target c[k] -/
theorem ng_st {i : Nat} {k : E} {x : Str} {p ps : Pos} {ek : Expr} (C : Ctx Dw n S X Γ W) (hx : S.slot i x = true) (hk : PE X ek (tP Γ k)) (hs : plainIx ek = true) : PG X (.Subscript (.Name x p) ek ps) (tG Γ (.st i k)) := by
  have un := C.un
  refine ⟨fun pins s σ H w u Q I r ⟨env, Fs, ts, d, n0, F, sr, q⟩ => ?_⟩
  have ha : ∀ v, assign (.Subscript (.Name x p) ek ps) X.env v = (do
      let ov ← holding [v] (eval (.Name x p) X.env)
      let iv ← holding [v, ov] (eval ek X.env)
      standAt ps
      holding [v, ov, iv] (setItem ov iv v)
      release [v, ov, iv] []) := fun v => by cases ek <;> first | rfl | cases hs
  have lk : PG X (.Subscript (.Name x p) ek ps) (fun v σ H Q => L2.gSub (tVar i) (tP Γ k) rSetG v σ H fun σ' H' => Lk (Q σ') H') := ⟨fun pins s σ H v u Q I r h => L2.thn ((L2.pg_sub (C.slot hx) hk (set_G (by omega)) ha).run pins s σ H v u _ I r h) fun _ s1 ⟨σ', H', I', k⟩ => by
    obtain ⟨H2, I2, q⟩ := k.inv I'
    exact ⟨σ', H2, I2, q⟩⟩
  refine lk.run pins s σ H w u Q I r ?_
  have q : match ((evS k env).bind fun kd => (getS env i).bind fun c => (Eng.putK c.1 c.2 kd (d, n0)).map fun c' => setS env i (some (c', c.2))) with
    | some env' => ∀ σ' H' Fs', Only [] σ σ' → SR Γ H' env' σ' Fs' ts → Q σ' H'
    | none => False := q
  cases e1 : evS k env with
  | none => rw [e1] at q; exact q.elim
  | some kd =>
    rw [e1] at q
    cases e2 : getS env i with
    | none => rw [e2] at q; exact q.elim
    | some cc =>
      obtain ⟨cc, cn⟩ := cc
      rw [e2] at q
      simp only [Option.bind_some] at q
      cases e3 : Eng.putK cc cn kd (d, n0) with
      | none => rw [e3] at q; exact q.elim
      | some c' =>
        rw [e3] at q
        have q : ∀ σ' H' Fs', Only [] σ σ' → SR Γ H' (setS env i (some (c', cn))) σ' Fs' ts → Q σ' H' := q
        obtain ⟨o, ho, own⟩ := sr.at_ i cc cn e2
        refine ⟨o, ho, env, Fs, ⟨d, n0, w, F⟩ :: ts, kd, sr, e1, fun kv rk => ?_⟩
        have s1 := (sr.mov e2 ho).swap
        refine SR.putK (x := (d, n0)) s1 e3 rk fun H2 F' s2 => ?_
        have s3 := s2.back (i := i) (List.getElem?_eq_some_iff.mp ho).1 ho
        rw [setS_setS] at s3
        exact q σ H2 _ ⟨rfl, fun _ _ => rfl⟩ s3
end
end Eng
end

section
set_option linter.all false
set_option maxRecDepth 100000
namespace Eng
open PySem PySem.Spec PyProof.Rows
open L2 (V HO Hp VK TE TS TA TT TI TG TGs TSet PGs PSet WX XK SqL SqT Rd upd upd_same upd_ne upd_upd Key kV Mut RelV Vals Inv Cx PE PS PT PW PA PI PG PSs PTs Takes tVar tNil tCons tOp Vis Loc Gl Room OpR R2 EP Dp DpAll TruR TruV IxR CallR FnOk Sp Ends PassesAt BlkOk DPut valV SlR MtR)
/-! ### an item of an owned list, for itself -/
section
variable {Γ : Gm} {H : Hp} {env : Env} {σ : L2.St} {Fs : Nat → List Addr} {ts : List Tmp}
theorem ownAll_out {D0 : Addr} (h1 : ∀ i, D0 ∉ Fs i) (h2 : ∀ t ∈ ts, D0 ∉ t.F) (n : Nat) : D0 ∉ ownAll Fs ts n := by
  intro z
  rcases List.mem_append.mp z with z | z
  · obtain ⟨i, _, hb⟩ := List.mem_flatMap.mp z; exact h1 i hb
  · obtain ⟨t, ht, hb⟩ := List.mem_flatMap.mp z; exact h2 t ht hb
theorem SR.inner {l : List D} {n j : Nat} {D0 : Addr} {F : List Addr} {c0 : D} (s : SR Γ H env σ Fs (⟨.lst l, n, .ref D0, F⟩ :: ts)) (hn : n ≠ 0) (hj : l[j]? = some c0) :
    ∃ (u : V) (Fj : List Addr) (rest : List Tmp) (vs : List V) (Γ' : Gm), Γ'.p = Γ.p ∧ H D0 = some (.lst vs) ∧ vs.length = l.length ∧ vs[j]? = some u ∧ n < 9 ∧ SR Γ' H env σ Fs (⟨c0, n - 1, u, Fj⟩ :: (rest ++ ts)) ∧
      ∀ H2 F' c' ts', ts'.Sublist ts → SR Γ' H2 env σ Fs (⟨c', n - 1, u, F'⟩ :: (rest ++ ts')) → ∃ F2, SR Γ H2 env σ Fs (⟨.lst (l.set j c'), n, .ref D0, F2⟩ :: ts') := by
  obtain ⟨m, tl, e1, m8, e3, e4, e5, s4, f1, f2, f3, f4, f5⟩ := s.unpack hn
  subst e1 e4
  rw [List.getElem?_map] at hj
  obtain ⟨tj, ej, ec⟩ := Option.map_eq_some_iff.mp hj
  have hlt : j < tl.length := (List.getElem?_eq_some_iff.mp ej).1
  have etj : tl[j] = tj := (List.getElem?_eq_some_iff.mp ej).2
  have esp : tl = tl.take j ++ tj :: tl.drop (j + 1) := by
    rw [← etj, ← List.drop_eq_getElem_cons hlt, List.take_append_drop]
  have mtj : tj ∈ tl := List.mem_of_getElem? ej
  have ntj : tj.n = m := e5 tj mtj
  have s5 : SR Γ H env σ Fs (tj :: ((tl.take j ++ tl.drop (j + 1)) ++ ts)) := by
    refine s4.perm ?_
    conv => lhs; rw [esp]
    rw [List.append_assoc, List.append_assoc]
    exact List.perm_middle
  have mem : ∀ t ∈ tl.take j ++ tl.drop (j + 1), t ∈ tl := fun t ht => by
    rcases List.mem_append.mp ht with h | h
    · exact List.mem_of_mem_take h
    · exact List.mem_of_mem_drop h
  have nall : D0 ∉ ownAll Fs (tj :: ((tl.take j ++ tl.drop (j + 1)) ++ ts)) σ.length := ownAll_out f3 (fun t ht => by
    rcases List.mem_cons.mp ht with e | ht
    · subst e; exact f1 _ mtj
    · rcases List.mem_append.mp ht with ht | ht
      · exact f1 t (mem t ht)
      · exact f2 t ht) _
  refine ⟨tj.v, tj.F, tl.take j ++ tl.drop (j + 1), tl.map (·.v), Γ.at H (ownAll Fs (tj :: ((tl.take j ++ tl.drop (j + 1)) ++ ts)) σ.length), rfl, e3, by simp, by rw [List.getElem?_map, ej]; rfl, by omega, ?_, fun H2 F' c' ts' sub s6 => ?_⟩
  · have := s5.enter
    obtain ⟨a, b, c, d⟩ := tj
    cases ec
    cases ntj
    exact this
  · have k0 : H2 D0 = some (.lst (tl.map (·.v))) := s6.keep D0 _ e3 nall (fun ps z => by cases z)
    have s7 := s5.leave s6
    have s8 : SR Γ H2 env σ Fs ((tl.take j ++ ⟨c', m, tj.v, F'⟩ :: tl.drop (j + 1)) ++ ts') := by
      refine s7.perm ?_
      rw [List.append_assoc, List.append_assoc]
      exact List.perm_middle.symm
    have hF : D0 ∉ F' := fun z => by
      rcases s6.frt _ List.mem_cons_self D0 z with h | h
      · exact nall h
      · have : (Γ.at H (ownAll Fs (tj :: ((tl.take j ++ tl.drop (j + 1)) ++ ts)) σ.length)).H0 D0 = H D0 := rfl
        rw [this, e3] at h; cases h
    have ev : (tl.take j ++ Tmp.mk c' m tj.v F' :: tl.drop (j + 1)).map (fun t => t.v) = tl.map (fun t => t.v) := by
      conv => rhs; rw [esp]
      simp
    have ed : (tl.take j ++ Tmp.mk c' m tj.v F' :: tl.drop (j + 1)).map (fun t => t.d) = (tl.map (fun t => t.d)).set j c' := by
      rw [List.set_eq_take_append_cons_drop, if_pos (by simpa using hlt)]
      simp
    have s9 := SR.pack (p := D0) (m := m) s8 m8 (fun t ht => by
      rcases List.mem_append.mp ht with ht | ht
      · exact .inl (e5 t (List.mem_of_mem_take ht))
      · rcases List.mem_cons.mp ht with e | ht
        · subst e; exact .inl rfl
        · exact .inl (e5 t (List.mem_of_mem_drop ht))) (by rw [k0, ev]) (fun t ht => by
      rcases List.mem_append.mp ht with ht | ht
      · exact f1 t (List.mem_of_mem_take ht)
      · rcases List.mem_cons.mp ht with e | ht
        · subst e; exact hF
        · exact f1 t (List.mem_of_mem_drop ht)) (fun t ht => f2 t (sub.subset ht)) f3 f4
    rw [ed] at s9
    exact ⟨_, s9⟩
end
end Eng
end

section
set_option linter.all false
set_option maxRecDepth 100000
namespace Eng
open PySem PySem.Spec PyProof.Rows
open L2 (V HO Hp VK TE TS TA TT TI TG TGs TSet PGs PSet WX XK SqL SqT Rd upd upd_same upd_ne upd_upd Key kV Mut RelV Vals Inv Cx PE PS PT PW PA PI PG PSs PTs Takes tVar tNil tCons tOp Vis Loc Gl Room OpR R2 EP Dp DpAll TruR TruV IxR CallR FnOk Sp Ends PassesAt BlkOk DPut valV SlR MtR)
section
variable {Dw : Wd} {n : Nat} {S : Sx} {X : Cx} {Γ : Gm} {W : WX} {v : Ev} {m : Mod} {c : Nat}
theorem storeAt1 {f : D → Option D} {p c c' : D} (h : storeAt f [p] c = some c') : ∃ i l j x y, p = .int i ∧ c = .lst l ∧ pyIx l.length i = some j ∧ l[j]? = some x ∧ f x = some y ∧ c' = .lst (l.set j y) := by
  cases p with
  | int i =>
    cases c with
    | lst l =>
      obtain ⟨j, e1, h⟩ := Option.bind_eq_some_iff.mp (show ((pyIx l.length i).bind fun j => (l[j]?).bind fun x => (storeAt f [] x).map fun y => D.lst (l.set j y)) = some c' from h)
      obtain ⟨x, e2, h⟩ := Option.bind_eq_some_iff.mp h
      obtain ⟨y, e3, e4⟩ := Option.map_eq_some_iff.mp h
      have e3 : f x = some y := e3
      exact ⟨i, l, j, x, y, rfl, rfl, e1, e2, e3, e4.symm⟩
    | _ => cases h
  | _ => cases c <;> cases h
/-- x[p], its object for a change -/
theorem inner_ix {H : Hp} {D0 : Addr} {vs : List V} {i : Int} {j : Nat} {u : V} {l : List D} {Q : VK} (h : H D0 = some (.lst vs)) (hl : vs.length = l.length) (hj : pyIx l.length i = some j) (hu : vs[j]? = some u) (q : Q u H) {K : PySem.W.Frag} : L2.rIx K (.ref D0) (.int i) H Q ∨ rIxG (.ref D0) (.int i) H Q := by
  refine .inl (.inl ⟨D0, vs, i, u, rfl, rfl, .inl (.inl h), ?_, q⟩)
  show (L2.ixN vs.length i).bind _ = _
  rw [hl, show L2.ixN = pyIx from rfl, hj]
  exact hu
/-- x[p][k] = e -/
theorem ns_setp {i : Nat} {p k e : E} {x : Str} {p0 p1 ps pos : Pos} {ep ek ee : Expr} (C : Ctx Dw n S X Γ W) (hne : isPl e = none) (hx : S.slot i x = true) (hp : PE X ep (tP Γ p)) (hpx : plainIx ep = true) (he : PE X ee (tO v Γ W 7 e)) (hk : ∀ H L, PE X ek (tP (Γ.at H L) k)) (hkx : plainIx ek = true)
    (hs : swapsWithSole [.Subscript (.Subscript (.Name x p0) ep p1) ek ps] ee pos.line X.env = pure false) (hw : swappedStores [.Subscript (.Subscript (.Name x p0) ep p1) ek ps] ee X.env = pure none) : PS X (.Assign [.Subscript (.Subscript (.Name x p0) ep p1) ek ps] ee pos) (tS1 v m Γ W (.setp i [p] k e)) := by
  have un := C.un
  have ha : ∀ v, assign (.Subscript (.Subscript (.Name x p0) ep p1) ek ps) X.env v = (do
      let ov ← holding [v] (eval (.Subscript (.Name x p0) ep p1) X.env)
      let iv ← holding [v, ov] (eval ek X.env)
      standAt ps
      holding [v, ov, iv] (setItem ov iv v)
      release [v, ov, iv] []) := fun v => by cases ek <;> first | rfl | cases hkx
  have hk' : PE X ek (fun σ H Q => ∃ H1 L, tP (Γ.at H1 L) k σ H Q) := ⟨fun pins s σ H Q I ⟨H1, L, q⟩ => (hk H1 L).run pins s σ H Q I q⟩
  refine ⟨fun pins s σ H D I ⟨env, Fs, ts, r, q⟩ => (ps_lkE (L2.ps_asg he (L2.pg_sub (L2.pe_ix (L2.ix_seq.or (ix_dic (by omega))) (C.slot hx) hp (plainIx_ok hpx)) hk' (set_G (by omega)) ha) hs hw rfl)).run pins s σ H D I ?_⟩
  have q : PF Γ W ts D (opsF v 7 [e] env fun ds env => match ds, getS env i, evSL [p] env, evS k env with
    | [x], some (c, n), some ps, some k => if n ≤ ps.length || n == 9 then .bad else
        nxO ((storeAt (putAt (n - ps.length) x k) ps c).map fun c => setS env i (some (c, n)))
    | _, _, _, _ => .bad) := q
  rw [opsF1 hne] at q
  show tO v Γ W 7 e σ H _
  unfold tO
  rw [hne]
  refine ⟨env, Fs, ts, r, ?_⟩
  cases hr : v.e e env with
  | ex k a env' => rw [hr] at q; exact fun cls dd H' Fs' s' x => q cls dd σ H' Fs' s' x
  | bad => rw [hr] at q; exact q
  | ok d nn env' =>
    rw [hr] at q
    intro u H' F Fs' s'
    dsimp only at q
    cases hg : getS env' i with
    | none => rw [hg] at q; exact q.elim
    | some cn =>
    obtain ⟨cc, cn⟩ := cn
    rw [hg] at q
    cases hp1 : evS p env' with
    | none =>
      have e1 : evSL [p] env' = none := by show ((evS p env').bind _) = none; rw [hp1]; rfl
      rw [e1] at q; exact q.elim
    | some pd =>
    have e1 : evSL [p] env' = some [pd] := by show ((evS p env').bind _) = _; rw [hp1]; rfl
    rw [e1] at q
    cases hk1 : evS k env' with
    | none => rw [hk1] at q; exact q.elim
    | some kd =>
    rw [hk1] at q
    dsimp only at q
    by_cases hc : (decide (cn ≤ [pd].length) || cn == 9) = true
    · rw [if_pos hc] at q; exact q.elim
    rw [if_neg hc] at q
    have hc1 : ¬ cn ≤ 1 := fun z => hc (by simp [z])
    cases hst : storeAt (putAt (cn - [pd].length) (d, capN nn 7) kd) [pd] cc with
    | none => rw [hst] at q; exact q.elim
    | some c' =>
    rw [hst] at q
    have q : PF Γ W ts D (.nx (setS env' i (some (c', cn)))) := q
    obtain ⟨ii, l, j, x0, y0, ep1, ec, ej, ex0, ey, ec'⟩ := storeAt1 hst
    subst ep1 ec ec'
    obtain ⟨o, ho, own⟩ := s'.at_ i _ _ hg
    refine ⟨o, ho, env', Fs', _, .int ii, s', hp1, fun iv rv => ?_⟩
    have rv : iv = .int ii := rv
    subst rv
    rcases own with ⟨z, _⟩ | ⟨m0, D0, vs0, G0, z1, z2, z3, z4, _⟩
    · omega
    subst z3
    have s1 := s'.mov hg ho
    obtain ⟨w, Fj, rest, vs, Γ', hp', hD, hl, hu, n9, s2, cl⟩ := s1.inner (by omega) ex0
    refine inner_ix hD hl ej hu ?_
    have s3 : SR Γ' H' (setS env' i none) σ (updF Fs' i []) (⟨d, capN nn 7, u, F⟩ :: ⟨x0, cn - 1, w, Fj⟩ :: (rest ++ ts)) := by
      refine s2.perm ?_
      refine (List.Perm.cons _ ?_).trans (.swap _ _ _)
      exact List.perm_middle
    refine ⟨_, _, env', Fs', _, kd, s'.enter, hk1, fun kv rk => ?_⟩
    have rk : Rep Γ'.p H' kd kv := by rw [hp']; exact rk
    refine SR.putK (x := (d, capN nn 7)) s3 ey rk fun H2 F' s4 => ?_
    have s5 : SR Γ' H2 (setS env' i none) σ (updF Fs' i []) (⟨y0, cn - 1, w, F'⟩ :: (rest ++ ts)) := s4
    obtain ⟨F2, s6⟩ := cl H2 F' y0 ts (List.sublist_append_right [_] _) s5
    have s7 := s6.back (i := i) (List.getElem?_eq_some_iff.mp ho).1 ho
    rw [setS_setS] at s7
    exact q σ H2 _ s7
/-! ### x[p].append((a, b, ..)) -/
def tPs (Γ : Gm) (is : List E) : TA := fun σ H Q => ∃ env Fs ts ds, SR Γ H env σ Fs ts ∧ evSL is env = some ds ∧ ∀ us, RepL Γ.p H ds us → Q us H
theorem nps_nil : PA X [] (tPs Γ []) := ⟨fun pos pins s σ H Q I ⟨env, Fs, ts, ds, r, ev, q⟩ => L2.pa_nil.run pos pins s σ H Q I (by cases ev; exact q [] rfl)⟩
theorem nps_cons {k : E} {ks : List E} {e : Expr} {es : List Expr} (h1 : PE X e (tP Γ k)) (h2 : PA X es (tPs Γ ks)) (hs : notStar e = true) : PA X (e :: es) (tPs Γ (k :: ks)) :=
  ⟨fun pos pins s σ H Q I ⟨env, Fs, ts, ds, r, ev, q⟩ => (L2.pa_cons h1 h2 (star_ok hs)).run pos pins s σ H Q I (by
    obtain ⟨d, e1, ev⟩ := Option.bind_eq_some_iff.mp (show ((evS k env).bind fun d => (evSL ks env).map (d :: ·)) = some ds from ev)
    obtain ⟨ds', e2, e3⟩ := Option.map_eq_some_iff.mp ev
    subst e3
    exact ⟨env, Fs, ts, d, r, e1, fun u hu => ⟨env, Fs, ts, ds', r, e2, fun us hus => q _ ⟨u, us, rfl, hu, hus⟩⟩⟩)⟩
theorem evSL_len : ∀ {is : List E} {env : Env} {ds : List D}, evSL is env = some ds → ds.length = is.length
  | [], env, ds, h => by cases h; rfl
  | a :: is, env, ds, h => by
    obtain ⟨d, e1, h⟩ := Option.bind_eq_some_iff.mp (show ((evS a env).bind fun d => (evSL is env).map (d :: ·)) = some ds from h)
    obtain ⟨ds', e2, e3⟩ := Option.map_eq_some_iff.mp h
    subst e3
    simp [evSL_len e2]
theorem ns_app1 {i : Nat} {p : E} {is : List E} {x : Str} {p0 p1 p3 apos cpos pos : Pos} {kk : Nat} {ep : Expr} {es : List Expr} (C : Ctx Dw n S X Γ W) (hx : S.slot i x = true) (hp : PE X ep (tP Γ p)) (hpx : plainIx ep = true) (he : PA X es (tPs Γ is)) (hz : is.length ≤ SZ) (hline : (apos.endLine == cpos.line) = true) :
    PS X (.Expr (.Call (.Attribute (.Subscript (.Name x p0) ep p1) "append" apos) [.Tuple es kk p3] [] cpos) pos) (tS1 v m Γ W (.app i [p] (.tup is))) := by
  have un := C.un
  have st : starEach [Expr.Tuple es kk p3] X.env = (false, eval (.Tuple es kk p3) X.env) :: starEach [] X.env := rfl
  have hcall := L2.pe_bm (T := "list") (id := "list.append") (cpos := cpos) (apos := apos) PySem.F.plainAttrs_list PySem.F.slot_list_append (by rfl) (fun pins s σ H x xs v us Q I rx rs q => L2.mt_append pins s σ H x xs v us Q I rx rs q)
    (L2.pe_ix (pos := p1) (L2.ix_seq.or (ix_dic (X := X) (by omega))) (C.slot (pos := p0) hx) hp (plainIx_ok hpx)) (L2.pa_cons (show PE X (.Tuple es kk p3) _ from L2.pe_tup he) L2.pa_nil st) (by rfl) (by rw [st]; rfl) hline st (by rfl)
  refine ⟨fun pins s σ H D I ⟨env, Fs, ts, r, q⟩ => (ps_lkE (L2.ps_expr hcall (by rfl))).run pins s σ H D I ?_⟩
  have q : PF Γ W ts D (match getS env i, evSL [p] env, evS (.tup is) env with
    | some (c, n), some ps, some x => if n ≤ ps.length || (n == 9 || !x.noMut) then .bad else
        nxO ((storeAt (fun d => match d with | .lst l => if l.length < SZ then some (.lst (l ++ [x])) else none | _ => none) ps c).map fun c => setS env i (some (c, n)))
    | _, _, _ => .bad) := q
  cases hg : getS env i with
  | none => rw [hg] at q; exact q.elim
  | some cn =>
  obtain ⟨cc, cn⟩ := cn
  rw [hg] at q
  cases hp1 : evS p env with
  | none =>
    have e1 : evSL [p] env = none := by show ((evS p env).bind _) = none; rw [hp1]; rfl
    rw [e1] at q; exact q.elim
  | some pd =>
  have e1 : evSL [p] env = some [pd] := by show ((evS p env).bind _) = _; rw [hp1]; rfl
  rw [e1] at q
  cases hk1 : evSL is env with
  | none =>
    have e2 : evS (.tup is) env = none := by show (evSL is env).map _ = none; rw [hk1]; rfl
    rw [e2] at q; exact q.elim
  | some ds =>
  have e2 : evS (.tup is) env = some (.tup ds) := by show (evSL is env).map _ = _; rw [hk1]; rfl
  rw [e2] at q
  dsimp only at q
  by_cases hc : (decide (cn ≤ [pd].length) || (cn == 9 || !(Eng.D.tup ds).noMut)) = true
  · rw [if_pos hc] at q; exact q.elim
  rw [if_neg hc] at q
  have hc1 : ¬ cn ≤ 1 := fun z => hc (by simp [z])
  have hm : (Eng.D.tup ds).noMut = true := by
    cases z : (Eng.D.tup ds).noMut with
    | true => rfl
    | false => exact absurd (by simp [z]) hc
  cases hst : storeAt (fun d => match d with | .lst l => if l.length < SZ then some (Eng.D.lst (l ++ [Eng.D.tup ds])) else none | _ => none) [pd] cc with
  | none => rw [hst] at q; exact q.elim
  | some c' =>
  rw [hst] at q
  have q : PF Γ W ts D (.nx (setS env i (some (c', cn)))) := q
  obtain ⟨ii, l, j, x0, y0, ep1, ec, ej, ex0, ey, ec'⟩ := storeAt1 hst
  subst ep1 ec ec'
  cases x0 with
  | lst l2 =>
    dsimp only at ey
    split at ey
    · rename_i hsz
      cases ey
      obtain ⟨o, ho, own⟩ := r.at_ i _ _ hg
      refine ⟨o, ho, env, Fs, _, .int ii, r, hp1, fun iv rv => ?_⟩
      have rv : iv = .int ii := rv
      subst rv
      rcases own with ⟨z, _⟩ | ⟨m0, D0, vs0, G0, z1, z2, z3, z4, _⟩
      · omega
      subst z3
      have s1 := r.mov hg ho
      obtain ⟨w, Fj, rest, vs, Γ', hp', hD, hl, hu, n9, s2, cl⟩ := s1.inner (by omega) ex0
      refine inner_ix hD hl ej hu ?_
      rcases s2.tmp _ List.mem_cons_self with ⟨z, _⟩ | ⟨m1, B0, vs1, G1, y1, y2, y3, y4, _⟩
      · dsimp only at z; omega
      have y3 : w = .ref B0 := y3
      subst y3
      refine ⟨.inl ⟨rfl, vs1, .inl (.inl y4)⟩, env, Fs, _, ds, r, hk1, fun us rus => ?_⟩
      have hlen : us.length ≤ sizeLine := by
        rw [rus.len]
        rw [evSL_len hk1]
        exact Nat.le_trans hz SZ_le
      refine ⟨hlen, fun pn hpn => ?_⟩
      have s3 := (s2.new (o := .tup us) hpn).pushR (d := .tup ds) (n := 9) (v := .ref pn) ⟨⟨pn, us, rfl, upd_same, by
        rw [hp']
        exact RepL.keep (fun b o e _ _ => by rw [upd_ne (L2.ne_of_none e hpn)]; exact e) rus⟩, rfl, fun _ => hm⟩
      obtain ⟨acc, a1, a2, a3⟩ := SR.appEnd s3 (by omega) (by omega) (by omega)
      refine ⟨B0, acc, .ref pn, rfl, rfl, a1, by rw [a2]; exact Nat.lt_of_lt_of_le hsz (by decide), a3 _ fun H2 F' s4 => ?_⟩
      obtain ⟨F2, s6⟩ := cl H2 F' _ ts (List.Sublist.refl _) s4
      have s7 := s6.back (i := i) (List.getElem?_eq_some_iff.mp ho).1 ho
      rw [setS_setS] at s7
      exact q σ H2 _ s7
    · cases ey
  | _ => cases ey
end
end Eng
end

section
set_option linter.all false
set_option maxRecDepth 100000
namespace Eng
open PySem PySem.Spec PyProof.Rows
open L2 (V HO Hp VK TE TS TA TT TI TG TGs TSet PGs PSet WX XK SqL SqT Rd upd upd_same upd_ne upd_upd Key kV Mut RelV Vals Inv Cx PE PS PT PW PA PI PG PSs PTs Takes tVar tNil tCons tOp Vis Loc Gl Room OpR R2 EP Dp DpAll TruR TruV IxR CallR FnOk Sp Ends PassesAt BlkOk DPut valV SlR MtR KT)
/-! ### dict(pairs), d.update(pairs) -/
def mrg {κ : Type} [DecidableEq κ] (kvs more : List (κ × V)) : List (κ × V) := more.foldl (fun acc kv => L2.putK acc kv.1 kv.2) kvs
theorem mrg_len {κ : Type} [DecidableEq κ] : ∀ (more kvs : List (κ × V)), (mrg kvs more).length ≤ kvs.length + more.length
  | [], kvs => Nat.le_refl _
  | p :: more, kvs => by
    have h1 := mrg_len more (L2.putK kvs p.1 p.2)
    have h2 : (L2.putK kvs p.1 p.2).length ≤ kvs.length + 1 := by
      unfold L2.putK
      split <;> simp
    show (mrg (L2.putK kvs p.1 p.2) more).length ≤ _
    rw [List.length_cons]
    omega
section
variable {p : Par} {H : Hp}
theorem dset_keys {α : Type} {k d : D} {x : α} : ∀ {ks : List D} {vs : List D} {ws : List α}, vs.length = ws.length → (dset k d ks vs).1 = (dsetG k x ks ws).1
  | [], vs, ws, _ => rfl
  | _ :: _, [], [], _ => rfl
  | _ :: _, [], _ :: _, h => by cases h
  | _ :: _, _ :: _, [], h => by cases h
  | a :: ks, b :: vs, w :: ws, h => by
    unfold dset dsetG
    split
    · rfl
    · show _ :: _ = _ :: _
      rw [dset_keys (by simpa using h)]
theorem dset_rep {k d : D} {x : V} (hx : Rep p H d x) : ∀ {ks : List D} {vs : List D} {ws : List V}, RepL p H vs ws → RepL p H (dset k d ks vs).2 (dsetG k x ks ws).2
  | [], vs, ws, _ => ⟨x, [], rfl, hx, rfl⟩
  | _ :: _, [], ws, h => by rw [show ws = [] from h]; exact ⟨x, [], rfl, hx, rfl⟩
  | a :: ks, b :: vs, ws, ⟨w, r, e, h, t⟩ => by
    subst e
    unfold dset dsetG
    split
    · exact ⟨x, r, rfl, hx, t⟩
    · exact ⟨w, _, rfl, h, dset_rep hx t⟩
theorem dupd_G {κ : Type} [DecidableEq κ] {f : κ → D} (hf : ∀ a b, D.eqv (f a) (f b) = decide (a = b)) : ∀ (prs : List (D × D)) {more kvs : List (κ × V)} {vs : List D} {r : List D × List D}, prs.map (·.1) = more.map (fun q => f q.1) → RepL p H (prs.map (·.2)) (more.map (·.2)) → (kvs.map (·.1)).Nodup → RepL p H vs (kvs.map (·.2)) →
    dupd (kvs.map fun q => f q.1) vs prs = some r → r.1 = (mrg kvs more).map (fun q => f q.1) ∧ RepL p H r.2 ((mrg kvs more).map (·.2)) ∧ ((mrg kvs more).map (·.1)).Nodup
  | [], more, kvs, vs, r, e, _, nd, rv, h => by
    cases more with
    | nil => cases h; exact ⟨rfl, rv, nd⟩
    | cons _ _ => cases e
  | (k, d) :: prs, more, kvs, vs, r, e, rm, nd, rv, h => by
    cases more with
    | nil => cases e
    | cons m more =>
      obtain ⟨q, y⟩ := m
      rw [List.map_cons, List.map_cons] at e
      injection e with e1 e2
      have e1 : k = f q := e1
      subst e1
      obtain ⟨y', w', e3, h1, h2⟩ := rm
      cases e3
      unfold dupd at h
      split at h
      · dsimp only at h
        have g := putK_G hf (k := q) (v := y) nd
        have e4 : (dset (f q) d (kvs.map fun q => f q.1) vs).1 = (L2.putK kvs q y).map (fun q => f q.1) := by
          rw [dset_keys (x := y) rv.len.symm, g]
        have e5 : RepL p H (dset (f q) d (kvs.map fun q => f q.1) vs).2 ((L2.putK kvs q y).map (·.2)) := by
          have := dset_rep (k := f q) (ks := kvs.map fun q => f q.1) h1 rv
          rw [g] at this
          exact this
        rw [e4] at h
        exact dupd_G hf prs (more := more) (kvs := L2.putK kvs q y) e2 h2 (putK_keys nd).1 e5 h
      · cases h
theorem dset_head {k d a : D} {ks vs : List D} (h : (a :: ks).length = vs.length) : ∃ l, (dset k d (a :: ks) vs).1 = a :: l ∧ (dset k d (a :: ks) vs).1.length = (dset k d (a :: ks) vs).2.length := by
  have len : ∀ {ks vs : List D}, ks.length = vs.length → (dset k d ks vs).1.length = (dset k d ks vs).2.length := by
    intro ks
    induction ks with
    | nil => intro vs _; rfl
    | cons a ks ih =>
      intro vs h
      cases vs with
      | nil => cases h
      | cons b vs =>
        unfold dset
        split
        · simpa using h
        · show (_ :: _).length = (_ :: _).length
          simp [ih (by simpa using h)]
  cases vs with
  | nil => cases h
  | cons b vs =>
    have hl := len h
    by_cases e : D.eqv a k = true
    · refine ⟨ks, ?_, hl⟩
      unfold dset
      rw [if_pos e]
    · refine ⟨(dset k d ks vs).1, ?_, hl⟩
      have e0 : dset k d (a :: ks) (b :: vs) = if D.eqv a k then (a :: ks, d :: vs) else (a :: (dset k d ks vs).1, b :: (dset k d ks vs).2) := by conv => lhs; unfold dset
      rw [e0, if_neg e]
/-- all keys are of the first one's kind -/
theorem dupd_kind : ∀ (prs : List (D × D)) {a : D} {ks vs : List D} {r : List D × List D}, isKey a = true → (a :: ks).length = vs.length → dupd (a :: ks) vs prs = some r → ∀ q ∈ prs, isKey q.1 = true ∧ flatKey q.1 = flatKey a
  | [], _, _, _, _, _, _, _, q, hq => by cases hq
  | (k, d) :: prs, a, ks, vs, r, ha, hl, h, q, hq => by
    unfold dupd at h
    split at h
    · rename_i hk
      obtain ⟨hk1, _⟩ := and_ok hk
      dsimp only at h
      obtain ⟨l, e1, e2⟩ := dset_head (k := k) (d := d) hl
      have hk2 := (and_ok hk1).1
      have hk3 := (and_ok hk1).2
      rcases List.mem_cons.mp hq with e | hq
      · subst e
        refine ⟨hk2, ?_⟩
        cases a <;> cases k <;> first | rfl | (cases hk2; done) | (cases hk3; done) | (cases ha; done)
      · rw [e1] at h e2
        exact dupd_kind prs ha e2 h q hq
    · cases h
end
/-! ### the rules -/
section
variable {X : Cx}
theorem pairsT {pins : List (Addr × Obj)} {σ : L2.St} {H : Hp} {s : Shared} (I : Inv X pins σ H s) : ∀ {ps : List Addr} {kvs : List (List Key × V)}, Paired (fun p kv => ∃ b, H p = some (.tup [.ref b, kv.2]) ∧ H b = some (.tup (kv.1.map kV))) ps kvs →
    ∃ xs : List (List Key × Addr × Value), KT H kvs xs ∧ xs.length = ps.length ∧ ∀ (j : Nat) (q : List Key × Addr × Value), xs[j]? = some q → ∃ T : Addr, ps[j]? = some T ∧ s.heap.IsTuple T #[.ref q.2.1, q.2.2] ∧ H q.2.1 = some (.tup (q.1.map kV))
  | _, _, .nil => ⟨[], .nil, rfl, fun j q e => by simp at e⟩
  | _, _, .cons (a := p) (b := kv) h t => by
    obtain ⟨xs, r, hl, hp⟩ := pairsT I t
    obtain ⟨b, h1, h2⟩ := h
    obtain ⟨its, rv, ht, _⟩ := I.tuple (.inl (.inl h1))
    obtain ⟨u, y, ei, ru, ry⟩ := L2.vals2 rv
    subst ei
    cases (show u = Value.ref b from ru)
    refine ⟨(kv.1, b, y) :: xs, .cons ⟨rfl, h2, ry⟩ r, by rw [List.length_cons, List.length_cons, hl], fun j q e => ?_⟩
    cases j with
    | zero =>
      cases e
      exact ⟨p, rfl, ht, h2⟩
    | succ j =>
      obtain ⟨T, e1, e2, e3⟩ := hp j q (by simpa using e)
      exact ⟨T, by simpa using e1, e2, e3⟩
theorem merge_kt {H : Hp} : ∀ {more : List (List Key × V)} {xs : List (List Key × Addr × Value)} {kvs : List (List Key × V)} {acc : List (List Key × Addr × Value)}, KT H more xs → KT H kvs acc → KT H (mrg kvs more) (storedAllH acc xs)
  | [], _, kvs, acc, .nil, r => r
  | p :: more, q :: xs, kvs, acc, .cons h t, r => by
    obtain ⟨h1, h2, h3⟩ := h
    have := L2.KT.put r p.1 h2 h3
    show KT H (mrg (L2.putK kvs p.1 p.2) more) (storedAllH (storedH acc q.1 q.2.1 q.2.2) xs)
    rw [← h1]
    exact merge_kt t this
theorem cr_dictT (hc : X.calm = true) (hu : X.A.units + 10 < cLine) : CallR X (.type "dict") (fun xs H Q => ∃ (a : Addr) (ps : List Addr) (kvs : List (List Key × V)), xs = [.ref a] ∧ SqL X.K H a (ps.map V.ref) ∧ Paired (fun p kv => ∃ b, H p = some (.tup [.ref b, kv.2]) ∧ H b = some (.tup (kv.1.map kV))) ps kvs ∧
    ∀ q, H q = none → Q (.ref q) (upd H q (.dT (mrg [] kvs)))) := by
  intro pins s σ H xs us Q I r q
  obtain ⟨a, ps, kvs, ex, hq, hp, q⟩ := q
  subst ex
  obtain ⟨u, eu, rx⟩ := L2.vals1 r
  subst eu
  cases rx
  obtain ⟨its, rv, pl, hz⟩ := I.list hq
  have ei := L2.refs_at rv
  subst ei
  rw [List.length_map] at hz
  obtain ⟨ys, kt, hl, hpr⟩ := pairsT I hp
  obtain ⟨o, n, ho, hcl, hd, hdat⟩ := pl
  have hfree := I.hok.fresh (Nat.le_refl s.heap.objs.size)
  refine call_dict_pairsH (knd := tupleKind (L2.mixKind X.prog X.w)) (ps := ys) (PairArg.list a (ps.map Value.ref).toArray (fun j => ps.getD j 0) (ys.map fun x => (Value.ref x.2.1, x.2.2))) (I.ok.hd hc) ?_ ⟨⟨o, n, ho, hcl, hd, hdat⟩, ?_, fun j k v e => ?_⟩ ⟨by simp, fun i key v e => ?_⟩ (fun h' hk x hx => ?_) (by simpa [hl] using hz) fun h' tk hd' hk => ?_
  · exact tupleKind_room_in1 (A := X.A.in1) (by show X.A.units + 1 + 1 < cLine; omega)
  · simp [hl]
  · rw [List.getElem?_map] at e
    obtain ⟨x, e1, e2⟩ := Option.map_eq_some_iff.mp e
    cases e2
    obtain ⟨T, e3, e4, _⟩ := hpr j x e1
    have e5 : ps.getD j 0 = T := by simp [List.getD, e3]
    refine ⟨?_, by dsimp only; rw [e5]; exact .inl e4⟩
    dsimp only
    rw [e5]
    simp [e3]
  · have e : (ys.map fun x => (Value.ref x.2.1, x.2.2))[i]? = some (key, v) := e
    rw [List.getElem?_map] at e
    obtain ⟨x, e1, e2⟩ := Option.map_eq_some_iff.mp e
    cases e2
    exact ⟨x.1, x.2.1, e1, rfl⟩
  · obtain ⟨j, e1⟩ := List.mem_iff_getElem?.mp hx
    obtain ⟨T, _, _, e4⟩ := hpr j x e1
    refine L2.key_of (P := X.prog) (w := X.w) (H := H) (h := h') (I.hok.kept fun b o e => hk b o (fun z => ?_) (fun z => nomatch z) e) e4
    rw [z] at e
    exact absurd (Heap.lt_size e) (Nat.lt_irrefl _)
  · have kk : ∀ b o, s.heap.get? b = some o → h'.get? b = some o := fun b o e => hk b o (fun z => nomatch z) e
    have km := merge_kt kt (kvs := []) (acc := []) .nil
    have hm : (s.heap.objs.size == sysModules) = false := beq_eq_false_iff_ne.mpr (Nat.ne_of_gt I.big)
    have hlen : (mrg [] kvs).length ≤ sizeLine := by
      refine Nat.le_trans (mrg_len kvs []) ?_
      rw [List.length_nil, Nat.zero_add, kt.length, hl]
      exact hz
    obtain ⟨ob, es, ep, g1, g2, g3, g4, g5, g6⟩ := hd'
    have km' : KT (upd H s.heap.objs.size (.dT (mrg [] kvs))) (mrg [] kvs) (storedAllH [] ys) := L2.KT.keeps km fun b zs e => by
      rw [upd_ne (L2.ne_of_none e hfree)]; exact e
    refine ⟨.ref s.heap.objs.size, _, I.laid (t' := tk) kk (Nat.le_refl _) (show L2.ObjOk X.prog X.w _ _ _ (.dT (mrg [] kvs)) from ⟨hlen, hm, _, km', ob, es, ep, g1, g2, g3, g4, g6⟩), rfl, q _ hfree⟩
end
end Eng
end

section
set_option linter.all false
set_option maxRecDepth 100000
namespace Eng
open PySem PySem.Spec PyProof.Rows
open L2 (V HO Hp VK TE TS TA TT TI TG TGs TSet PGs PSet WX XK SqL SqT Rd upd upd_same upd_ne upd_upd Key kV Mut RelV Vals Inv Cx PE PS PT PW PA PI PG PSs PTs Takes tVar tNil tCons tOp Vis Loc Gl Room OpR R2 EP Dp DpAll TruR TruV IxR CallR FnOk Sp Ends PassesAt BlkOk DPut valV SlR MtR KT KV)
section
variable {X : Cx}
theorem pairsK {pins : List (Addr × Obj)} {σ : L2.St} {H : Hp} {s : Shared} (I : Inv X pins σ H s) : ∀ {ps : List Addr} {kvs : List (Key × V)}, Paired (fun p kv => H p = some (.tup [kV kv.1, kv.2])) ps kvs →
    ∃ xs : List (Key × Value × Value), KV kvs (xs.map fun x => (x.1, x.2.2)) ∧ xs.length = ps.length ∧ ∀ (j : Nat) (q : Key × Value × Value), xs[j]? = some q → ∃ T : Addr, ps[j]? = some T ∧ s.heap.IsTuple T #[q.2.1, q.2.2] ∧ (L2.mixKind X.prog X.w).is q.1 q.2.1 = true
  | _, _, .nil => ⟨[], .nil, rfl, fun j q e => by simp at e⟩
  | _, _, .cons (a := p) (b := kv) h t => by
    obtain ⟨xs, r, hl, hp⟩ := pairsK I t
    obtain ⟨its, rv, ht, _⟩ := I.tuple (.inl (.inl h))
    obtain ⟨u, y, ei, ru, ry⟩ := L2.vals2 rv
    subst ei
    refine ⟨(kv.1, u, y) :: xs, .cons ⟨rfl, ry⟩ r, by rw [List.length_cons, List.length_cons, hl], fun j q e => ?_⟩
    cases j with
    | zero =>
      cases e
      exact ⟨p, rfl, ht, L2.kV_is ru⟩
    | succ j =>
      obtain ⟨T, e1, e2, e3⟩ := hp j q (by simpa using e)
      exact ⟨T, by simpa using e1, e2, e3⟩
def rUpd : V → List V → Hp → VK → Prop := fun x xs H Q => ∃ (d a : Addr) (ps : List Addr) (kvs0 kvs : List (Key × V)), x = .ref d ∧ xs = [.ref a] ∧ H d = some (.dK kvs0) ∧ Rd H a (.lst (ps.map V.ref)) ∧ Paired (fun p kv => H p = some (.tup [kV kv.1, kv.2])) ps kvs ∧ kvs0.length + ps.length ≤ sizeLine ∧ Q .non (upd H d (.dK (mrg kvs0 kvs)))
theorem mt_upd (hc : X.calm = true) : MtR X "dict.update" rUpd := by
  intro pins s σ H x xs v us Q I rx r q
  obtain ⟨d, a, ps, kvs0, kvs, ex, exs, hd, ha, hp, hsz, q⟩ := q
  subst ex exs
  cases rx
  obtain ⟨u, eu, rx⟩ := L2.vals1 r
  subst eu
  cases rx
  obtain ⟨its, rv, pl, hz⟩ := I.list (.inl ha)
  have ei := L2.refs_at rv
  subst ei
  obtain ⟨zs, kv, hl, hpr⟩ := pairsK I hp
  obtain ⟨o, n, ho, hcl, hdn, hdat⟩ := pl
  obtain ⟨hz0, hsys, vs0, rel0, dof⟩ := L2.dk_of I.hok hd
  have hmem : ∀ j, j < zs.length → ∃ T, ps[j]? = some T ∧ H T ≠ some (.dK kvs0) := fun j hj => by
    obtain ⟨T, e1, e2, _⟩ := hpr j zs[j] (List.getElem?_eq_getElem hj)
    refine ⟨T, e1, ?_⟩
    have : ∀ {ps : List Addr} {kvs : List (Key × V)}, Paired (fun p kv => H p = some (.tup [kV kv.1, kv.2])) ps kvs → ∀ T ∈ ps, ∃ k y, H T = some (.tup [kV k, y]) := by
      intro ps kvs h
      induction h with
      | nil => intro T h; cases h
      | cons h t ih =>
        intro T hT
        rcases List.mem_cons.mp hT with e | hT
        · subst e; exact ⟨_, _, h⟩
        · exact ih T hT
    obtain ⟨k, y, z⟩ := this hp T (List.mem_of_getElem? e1)
    rw [z]
    intro z2; cases z2
  refine call_update_pairs (knd := L2.mixKind X.prog X.w) (acc := vs0) (kvs := zs.map fun x => (x.1, x.2.2)) (PairArg.list a (ps.map Value.ref).toArray (fun j => ps.getD j 0) (zs.map fun x => (x.2.1, x.2.2))) (I.ok.hd hc) ⟨⟨o, n, ho, hcl, hdn, hdat⟩, by simp [hl], fun j k v e => ?_⟩ (fun z => ?_) ⟨by simp, fun i key v e => ?_⟩ dof (by
    rw [List.length_map, hl, ← rel0.length]; exact hsz) fun h' tk hd' hk => ?_
  · rw [List.getElem?_map] at e
    obtain ⟨x, e1, e2⟩ := Option.map_eq_some_iff.mp e
    cases e2
    obtain ⟨T, e3, e4, _⟩ := hpr j x e1
    have e5 : ps.getD j 0 = T := by simp [List.getD, e3]
    refine ⟨?_, by dsimp only; rw [e5]; exact .inl e4⟩
    dsimp only
    rw [e5]
    simp [e3]
  · rcases List.mem_cons.mp z with e | z
    · rw [e] at hd
      rcases ha with ha | ⟨ob, ha⟩ <;> rw [hd] at ha <;> cases ha
    · obtain ⟨j, hj, e⟩ := List.mem_map.mp z
      rw [List.mem_range, List.length_map] at hj
      obtain ⟨T, e1, e2⟩ := hmem j hj
      have e5 : ps.getD j 0 = T := by simp [List.getD, e1]
      rw [e5] at e
      rw [e] at e2
      exact e2 hd
  · have e : (zs.map fun x => (x.2.1, x.2.2))[i]? = some (key, v) := e
    rw [List.getElem?_map] at e
    obtain ⟨x, e1, e2⟩ := Option.map_eq_some_iff.mp e
    cases e2
    obtain ⟨T, _, _, e6⟩ := hpr i x e1
    exact ⟨x.1, by rw [List.getElem?_map, e1]; rfl, e6⟩
  · have hlen : (mrg kvs0 kvs).length ≤ sizeLine := by
      refine Nat.le_trans (mrg_len kvs kvs0) ?_
      have : kvs.length = ps.length := by rw [← hl, kv.length, List.length_map]
      rw [this]; exact hsz
    have he : ∃ q, h'.get? d = some q := let ⟨q, _, _, hq, _⟩ := hd'; ⟨q, hq⟩
    refine ⟨.non, upd H d (.dK (mrg kvs0 kvs)), I.write (x := d) (e := d) (t' := tk) (by rw [hd]; trivial) (.inl rfl) (fun b u hb e => hk b u hb (fun z => nomatch z) e) he (L2.dk_new hlen hsys (L2.KV.merge kv rel0) hd'), rfl, q⟩
end
section
variable {p : Par} {H : Hp}
theorem pairs_rep : ∀ {l : List D} {prs : List (D × D)} {vs : List V}, pairsOf l = some prs → RepL p H l vs → ∃ ts : List (Addr × V × V), vs = ts.map (fun t => V.ref t.1) ∧ (∀ t ∈ ts, H t.1 = some (.tup [t.2.1, t.2.2])) ∧ RepL p H (prs.map (·.1)) (ts.map (·.2.1)) ∧ RepL p H (prs.map (·.2)) (ts.map (·.2.2))
  | [], prs, vs, h, r => by cases h; exact ⟨[], r, (fun t h => by cases h), rfl, rfl⟩
  | d :: l, prs, vs, h, r => by
    obtain ⟨v, w, e, h1, h2⟩ := r
    subst e
    cases d with
    | tup k =>
      cases k with
      | nil => cases h
      | cons a k => cases k with
        | nil => cases h
        | cons b k => cases k with
          | cons _ _ => cases h
          | nil =>
            obtain ⟨prs', e1, e2⟩ := Option.map_eq_some_iff.mp (show (pairsOf l).map ((a, b) :: ·) = some prs from h)
            subst e2
            obtain ⟨ts, f1, f2, f3, f4⟩ := pairs_rep e1 h2
            obtain ⟨T, ws, g1, g2, u1, ws1, g3, g4, u2, ws2, g5, g6, g7⟩ := h1
            subst g1 g3 g5
            have g7 : ws2 = [] := g7
            subst g7
            refine ⟨(T, u1, u2) :: ts, by rw [f1]; rfl, fun t ht => ?_, ⟨u1, _, rfl, g4, f3⟩, ⟨u2, _, rfl, g6, f4⟩⟩
            rcases List.mem_cons.mp ht with e | ht
            · subst e; exact g2
            · exact f2 t ht
    | _ => cases h
theorem mkK : ∀ {prs : List (D × D)} {ts : List (Addr × V × V)}, (∀ q ∈ prs, flatKey q.1 = true) → RepL p H (prs.map (·.1)) (ts.map (·.2.1)) → (∀ t ∈ ts, H t.1 = some (.tup [t.2.1, t.2.2])) →
    ∃ more : List (Key × V), prs.map (·.1) = more.map (fun q => keyD q.1) ∧ ts.map (·.2.2) = more.map (·.2) ∧ Paired (fun p kv => H p = some (.tup [kV kv.1, kv.2])) (ts.map (·.1)) more
  | [], ts, _, r, _ => by
    cases ts with
    | nil => exact ⟨[], rfl, rfl, .nil⟩
    | cons _ _ => cases r
  | q :: prs, ts, hf, r, ht => by
    cases ts with
    | nil => obtain ⟨_, _, e, _⟩ := r; cases e
    | cons t ts =>
      obtain ⟨v, w, e, h1, h2⟩ := r
      cases e
      dsimp only at h1
      obtain ⟨more, e1, e2, e3⟩ := mkK (fun q hq => hf q (List.mem_cons_of_mem _ hq)) h2 (fun t h => ht t (List.mem_cons_of_mem _ h))
      have hk := hf q List.mem_cons_self
      have : ∃ k : Key, q.1 = keyD k ∧ t.2.1 = kV k := by
        cases hq : q.1 with
        | int i => rw [hq] at h1; exact ⟨.inl i, rfl, h1⟩
        | str i => rw [hq] at h1; exact ⟨.inr i, rfl, h1⟩
        | _ => rw [hq] at hk; cases hk
      obtain ⟨k, k1, k2⟩ := this
      refine ⟨(k, t.2.2) :: more, by rw [List.map_cons, List.map_cons, e1, k1], by rw [List.map_cons, List.map_cons, e2], .cons ?_ e3⟩
      rw [← k2]
      exact ht t List.mem_cons_self
theorem mkT : ∀ {prs : List (D × D)} {ts : List (Addr × V × V)}, (∀ q ∈ prs, isKey q.1 = true ∧ flatKey q.1 = false) → RepL p H (prs.map (·.1)) (ts.map (·.2.1)) → (∀ t ∈ ts, H t.1 = some (.tup [t.2.1, t.2.2])) →
    ∃ more : List (List Key × V), prs.map (·.1) = more.map (fun q => .tup (q.1.map keyD)) ∧ ts.map (·.2.2) = more.map (·.2) ∧ Paired (fun p kv => ∃ b, H p = some (.tup [.ref b, kv.2]) ∧ H b = some (.tup (kv.1.map kV))) (ts.map (·.1)) more
  | [], ts, _, r, _ => by
    cases ts with
    | nil => exact ⟨[], rfl, rfl, .nil⟩
    | cons _ _ => cases r
  | q :: prs, ts, hf, r, ht => by
    cases ts with
    | nil => obtain ⟨_, _, e, _⟩ := r; cases e
    | cons t ts =>
      obtain ⟨v, w, e, h1, h2⟩ := r
      cases e
      dsimp only at h1
      obtain ⟨more, e1, e2, e3⟩ := mkT (fun q hq => hf q (List.mem_cons_of_mem _ hq)) h2 (fun t h => ht t (List.mem_cons_of_mem _ h))
      obtain ⟨hk1, hk2⟩ := hf q List.mem_cons_self
      rcases rep_key h1 hk1 with ⟨k, k1, k2⟩ | ⟨k, b, k1, k2, k3⟩
      · rw [k1] at hk2
        cases k <;> cases hk2
      · refine ⟨(k, t.2.2) :: more, by rw [List.map_cons, List.map_cons, e1, k1], by rw [List.map_cons, List.map_cons, e2], .cons ⟨b, ?_, k3⟩ e3⟩
        rw [← k2]
        exact ht t List.mem_cons_self
end
end Eng
end

section
set_option linter.all false
set_option maxRecDepth 100000
namespace Eng
open PySem PySem.Spec PyProof.Rows
open L2 (V HO Hp VK TE TS TA TT TI TG TGs TSet PGs PSet WX XK SqL SqT Rd upd upd_same upd_ne upd_upd Key kV Mut RelV Vals Inv Cx PE PS PT PW PA PI PG PSs PTs Takes tVar tNil tCons tOp Vis Loc Gl Room OpR R2 EP Dp DpAll TruR TruV IxR CallR FnOk Sp Ends PassesAt BlkOk DPut valV SlR MtR KT KV)
section
variable {Dw : Wd} {n : Nat} {S : Sx} {X : Cx} {Γ : Gm} {W : WX} {v : Ev} {m : Mod} {c : Nat}
def rDict (K : PySem.W.Frag) : List V → Hp → VK → Prop := fun xs H Q => (∃ (a : Addr) (ps : List Addr) (kvs : List (Key × V)), xs = [.ref a] ∧ SqL K H a (ps.map V.ref) ∧ Paired (fun p kv => SqT K H p [kV kv.1, kv.2]) ps kvs ∧ ∀ p, H p = none → Q (.ref p) (upd H p (.dK (mrg [] kvs)))) ∨
  (∃ (a : Addr) (ps : List Addr) (kvs : List (List Key × V)), xs = [.ref a] ∧ SqL K H a (ps.map V.ref) ∧ Paired (fun p kv => ∃ b, H p = some (.tup [.ref b, kv.2]) ∧ H b = some (.tup (kv.1.map kV))) ps kvs ∧ ∀ q, H q = none → Q (.ref q) (upd H q (.dT (mrg [] kvs))))
theorem cr_dict {X : Cx} (hc : X.calm = true) (hu : X.A.units + 70 < cLine) : CallR X (.type "dict") (rDict X.K) := CallR.or (L2.call_dictP hc) (cr_dictT hc (by omega))
theorem paired_mono {α β : Type} {P Q : α → β → Prop} (h : ∀ a b, P a b → Q a b) : ∀ {as : List α} {bs : List β}, Paired P as bs → Paired Q as bs
  | _, _, .nil => .nil
  | _, _, .cons x t => .cons (h _ _ x) (paired_mono h t)
theorem dict_ok {H : Hp} {env : Env} {σ : L2.St} {Fs : Nat → List Addr} {ts tl : List Tmp} {Q : VK} {l : List D} {prs : List (D × D)} {r : List D × List D} {k : Nat} {u : V} {F : List Addr} (s : SR Γ H env σ Fs (tl ++ ts)) (o : Own Γ.p H k (.lst l) u F) (hs : shareOk (.lst l) k = true) (h1 : pairsOf l = some prs) (h2 : dupd [] [] prs = some r)
    (q : PR Γ W σ ts Q (.ok (.dic r.1 r.2) 1 env)) : rDict Γ.p.K [u] H Q := by
  obtain ⟨a, vs, e1, r1, rl⟩ := own_lstR o hs
  obtain ⟨ws, f1, f2, f3, f4⟩ := pairs_rep h1 rl
  subst e1 f1
  have e0 : ws.map (fun t => V.ref t.1) = (ws.map (·.1)).map V.ref := by rw [List.map_map]; rfl
  rw [e0] at r1
  have flat : (∀ q ∈ prs, flatKey q.1 = true) → rDict Γ.p.K [.ref a] H Q := fun hf => by
    obtain ⟨more, g1, g2, g3⟩ := mkK hf f3 f2
    rw [g2] at f4
    obtain ⟨k1, k2, k3⟩ := dupd_G (κ := Key) (f := keyD) (fun a b => eqv_keyD) prs (more := more) (kvs := []) (vs := []) g1 f4 .nil rfl h2
    refine .inl ⟨a, _, more, rfl, .inl r1, paired_mono (fun a b h => .inl (.inl h)) g3, fun p hp => resD s q hp ⟨?_, .inl ⟨_, rfl, k1, rfl⟩⟩ k2⟩
    rw [k1]
    have := nodup_map (f := keyD) (fun a b => keyD_inj) k3
    rw [List.map_map] at this
    exact this
  cases prs with
  | nil => exact flat (fun q h => by cases h)
  | cons pr rest =>
    obtain ⟨k0, d0⟩ := pr
    have h2' := h2
    unfold dupd at h2'
    split at h2'
    · rename_i hk
      have hk0 := keyFor_ok (and_ok hk).1
      have h3 : dupd [k0] [d0] rest = some r := h2'
      have kind := dupd_kind rest (a := k0) (ks := []) (vs := [d0]) hk0 rfl h3
      cases hfl : flatKey k0 with
      | true =>
        refine flat fun q hq => ?_
        rcases List.mem_cons.mp hq with e | hq
        · subst e; exact hfl
        · rw [(kind q hq).2]; exact hfl
      | false =>
        obtain ⟨more, g1, g2, g3⟩ := mkT (fun q hq => by
          rcases List.mem_cons.mp hq with e | hq
          · subst e; exact ⟨hk0, hfl⟩
          · exact ⟨(kind q hq).1, by rw [(kind q hq).2]; exact hfl⟩) f3 f2
        rw [g2] at f4
        obtain ⟨k1, k2, k3⟩ := dupd_G (κ := List Key) (f := fun q => D.tup (q.map keyD)) (fun a b => by
          show D.eqvL (a.map keyD) (b.map keyD) = _
          exact eqv_keyDs) ((k0, d0) :: rest) (more := more) (kvs := []) (vs := []) g1 f4 .nil rfl h2
        refine .inr ⟨a, _, more, rfl, .inl r1, g3, fun p hp => resD s q hp ⟨?_, .inr ⟨_, rfl, k1, rfl, fun z => ?_⟩⟩ k2⟩
        · rw [k1]
          have := nodup_map (f := fun p : List Key => D.tup (p.map keyD)) (fun a b e => keyDs_inj (by injection e)) k3
          rw [List.map_map] at this
          exact this
        · rw [z] at k1
          have : r.1 ≠ [] := by
            have hh : ∀ (prs : List (D × D)) {a : D} {ks vs : List D} {r : List D × List D}, (a :: ks).length = vs.length → dupd (a :: ks) vs prs = some r → r.1 ≠ [] := by
              intro prs
              induction prs with
              | nil => intro a ks vs r _ h; cases h; simp
              | cons pr prs ih =>
                intro a ks vs r hl h
                obtain ⟨k, d⟩ := pr
                unfold dupd at h
                split at h
                · obtain ⟨l, e1, e2⟩ := dset_head (k := k) (d := d) hl
                  dsimp only at h
                  rw [e1] at h e2
                  exact ih e2 h
                · cases h
            exact hh rest (a := k0) (ks := []) (vs := [d0]) rfl h3
          exact this k1
    · cases h2'
theorem nd_dictP {a : E} {ea : Expr} {x : Str} {p pos : Pos} (C : Ctx Dw n S X Γ W) (hot : S.hot = false) (hx : S.blt "dict" x = true) (ha : PE X ea (tO v Γ W 1 a)) (hs : notStar ea = true) : PE X (.Call (.Name x p) [ea] [] pos) (tE (step m v) Γ W (.bi .dict [a])) := by
  obtain ⟨e1, hg, hd, hm⟩ := C.blt hx
  subst e1
  have hK : X.K = Γ.p.K := by rw [C.K, C.pK]
  refine pe_mono (L2.pe_callTy (cr_dict (C.calm hot) C.un) hg hm rfl (L2.pa_cons ha L2.pa_nil (star_ok hs)) (by decide) (by decide) (star_ok hs) (by rfl)) fun σ H Q ⟨env, Fs, ts, s, q⟩ => ?_
  have q : PR Γ W σ ts Q (ops v 1 [a] env fun ds env => okO (bfn .dict ds) env) := q
  have z := ops_run (Q' := fun us H3 => rDict X.K us H3 Q) s q fun ds dsP env' us H' Fs' tl s' op hp q' => by
    have vw := opv op s' hp
    obtain ⟨u1, e⟩ := one_of (l := us) op.len
    subst e
    cases vw with | @cons d1 n1 _ F1 _ _ o1 vw => cases vw with | nil =>
    cases d1 with
    | lst l =>
      have e : bfn .dict [(.lst l, n1)] = if shareOk (.lst l) n1 then (pairsOf l).bind fun l => (dupd [] [] l).map fun r => (.dic r.1 r.2, 1) else none := rfl
      rw [e] at q'
      cases hs2 : shareOk (.lst l) n1 with
      | false => rw [hs2] at q'; exact q'.elim
      | true =>
        rw [hs2, if_pos rfl] at q'
        cases h1 : pairsOf l with
        | none => rw [h1] at q'; exact q'.elim
        | some prs =>
          rw [h1] at q'
          cases h2 : dupd [] [] prs with
          | none => rw [Option.bind_some, h2] at q'; exact q'.elim
          | some r => rw [Option.bind_some, h2] at q'; rw [hK]; exact dict_ok s' o1 hs2 h1 h2 q'
    | _ => exact q'.elim
  exact z
end
end Eng
end

section
set_option linter.all false
set_option maxRecDepth 100000
namespace Eng
open PySem PySem.Spec PyProof.Rows
open L2 (V HO Hp VK TE TS TA TT TI TG TGs TSet PGs PSet WX XK SqL SqT Rd upd upd_same upd_ne upd_upd Key kV Mut RelV Vals Inv Cx PE PS PT PW PA PI PG PSs PTs Takes tVar tNil tCons tOp Vis Loc Gl Room OpR R2 EP Dp DpAll TruR TruV IxR CallR FnOk Sp Ends PassesAt BlkOk DPut valV SlR MtR KT KV)
section
variable {Dw : Wd} {n : Nat} {S : Sx} {X : Cx} {Γ : Gm} {W : WX} {v : Ev} {m : Mod} {c : Nat}
/-! ### x.update(pairs), x an owned dict of level one -/
theorem ns_upd {i : Nat} {e : E} {x : Str} {p apos cpos pos : Pos} {ee : Expr} (C : Ctx Dw n S X Γ W) (hot : S.hot = false) (hne : isPl e = none) (hx : S.slot i x = true) (he : PE X ee (tO v Γ W 1 e)) (hs : notStar ee = true) (hline : (apos.endLine == cpos.line) = true) :
    PS X (.Expr (.Call (.Attribute (.Name x p) "update" apos) [ee] [] cpos) pos) (tS1 v m Γ W (.upd i e)) := by
  have st : starEach [ee] X.env = (false, eval ee X.env) :: starEach [] X.env := star_ok hs
  have hcall := L2.pe_bm (T := "dict") (id := "dict.update") (cpos := cpos) (apos := apos) PySem.F.plainAttrs_dict PySem.F.slot_dict_update (by rfl) (mt_upd (C.calm hot)) (C.slot (pos := p) hx) (L2.pa_cons he L2.pa_nil st) (by rfl) (by rw [st]; rfl) hline st (by rfl)
  refine ⟨fun pins s σ H D I ⟨env, Fs, ts, r, q⟩ => (L2.ps_expr hcall (by rfl)).run pins s σ H D I ?_⟩
  have q : PF Γ W ts D (if (match getS env i with | some (.dic ks _, n) => n != 1 || !ks.all flatKey | _ => true) then .bad else opsF v 1 [e] env fun ds env => match ds, getS env i with
    | [(d, m)], some (.dic ks vs, n) => if n != 1 || !ks.all flatKey then .bad else if shareOk d m then (match (match d with | .lst l => pairsOf l | _ => none) with
      | some l => if ks.length + l.length ≤ SZ && l.all (fun p => flatKey p.1) then nxO ((dupd ks vs l).map fun r => setS env i (some (.dic r.1 r.2, n))) else .bad
      | none => .bad) else .bad
    | _, _ => .bad) := q
  cases hg : getS env i with
  | none => rw [hg] at q; exact q.elim
  | some c0 =>
  obtain ⟨d0, n0⟩ := c0
  rw [hg] at q
  cases d0 with
  | dic ks0 vs0 =>
    dsimp only at q
    by_cases h0 : (n0 != 1 || !ks0.all flatKey) = true
    · rw [if_pos h0] at q; exact q.elim
    rw [if_neg h0] at q
    simp only [Bool.or_eq_true, bne_iff_ne, ne_eq, Bool.not_eq_eq_eq_not, Bool.not_true, not_or, Decidable.not_not, Bool.not_eq_false] at h0
    obtain ⟨h01, h02⟩ := h0
    subst h01
    obtain ⟨o, ho, own⟩ := r.at_ i _ _ hg
    rcases own with ⟨z, _⟩ | ⟨m0, D0, vs', u', G', z1, n9, z2, z3, z4, _⟩
    · cases z
    subst z2
    obtain ⟨kvs0, e1, e2, e3⟩ := z4.flat h02
    subst e1
    refine ⟨.ref D0, ho, .inr (.inr (.inl ⟨rfl, .inl ⟨kvs0, z3⟩⟩)), ?_⟩
    refine opsF_run r q fun ds dsP env' us H' Fs' tl s' op hp q2 => ?_
    have vw := opv op s' hp
    cases op with
    | pl h => rw [hne] at h; cases h
    | val h op2 =>
      cases op2
      cases vw with | @cons d1 n1 u1 F1 _ _ o1 vw => cases vw with | nil =>
      cases hge : getS env' i with
      | none => rw [hge] at q2; exact q2.elim
      | some cn =>
      obtain ⟨cc, cn⟩ := cn
      rw [hge] at q2
      cases cc with
      | dic ks vs =>
        dsimp only at q2
        by_cases h1 : (cn != 1 || !ks.all flatKey) = true
        · rw [if_pos h1] at q2; exact q2.elim
        rw [if_neg h1] at q2
        simp only [Bool.or_eq_true, bne_iff_ne, ne_eq, Bool.not_eq_eq_eq_not, Bool.not_true, not_or, Decidable.not_not, Bool.not_eq_false] at h1
        obtain ⟨h11, h12⟩ := h1
        subst h11
        cases hsh : shareOk d1 n1 with
        | false => rw [hsh] at q2; exact q2.elim
        | true =>
        rw [hsh, if_pos rfl] at q2
        cases d1 with
        | lst l =>
          dsimp only at q2
          cases hpr : pairsOf l with
          | none => rw [hpr] at q2; exact q2.elim
          | some prs =>
          rw [hpr] at q2
          dsimp only at q2
          by_cases hz : (decide (ks.length + prs.length ≤ SZ) && prs.all (fun p => flatKey p.1)) = true
          · rw [if_pos hz] at q2
            obtain ⟨hz1, hz2⟩ := and_ok hz
            have hz1 := of_decide_eq_true hz1
            cases hdu : dupd ks vs prs with
            | none => rw [hdu] at q2; exact q2.elim
            | some rr =>
            rw [hdu] at q2
            have q2 : PF Γ W ts D (.nx (setS env' i (some (.dic rr.1 rr.2, 1)))) := q2
            obtain ⟨a, ws0, g1, g2, g3⟩ := own_lstR o1 hsh
            obtain ⟨tws, f1, f2, f3, f4⟩ := pairs_rep hpr g3
            subst g1 f1
            obtain ⟨more, k1, k2, k3⟩ := mkK (fun q hq => List.all_eq_true.mp hz2 q hq) f3 f2
            rw [k2] at f4
            have s1 := s'.mov hge ho
            obtain ⟨mm, tws2, u2, y1, y8, y2, y3, y4, y5, s2, w1, w2, w3, w4⟩ := s1.unpackD (by omega)
            have hm0 : mm = 0 := by omega
            subst hm0
            obtain ⟨kvs1, e4, e5, e6⟩ := y3.flat h12
            subst e4
            have rv0 : RepL Γ.p H' vs (kvs1.map (·.2)) := by
              rw [← y4, ← e6]
              exact repL_tmp tws2 s2 fun t ht => ⟨0, by rw [y5 t ht]; rfl⟩
            have nd1 : (kvs1.map (·.1)).Nodup := by
              have := y3.1
              rw [e5] at this
              exact nodup_of_map (f := keyD) (by rw [List.map_map]; exact this)
            rw [e5] at hdu
            obtain ⟨j1, j2, j3⟩ := dupd_G (κ := Key) (f := keyD) (fun a b => eqv_keyD) prs (more := more) (kvs := kvs1) (vs := vs) k1 f4 nd1 rv0 hdu
            have e0 : tws.map (fun t => V.ref t.1) = (tws.map (·.1)).map V.ref := by rw [List.map_map]; rfl
            rw [e0] at g2
            have l1 : kvs1.length = ks.length := by rw [e5, List.length_map]
            have l2 : (tws.map (·.1)).length = prs.length := by
              have := f3.len
              rw [List.length_map, List.length_map] at this
              rw [List.length_map, this]
            refine ⟨D0, a, tws.map (·.1), kvs1, more, rfl, rfl, y2, g2, k3, by rw [l1, l2]; exact Nat.le_trans hz1 SZ_le, ?_⟩
            have s3 : SR Γ H' (setS env' i none) σ (updF Fs' i []) ts := s2.sub ((List.sublist_append_right _ _).trans (List.sublist_append_right _ _))
            have w2' : ∀ t ∈ ts, D0 ∉ t.F := fun t ht => w2 t (List.mem_append_right _ ht)
            have hl : Lab (H' D0) := by rw [y2]; trivial
            have s4 := s3.updFree (u := .dK (mrg kvs1 more)) hl w2' w3 w4
            have r2 : RepL Γ.p (upd H' D0 (.dK (mrg kvs1 more))) rr.2 ((mrg kvs1 more).map (·.2)) := RepL.keep (fun b o e nm _ => by
              by_cases hb : b = D0
              · subst hb; rw [y2] at e; cases e; exact absurd trivial nm
              · rw [upd_ne hb]; exact e) j2
            have du : DicU rr.1 ((mrg kvs1 more).map (·.2)) (.dK (mrg kvs1 more)) := ⟨by
              rw [j1]
              have := nodup_map (f := keyD) (fun a b => keyD_inj) j3
              rw [List.map_map] at this
              exact this, .inl ⟨_, rfl, j1, rfl⟩⟩
            have s5 := s4.push (t := ⟨.dic rr.1 rr.2, 1, .ref D0, [D0]⟩) (.inr ⟨0, D0, _, _, [], rfl, by omega, rfl, upd_same, du, ownL_0 r2, rfl⟩) (by simp) (fun t ht b hb hb' => by
              rw [List.mem_singleton.mp hb] at hb'; exact w2' t ht hb') (fun j b hb hb' => by rw [List.mem_singleton.mp hb] at hb'; exact w3 j hb') (fun b hb => by rw [List.mem_singleton.mp hb]; exact w4)
            have s6 := s5.back (i := i) (List.getElem?_eq_some_iff.mp ho).1 ho
            rw [setS_setS] at s6
            exact q2 σ _ _ s6
          · rw [if_neg hz] at q2; exact q2.elim
        | _ => exact q2.elim
      | _ => exact q2.elim
  | _ => exact q.elim
end
end Eng
end

section
set_option linter.all false
set_option maxRecDepth 100000
namespace Eng
open PySem PySem.Spec PyProof.Rows
open L2 (V HO Hp VK TE TS TA TT TI TG TGs TSet PGs PSet WX XK SqL SqT Rd upd upd_same upd_ne upd_upd Key kV Mut RelV Vals Inv Cx PE PS PT PW PA PI PG PSs PTs Takes tVar tNil tCons tOp Vis Loc Gl Room OpR R2 EP Dp DpAll TruR TruV IxR CallR FnOk Sp Ends PassesAt BlkOk DPut valV SlR MtR KT KV)
section
variable {Dw : Wd} {n : Nat} {S : Sx} {X : Cx} {Γ : Gm} {W : WX} {v : Ev} {m : Mod} {c : Nat}
/-! ### rows + rows, both owned -/
theorem nd_catl {a b : E} {ea eb : Expr} {pos : Pos} (hna : isPl a = none) (hnb : isPl b = none) (ha : PE X ea (tO v Γ W 7 a)) (hb : PE X eb (tO v Γ W 7 b)) : PE X (.BinOp ea .Add eb pos) (tE (step m v) Γ W (.catl a b)) := by
  refine pe_mono (pe_lkS (L2.pe_op (op_catR (X := X)) ha hb)) fun σ H Q ⟨env, Fs, ts, s, q⟩ => ?_
  have q : PR Γ W σ ts Q (ops v 7 [a, b] env fun ds env => match ds with
    | [(.lst a, n), (.lst b, k)] => if a.length + b.length ≤ SZ && (1 ≤ n && (n < 9 && (1 ≤ k && k < 9))) then .ok (.lst (a ++ b)) (min n k) env else .bad
    | _ => .bad) := q
  have z := ops_run (Q' := fun us H3 => match us with | [x, y] => rCatR x y H3 (fun v H1 => Lk (Q v) H1) | _ => False) s q fun ds dsP env' us H' Fs' tl s' op hp q' => by
    obtain ⟨i1, i2, i3, i4⟩ := op.np (by simp [hna, hnb])
    rw [i4] at hp
    cases hp
    obtain ⟨t1, t2, e4⟩ := two_of (l := tl) (by have := op.len; rw [i2, List.length_map] at this; exact this)
    subst e4 i1 i2
    obtain ⟨d1, n1, v1, F1⟩ := t1
    obtain ⟨d2, n2, v2, F2⟩ := t2
    cases d1 with
    | lst la =>
      cases d2 with
      | lst lb =>
        have q2 : PR Γ W σ ts Q (if la.length + lb.length ≤ SZ && (1 ≤ n1 && (n1 < 9 && (1 ≤ n2 && n2 < 9))) then .ok (.lst (la ++ lb)) (min n1 n2) env' else .bad) := q'
        by_cases hc : (decide (la.length + lb.length ≤ SZ) && (decide (1 ≤ n1) && (decide (n1 < 9) && (decide (1 ≤ n2) && decide (n2 < 9))))) = true
        · rw [if_pos hc] at q2
          simp only [Bool.and_eq_true, decide_eq_true_eq] at hc
          obtain ⟨c1, c2, c3, c4, c5⟩ := hc
          have s' : SR Γ H' env' σ Fs' (⟨.lst la, n1, v1, F1⟩ :: ⟨.lst lb, n2, v2, F2⟩ :: ts) := s'
          rcases s'.tmp _ List.mem_cons_self with ⟨z, _⟩ | ⟨m1, A, vs1, G1, _, _, y3, y4, _⟩
          · dsimp only at z; omega
          rcases s'.tmp _ (List.mem_cons_of_mem _ List.mem_cons_self) with ⟨z, _⟩ | ⟨m2, B, vs2, G2, _, _, x3, x4, _⟩
          · dsimp only at z; omega
          have y3 : v1 = .ref A := y3
          have x3 : v2 = .ref B := x3
          subst y3 x3
          obtain ⟨k1, tl1, g1, g2, g3, g4, g5, s1, _⟩ := s'.unpack (by omega)
          have s1' : SR Γ H' env' σ Fs' (⟨.lst lb, n2, .ref B, F2⟩ :: (tl1 ++ ts)) := s1.perm List.perm_middle
          obtain ⟨k2, tl2, j1, j2, j3, j4, j5, s2, _⟩ := s1'.unpack (by omega)
          have s3 : SR Γ H' env' σ Fs' ((tl1 ++ tl2) ++ ts) := s2.perm (by
            rw [← List.append_assoc]
            exact List.Perm.append_right _ List.perm_append_comm)
          have l1 : tl1.length = la.length := by rw [← g4, List.length_map]
          have l2 : tl2.length = lb.length := by rw [← j4, List.length_map]
          refine ⟨A, B, _, _, rfl, rfl, .inl g3, .inl j3, ?_, fun p hp => ?_⟩
          · rw [List.length_map, List.length_map, l1, l2]; exact Nat.le_trans c1 SZ_le
          have fr := s3.free hp
          have s4 : SR Γ (upd H' p (.lst (tl1.map (·.v) ++ tl2.map (·.v)))) env' σ Fs' ((tl1 ++ tl2) ++ ([] ++ ts)) := s3.new hp
          refine SR.capS (m := min n1 n2 - 1) (by omega) (tl1 ++ tl2) [] s4 fun H2 tl' cc st s5 => ?_
          have c2' := cc.ds
          have np : ∀ t ∈ tl1 ++ tl2, p ∉ t.F := fun t ht => fr.2 t (List.mem_append_left _ ht)
          have hp2 : H2 p = some (.lst (tl'.map (·.v))) := by rw [st p np, upd_same, c2'.2, List.map_append]
          have s6 := SR.pack (tl := tl') (p := p) s5 (m := min n1 n2 - 1) (by omega) (fun t' ht' => ?_) hp2 (fun t' ht' hb => ?_) (fun t ht => fr.2 t (List.mem_append_right _ ht)) fr.1 (s3.fresh hp)
          · rw [c2'.1, List.map_append, g4, j4, show min n1 n2 - 1 + 1 = min n1 n2 by omega] at s6
            exact q2 _ H2 _ Fs' s6
          · obtain ⟨t, ht, e, _⟩ := cc.mem t' ht'
            rw [e]
            have hn : t.n = n1 - 1 ∨ t.n = n2 - 1 := by
              rcases List.mem_append.mp ht with h | h
              · left; rw [g5 t h]; omega
              · right; rw [j5 t h]; omega
            unfold capN
            split
            · exact .inr rfl
            · left; omega
          · obtain ⟨t, ht, _, hF⟩ := cc.mem t' ht'
            exact np t ht (hF p hb)
        · rw [if_neg hc] at q2; exact q2.elim
      | _ => exact q'.elim
    | _ => exact q'.elim
  exact z
end
end Eng
end

section
set_option linter.all false
set_option maxRecDepth 100000
namespace Eng
open PySem PySem.Spec PyProof.Rows
open L2 (V HO Hp VK TE TS TA TT TI TG TGs TSet PGs PSet WX XK SqL SqT Rd upd upd_same upd_ne upd_upd Key kV Mut RelV Vals Inv Cx PE PS PT PW PA PI PG PSs PTs Takes tVar tNil tCons tOp Vis Loc Gl Room OpR R2 EP Dp DpAll TruR TruV IxR CallR FnOk Sp Ends PassesAt BlkOk DPut valV SlR MtR)
/-! ### comprehensions of two clauses, without tests -/
theorem wipe_wipe {σ : L2.St} {own own1 : List Nat} (h : ∀ i ∈ own1, i ∈ own) : L2.wipe (L2.wipe σ own1) own = L2.wipe σ own := by
  apply List.ext_getElem?
  intro j
  rw [wipe_get, wipe_get, wipe_get, L2.wipe_length]
  by_cases hj : j ∈ own ∧ j < σ.length
  · rw [if_pos hj, if_pos hj]
  · rw [if_neg hj, if_neg hj, if_neg (fun z => hj ⟨h _ z.1, z.2⟩)]
theorem pi_any {X : Cx} {Γ : Gm} {v : Ev} {t e : Expr} {i : Eng.It} (h : ∀ H L, PI X t e (tI v (Γ.at H L) noX i)) : PI X t e (fun σ H R => ∃ H1 L, tI v (Γ.at H1 L) noX i σ H R) := ⟨fun pins s σ H R I ⟨H1, L, q⟩ => (h H1 L).run pins s σ H R I q⟩
abbrev accT (acc : List (D × Nat)) (D0 : Addr) (F : List Addr) : Tmp := ⟨.lst (acc.reverse.map (·.1)), lstLv acc, .ref D0, F⟩
section
variable {Dw : Wd} {n : Nat} {S : Sx} {X : Cx} {Γ : Gm} {W : WX} {v : Ev} {m : Mod} {c : Nat}
theorem lc_in {own1 : List Nat} {elt : E} {t1 : T} {i1 : Eng.It} {Ha : Hp} {La : List Addr} {σ2 : L2.St} {H : Hp} {env : Env} {Fs : Nat → List Addr} {us rest : List Tmp} {acc : List (D × Nat)} {D0 : Addr} {F : List Addr} {K : RL → Prop} {Nx : Hp → Prop}
    (hpin : ∀ i ∈ own1, ∀ q ∈ Γ.pin, q.1 ≠ i) (hsl : ∀ i ∈ tSlots t1, i ∈ own1)
    (s : SR (Γ.at Ha La) H env σ2 Fs (us ++ (accT acc D0 F :: rest))) (hb : ¬ K .bad) (hx : ∀ c a e, ¬ K (.ex c a e)) (q : K (lcIn v own1 elt t1 i1 [] acc env))
    (hK : ∀ acc' env' H' F' Fs', K (.ok acc' env') → SR (Γ.at Ha La) H' env' (L2.wipe σ2 own1) Fs' (us ++ (accT acc' D0 F' :: rest)) → Nx H') :
    tI v (Γ.at Ha La) noX i1 σ2 H (fun J1 H4 => ∃ W1 : Nat → Nat → Hp → Prop, (∃ m, W1 0 m H4) ∧ ∀ j k H, W1 j k H →
      (J1.stop j H ∧ Nx H) ∨ (J1.go j H ∧ ∃ Nx1 : Hp → Prop, (∀ H', Nx1 H' → ∃ k', k' < k ∧ W1 (j + 1) k' H') ∧ ∀ x H', J1.yld j H x H' → (fun u σ H Q => ∃ H1 L, tG (Γ.at H1 L) t1 u σ H Q) x (L2.wipe σ2 own1) H' fun σ3 H5 => L2.wipe σ3 own1 = L2.wipe σ2 own1 ∧ L2.tYes σ3 H5 fun b H6 =>
        if b = true then (tLkS (fun σ H Q => ∃ H1 L, tE v (Γ.at H1 L) noX elt σ H Q)) σ3 H6 fun y H7 => ∃ acc, H7 D0 = some (.lst acc) ∧ acc.length < sizeLine ∧ Nx1 (upd H7 D0 (.lst (acc ++ [y]))) else Nx1 H6)) := by
  refine ⟨env, Fs, _, s, ?_⟩
  unfold lcIn at q
  cases hr : v.it i1 env with
  | bad => rw [hr] at q; exact absurd q hb
  | ex c a env1 => rw [hr] at q; exact (hx _ _ _ q).elim
  | ok l env1 =>
    rw [hr] at q
    dsimp only at q
    intro J1 H4 Fs1 us1 s1 wk
    have wk0 := wk
    obtain ⟨H2a, L2a, eΓ⟩ : ∃ H2 L2, (Γ.at Ha La).at H4 (ownAll Fs1 (us1 ++ (us ++ (accT acc D0 F :: rest))) σ2.length) = Γ.at H2 L2 := ⟨_, _, rfl⟩
    have s1' := s1.enter
    rw [eΓ] at wk s1'
    have back : ∀ {H2 env2 σ3 Fs2 ts2}, SR (Γ.at H2a L2a) H2 env2 σ3 Fs2 ts2 → SR (Γ.at Ha La) H2 env2 σ3 Fs2 ts2 := fun s2 => s1.leave (by rw [eΓ]; exact s2)
    obtain ⟨Fs2, s2⟩ := SR.rewipe (Γ := Γ.at H2a L2a) own1 hpin s1'
    refine ⟨fun j k H => k = l.length - j ∧ j ≤ l.length ∧ ∃ env Fs acc F, SR (Γ.at H2a L2a) H (wipeS env own1) (L2.wipe σ2 own1) Fs (us1 ++ (us ++ (accT acc D0 F :: rest))) ∧ K (lcGo v own1 t1 [] (lcElt v elt) (l.drop j) acc env), ⟨_, rfl, Nat.zero_le _, env1, Fs2, acc, F, s2, q⟩, ?_⟩
    rintro j k H2 ⟨rfl, hjle, env2, Fs3, acc2, F2, s4, q2⟩
    obtain ⟨w1, w2, w3⟩ := wk j H2 _ _ Fs3 _ s4
    by_cases hlt : j < l.length
    · refine .inr ⟨w1 hlt, fun H' => ∃ env Fs acc F, SR (Γ.at H2a L2a) H' (wipeS env own1) (L2.wipe σ2 own1) Fs (us1 ++ (us ++ (accT acc D0 F :: rest))) ∧ K (lcGo v own1 t1 [] (lcElt v elt) (l.drop (j + 1)) acc env), fun H' x => ⟨l.length - (j + 1), by omega, rfl, hlt, x⟩, fun x H' hy => ?_⟩
      obtain ⟨y, hy1, s5⟩ := w3 x H' hlt hy
      have hd : l.drop j = y :: l.drop (j + 1) := by
        rw [List.drop_eq_getElem_cons hlt]
        congr 1
        rw [List.getElem?_eq_getElem hlt] at hy1
        exact Option.some.inj hy1
      rw [hd] at q2
      unfold lcGo at q2
      refine ⟨H2a, L2a, _, Fs3, _, y.1, y.2, [], s5, ?_⟩
      cases ha : asgT t1 y (wipeS env2 own1) with
      | none => rw [ha] at q2; exact absurd q2 hb
      | some env3 =>
        rw [ha] at q2
        dsimp only at q2 ⊢
        intro σ3 H3 Fs4 on s6
        have ew : L2.wipe σ3 own1 = L2.wipe σ2 own1 := wipe_only on hsl
        refine ⟨ew, ?_⟩
        unfold L2.tYes
        dsimp only
        rw [if_pos rfl]
        refine ⟨H2a, L2a, env3, Fs4, _, s6, ?_⟩
        have q3 : K (match lcElt v elt acc2 env3 with
          | .ok acc' env3 => lcGo v own1 t1 [] (lcElt v elt) (l.drop (j + 1)) acc' env3
          | r => r) := q2
        unfold lcElt at q3
        cases he2 : v.e elt env3 with
        | ex k a env5 => rw [he2] at q3; exact (hx k a env5 q3).elim
        | bad => rw [he2] at q3; exact absurd q3 hb
        | ok d kk env5 =>
          rw [he2] at q3
          dsimp only at q3
          intro u H5 G Fs6 s8
          by_cases hz : acc2.length < SZ
          · rw [if_pos hz] at q3
            dsimp only at q3
            have s9 : SR (Γ.at H2a L2a) H5 env5 σ3 Fs6 (⟨d, kk, u, G⟩ :: accT acc2 D0 F2 :: (us1 ++ (us ++ rest))) := s8.perm (.cons _ ((List.Perm.append_left us1 List.perm_middle).trans List.perm_middle))
            have hk9 : lstLv acc2 < 9 := by unfold lstLv; omega
            have hk0 : lstLv acc2 ≠ 0 := by unfold lstLv; omega
            refine s9.lcPush hk0 hk9 _ rfl fun H6 acc' F' e1 e2 s10 => ⟨acc', e1, ?_, ?_⟩
            · rw [e2]
              have : (acc2.reverse.map (·.1)).length = acc2.length := by simp
              rw [this]
              exact Nat.lt_of_lt_of_le hz SZ_le
            · obtain ⟨Fs7, s12⟩ := SR.rewipe (Γ := Γ.at H2a L2a) own1 hpin s10
              rw [ew] at s12
              have e3 : acc2.reverse.map (·.1) ++ [d] = ((d, kk) :: acc2).reverse.map (·.1) := by simp
              rw [e3, ← lst_lv (d, kk) acc2] at s12
              exact ⟨_, Fs7, (d, kk) :: acc2, F', s12.perm (List.perm_middle.symm.trans (List.Perm.append_left us1 List.perm_middle.symm)), q3⟩
          · rw [if_neg hz] at q3; exact absurd q3 hb
    · have e : j = l.length := by omega
      refine .inl ⟨w2 (by omega), ?_⟩
      rw [e, List.drop_length] at q2
      exact hK acc2 _ H2 F2 Fs3 q2 ((back s4).sub (List.sublist_append_right _ _))
end
end Eng
end

section
set_option linter.all false
set_option maxRecDepth 100000
namespace Eng
open PySem PySem.Spec PyProof.Rows
open L2 (V HO Hp VK TE TS TA TT TI TG TGs TSet PGs PSet WX XK SqL SqT Rd upd upd_same upd_ne upd_upd Key kV Mut RelV Vals Inv Cx PE PS PT PW PA PI PG PSs PTs Takes tVar tNil tCons tOp Vis Loc Gl Room OpR R2 EP Dp DpAll TruR TruV IxR CallR FnOk Sp Ends PassesAt BlkOk DPut valV SlR MtR)
section
variable {Dw : Wd} {n : Nat} {S : Sx} {X : Cx} {Γ : Gm} {W : WX} {v : Ev} {m : Mod} {c : Nat}
theorem lc2_imp {own own1 : List Nat} {ownp : List (Str × Nat)} {elt : E} {t t1 : T} {i i1 : Eng.It} (C : Ctx Dw n S X Γ W) (hown : ownp.map (·.2) = own) (nd : own.Nodup) (hp : ∀ i ∈ own, i ∉ S.pins) (hsl : ∀ i ∈ tSlots t, i ∈ own) (hsub : ∀ i ∈ own1, i ∈ own) (hsl1 : ∀ i ∈ tSlots t1, i ∈ own1)
    (σ : L2.St) (H : Hp) (Q : VK) (h : tE (step m v) Γ W (.lc2 own own1 elt t i [] t1 i1 []) σ H Q) : L2.tLc2 (tI v Γ W i) (fun u σ H Q => ∃ H1 L, tG (Γ.at H1 L) t u σ H Q) L2.tYes (fun σ H R => ∃ H1 L, tI v (Γ.at H1 L) noX i1 σ H R) (fun u σ H Q => ∃ H1 L, tG (Γ.at H1 L) t1 u σ H Q) L2.tYes (tLkS (fun σ H Q => ∃ H1 L, tE v (Γ.at H1 L) noX elt σ H Q)) (ownp.map (·.2)) own1 σ H Q := by
  obtain ⟨env, Fs, ts, s0, q⟩ := h
  refine ⟨env, Fs, ts, s0, ?_⟩
  rw [hown]
  have q : PR Γ W σ ts Q (match v.it i env with
    | .ok l env1 => (match lcGo v own t [] (lcIn v own1 elt t1 i1 []) l [] env1 with
      | .ok acc env2 => .ok (.lst (acc.reverse.map (·.1))) (lstLv acc) (backS env1 env2 own)
      | _ => .bad)
    | .ex c a env' => .ex c a env'
    | .bad => .bad) := q
  cases hr : v.it i env with
  | ex k a env1 => rw [hr] at q; exact q
  | bad => rw [hr] at q; exact q
  | ok l env1 =>
    rw [hr] at q
    dsimp only at q
    intro J H1 Fs1 us s1 wk D0 hD
    have hpin : ∀ i ∈ own, ∀ q ∈ Γ.pin, q.1 ≠ i := fun i hi q hq e => hp i hi (e ▸ C.pn q hq)
    have hpin1 : ∀ i ∈ own1, ∀ q ∈ Γ.pin, q.1 ≠ i := fun i hi => hpin i (hsub i hi)
    obtain ⟨Ha, La, eΓ⟩ : ∃ H2 L2, Γ.at H1 (ownAll Fs1 (us ++ ts) σ.length) = Γ.at H2 L2 := ⟨_, _, rfl⟩
    have s1' := s1.enter
    rw [eΓ] at wk s1'
    have back : ∀ {H2 env2 σ2 Fs2 ts2}, SR (Γ.at Ha La) H2 env2 σ2 Fs2 ts2 → SR Γ H2 env2 σ2 Fs2 ts2 := fun s2 => s1.leave (by rw [eΓ]; exact s2)
    obtain ⟨Fs2, os, s2, held⟩ := SR.wipe (Γ := Γ.at Ha La) own nd hpin s1'
    have fr := s2.free hD
    have s3 : SR (Γ.at Ha La) (upd H1 D0 (.lst [])) (wipeS env1 own) (L2.wipe σ own) Fs2 (⟨.lst [], 8, .ref D0, [D0]⟩ :: (os ++ (us ++ ts))) := by
      have own8 : Own (Γ.at Ha La).p (upd H1 D0 (.lst [])) 8 (.lst []) (.ref D0) [D0] := .inr ⟨7, D0, [], [], rfl, by omega, rfl, upd_same, ⟨rfl, rfl⟩, rfl⟩
      refine (s2.new hD).push (t := ⟨.lst [], 8, .ref D0, [D0]⟩) own8 (by simp) (fun u hu b hb hb' => ?_) (fun i b hb hb' => ?_) (fun b hb => ?_)
      · rw [List.mem_singleton.mp hb] at hb'; exact fr.2 u hu hb'
      · rw [List.mem_singleton.mp hb] at hb'; exact fr.1 i hb'
      · rw [List.mem_singleton.mp hb]; exact s2.fresh hD
    have pm : ∀ t : Tmp, (t :: (os ++ (us ++ ts))).Perm (us ++ (t :: (os ++ ts))) := fun t => by
      have e : (os ++ (us ++ ts)).Perm (us ++ (os ++ ts)) := by
        rw [← List.append_assoc, ← List.append_assoc]
        exact List.perm_append_comm.append_right ts
      exact (List.Perm.cons t e).trans List.perm_middle.symm
    refine ⟨fun i k H => k = l.length - i ∧ i ≤ l.length ∧ ∃ env Fs acc F, SR (Γ.at Ha La) H (wipeS env own) (L2.wipe σ own) Fs (us ++ (accT acc D0 F :: (os ++ ts))) ∧
      PR Γ W σ ts Q (match lcGo v own t [] (lcIn v own1 elt t1 i1 []) (l.drop i) acc env with
        | .ok acc env2 => .ok (.lst (acc.reverse.map (·.1))) (lstLv acc) (backS env1 env2 own)
        | _ => .bad), ⟨_, rfl, Nat.zero_le _, env1, Fs2, [], [D0], s3.perm (pm _), q⟩, ?_⟩
    rintro i k H2 ⟨rfl, hile, env2, Fs3, acc, F, s4, q2⟩
    obtain ⟨w1, w2, w3⟩ := wk i H2 _ _ Fs3 _ s4
    by_cases hlt : i < l.length
    · refine .inr ⟨w1 hlt, fun H' => ∃ env Fs acc F, SR (Γ.at Ha La) H' (wipeS env own) (L2.wipe σ own) Fs (us ++ (accT acc D0 F :: (os ++ ts))) ∧
        PR Γ W σ ts Q (match lcGo v own t [] (lcIn v own1 elt t1 i1 []) (l.drop (i + 1)) acc env with
          | .ok acc env2 => .ok (.lst (acc.reverse.map (·.1))) (lstLv acc) (backS env1 env2 own)
          | _ => .bad), fun H' x => ⟨l.length - (i + 1), by omega, rfl, hlt, x⟩, fun x H' hy => ?_⟩
      obtain ⟨y, hy1, s5⟩ := w3 x H' hlt hy
      have hd : l.drop i = y :: l.drop (i + 1) := by
        rw [List.drop_eq_getElem_cons hlt]
        congr 1
        rw [List.getElem?_eq_getElem hlt] at hy1
        exact Option.some.inj hy1
      rw [hd] at q2
      unfold lcGo at q2
      refine ⟨Ha, La, _, Fs3, _, y.1, y.2, [], s5, ?_⟩
      cases ha : asgT t y (wipeS env2 own) with
      | none => rw [ha] at q2; exact q2
      | some env3 =>
        rw [ha] at q2
        dsimp only at q2 ⊢
        intro σ3 H3 Fs4 on s6
        have ew : L2.wipe σ3 own = L2.wipe σ own := wipe_only on hsl
        refine ⟨ew, ?_⟩
        unfold L2.tYes
        dsimp only
        rw [if_pos rfl]
        refine ⟨Ha, La, ?_⟩
        obtain ⟨K0, hK0⟩ : ∃ K : RL → Prop, K = fun r => PR Γ W σ ts Q (match (match r with
            | .ok acc' env3 => lcGo v own t [] (lcIn v own1 elt t1 i1 []) (l.drop (i + 1)) acc' env3
            | r => r) with
          | .ok acc env2 => .ok (.lst (acc.reverse.map (·.1))) (lstLv acc) (backS env1 env2 own)
          | _ => .bad) := ⟨_, rfl⟩
        have kb : ¬ K0 .bad := by rw [hK0]; exact fun z => z
        have kx : ∀ c a e, ¬ K0 (.ex c a e) := by rw [hK0]; exact fun c a e z => z
        have kq : K0 (lcIn v own1 elt t1 i1 [] acc env3) := by rw [hK0]; exact q2
        refine lc_in (K := K0) hpin1 hsl1 s6 kb kx kq fun acc' env' H' F' Fs' q3 s7 => ?_
        rw [hK0] at q3
        have q3 : PR Γ W σ ts Q (match lcGo v own t [] (lcIn v own1 elt t1 i1 []) (l.drop (i + 1)) acc' env' with
          | .ok acc env2 => .ok (.lst (acc.reverse.map (·.1))) (lstLv acc) (backS env1 env2 own)
          | _ => .bad) := q3
        obtain ⟨Fs6, s8⟩ := SR.rewipe (Γ := Γ.at Ha La) own hpin s7
        rw [wipe_wipe hsub, ew] at s8
        exact ⟨_, Fs6, acc', F', s8, q3⟩
    · have e : i = l.length := by omega
      refine .inl ⟨w2 (by omega), ?_⟩
      rw [e, List.drop_length] at q2
      have q2 : PR Γ W σ ts Q (.ok (.lst (acc.reverse.map (·.1))) (lstLv acc) (backS env1 (wipeS env2 own) own)) := q2
      have s5 : SR (Γ.at Ha La) H2 (wipeS env2 own) (L2.wipe σ own) Fs3 (os ++ (accT acc D0 F :: (us ++ ts))) := s4.perm ((pm _).symm.trans List.perm_middle.symm)
      obtain ⟨Fs5, s6⟩ := SR.unwipe (Γ' := Γ.at Ha La) held nd hpin s5
      exact q2 _ H2 F Fs5 ((back s6).sub (List.Sublist.cons_cons _ (List.sublist_append_right _ _)))
theorem nd_lc2 {own own1 : List Nat} {ownp : List (Str × Nat)} {elt : E} {t t1 : T} {i i1 : Eng.It} {ee et ei et1 ei1 : Expr} {scope : Scope} {pos : Pos} (C : Ctx Dw n S X Γ W) (hot : S.hot = false) (hown : ownp.map (·.2) = own) (nd : own.Nodup) (hp : ∀ i ∈ own, i ∉ S.pins) (hsl : ∀ i ∈ tSlots t, i ∈ own) (hsub : ∀ i ∈ own1, i ∈ own) (hsl1 : ∀ i ∈ tSlots t1, i ∈ own1)
    (ok : BlkOk X.N X.env.scope scope ownp) (hi : PI X et ei (tI v Γ W i))
    (hg : ∀ (s : Shared) (H : Hp) (C : Addr) (cl : List (Str × Addr)) (fp : List Addr) H1 L, PG (X.blk s H scope (compEnvC scope cl C X.env) fp) et (tG (Γ.at H1 L) t))
    (hi1 : ∀ (s : Shared) (H : Hp) (C : Addr) (cl : List (Str × Addr)) (fp : List Addr) H1 L, PI (X.blk s H scope (compEnvC scope cl C X.env) fp) et1 ei1 (tI v (Γ.at H1 L) noX i1))
    (hg1 : ∀ (s : Shared) (H : Hp) (C : Addr) (cl : List (Str × Addr)) (fp : List Addr) H1 L, PG (X.blk s H scope (compEnvC scope cl C X.env) fp) et1 (tG (Γ.at H1 L) t1))
    (he : ∀ (s : Shared) (H : Hp) (C : Addr) (cl : List (Str × Addr)) (fp : List Addr) H1 L, PE (X.blk s H scope (compEnvC scope cl C X.env) fp) ee (tE v (Γ.at H1 L) noX elt))
    (hs : noSet ei = true) (hs1 : noSet ei1 = true) : PE X (.ListComp ee [⟨et, ei, [], 0⟩, ⟨et1, ei1, [], 0⟩] scope pos) (tE (step m v) Γ W (.lc2 own own1 elt t i [] t1 i1 [])) :=
  pe_mono (L2.pe_lc2 (vs1 := own1) (C.calm hot) (by rw [C.N]; exact C.nd) hi ok (by rw [hown]; exact hsub) (fun s H C cl fp => pg_any (hg s H C cl fp)) (fun s H C cl fp => L2.pts_nil) (fun s H C cl fp => pi_any (hi1 s H C cl fp)) (fun s H C cl fp => pg_any (hg1 s H C cl fp)) (fun s H C cl fp => L2.pts_nil) (fun s H C cl fp => pe_lkS (pe_any (he s H C cl fp)))
    (fun x => by cases ei <;> first | rfl | cases hs) (fun env x => by cases ei1 <;> first | rfl | cases hs1)) fun σ H Q h => lc2_imp C hown nd hp hsl hsub hsl1 σ H Q h
end
end Eng
end

section
set_option linter.all false
set_option maxRecDepth 100000
namespace Eng
open PySem PySem.Spec PyProof.Rows
open L2 (V HO Hp VK TE TS TA TT TI TG TGs TSet PGs PSet WX XK SqL SqT Rd upd upd_same upd_ne upd_upd Key kV Mut RelV Vals Inv Cx PE PS PT PW PA PI PG PSs PTs Takes tVar tNil tCons tOp Vis Loc Gl Room OpR R2 EP Dp DpAll TruR TruV IxR CallR FnOk Sp Ends PassesAt BlkOk DPut valV SlR MtR)
section
variable {Dw : Wd} {n : Nat} {S : Sx} {X : Cx} {Γ : Gm} {W : WX} {v : Ev} {m : Mod} {c : Nat}
/-! ### methods that only read -/
theorem mt_run {t : M} {o : E} {es : List E} {env : Env} {σ : L2.St} {H : Hp} {Fs : Nat → List Addr} {ts : List Tmp} {Q : VK} {k : List (D × Nat) → Env → R} {Ty : V → Hp → Prop} {R' : V → List V → Hp → Prop} (s : SR Γ H env σ Fs ts) (q : PR Γ W σ ts Q (if mtPre v t o env then ops v 1 (o :: es) env k else .bad))
    (hty : ∀ d n u F H', mtShape t d = true → Own Γ.p H' n d u F → Ty u H')
    (hk : ∀ ds dsP env' x xs H' Fs' tl, SR Γ H' env' σ Fs' (tl ++ ts) → OpT σ 1 (o :: es) ds (x :: xs) tl → patch env' (o :: es) ds = some dsP → PR Γ W σ ts Q (k dsP env') → R' x xs H') :
    tO v Γ W 1 o σ H fun x H1 => Ty x H1 ∧ tOs v Γ W 1 es σ H1 fun xs H2 => R' x xs H2 := by
  by_cases hm : mtPre v t o env = true
  · rw [if_pos hm] at q
    unfold ops evL at q
    unfold tO
    unfold mtPre at hm
    cases hp : isPl o with
    | some i =>
      rw [hp] at q hm
      dsimp only at q hm ⊢
      cases hg : getS env i with
      | none => rw [hg] at hm; cases hm
      | some y =>
        rw [hg] at q hm
        dsimp only at q hm
        obtain ⟨u, hu, own⟩ := s.at_ i y.1 y.2 hg
        refine ⟨u, hu, hty _ _ _ _ _ hm own, evL_run es s ?_⟩
        cases hr : evL v 1 es env with
        | ok ds env' =>
          rw [hr] at q
          dsimp only at q
          intro us H' Fs' tl s' op
          cases hpt : patch env' (o :: es) ((.non, 9) :: ds) with
          | none => rw [hpt] at q; exact q.elim
          | some dsP => rw [hpt] at q; exact hk _ dsP env' u us H' Fs' tl s' (.pl hp hu op) hpt q
        | ex a b env' => rw [hr] at q; exact q
        | bad => rw [hr] at q; exact q
    | none =>
      rw [hp] at q hm
      dsimp only at q hm ⊢
      refine ⟨env, Fs, ts, s, ?_⟩
      cases hr : v.e o env with
      | ok d n env1 =>
        rw [hr] at q hm
        dsimp only at q hm
        intro u H' F Fs' s'
        refine ⟨hty _ _ _ _ _ hm (s'.tmp _ List.mem_cons_self), evL_run es s' ?_⟩
        cases hr2 : evL v 1 es env1 with
        | ok ds env2 =>
          rw [hr2] at q
          dsimp only at q
          intro us H2 Fs2 tl s2 op
          cases hpt : patch env2 (o :: es) ((d, capN n 1) :: ds) with
          | none => rw [hpt] at q; exact q.elim
          | some dsP => rw [hpt] at q; exact hk _ dsP env2 u us H2 Fs2 (⟨d, capN n 1, u, F⟩ :: tl) (s2.perm List.perm_middle) (.val hp op) hpt q
        | ex a b env2 => rw [hr2] at q; exact fun cls dd H2 Fs2 s2 x => q cls dd H2 Fs2 s2.pop x
        | bad => rw [hr2] at q; exact q
      | ex a b env1 => rw [hr] at q; exact q
      | bad => rw [hr] at q; exact q
  · rw [if_neg hm] at q; exact q.elim
theorem ty_lst {p : Par} {H : Hp} {k : Nat} {d : D} {u : V} {F : List Addr} (h : (match d with | .lst _ => true | _ => false) = true) (o : Own p H k d u F) : L2.tyV p.K "list" u H := by
  cases d with
  | lst l =>
    obtain ⟨a, vs, e1, h1, _⟩ := own_lstS o
    subst e1
    exact .inl ⟨rfl, vs, .inl h1⟩
  | _ => cases h
theorem pyL_len : ∀ {l : List D}, (toPyL l).length = l.length
  | [] => rfl
  | _ :: l => by show (toPyL l).length + 1 = _; rw [pyL_len]; rfl
theorem pyL_get : ∀ {l : List D} {j : Nat}, (toPyL l)[j]? = (l[j]?).map toPy
  | [], j => by simp [toPyL]
  | d :: l, 0 => rfl
  | d :: l, j + 1 => by show (toPyL l)[j]? = _; rw [pyL_get]; rfl
theorem dat_get : ∀ {l : List D} {k j : Nat} {d : D}, D.datL k l = true → l[j]? = some d → D.dat k d = true
  | [], _, _, _, _, h => by simp at h
  | x :: l, k, 0, d, h, e => by cases e; exact (and_ok h).1
  | x :: l, k, j + 1, d, h, e => dat_get (and_ok h).2 (by simpa using e)
/-- x.index(k) of a list of data -/
theorem nd_mtIndex {o k : E} {eo ek : Expr} {apos cpos : Pos} (C : Ctx Dw n S X Γ W) (ho : PE X eo (tO v Γ W 1 o)) (hk : PE X ek (tO v Γ W 1 k)) (hs : notStar ek = true) (hbase : attributeBase eo "index" X.env (eval eo X.env) = eval eo X.env) (hline : (apos.endLine == cpos.line) = true) : PE X (.Call (.Attribute eo "index" apos) [ek] [] cpos) (tE (step m v) Γ W (.mt .index o [k])) := by
  have un := C.un
  have hK : X.K = Γ.p.K := by rw [C.K, C.pK]
  have st : starEach [ek] X.env = (false, eval ek X.env) :: starEach [] X.env := star_ok hs
  refine pe_mono (L2.pe_bm (T := "list") (id := "list.index") PySem.F.plainAttrs_list PySem.F.slot_list_index (by rfl) (L2.mt_indexD (by omega)) ho (L2.pa_cons hk L2.pa_nil st) hbase (by rw [st]; rfl) hline st (by rfl)) fun σ H Q ⟨env, Fs, ts, s, q⟩ => ?_
  have q : PR Γ W σ ts Q (if mtPre v .index o env then ops v 1 [o, k] env (fun ds env => match ds with
    | x :: ds => okO (mtf .index x ds) env
    | _ => .bad) else .bad) := q
  refine mt_run (Ty := L2.tyV X.K "list") (R' := fun x xs H2 => L2.rIndexD X.K x xs H2 Q) s q (fun d k u F H' hsh own => by
    rw [hK]
    exact ty_lst (by cases d <;> first | rfl | cases hsh) own) fun ds dsP env' x xs H' Fs' tl s' op hp q' => ?_
  have vw := opv op s' hp
  obtain ⟨u1, e⟩ := one_of (l := xs) (by have := op.len; simpa using this)
  subst e
  cases vw with | @cons d1 n1 _ F1 _ _ o1 vw => cases vw with | @cons d2 n2 _ F2 _ _ o2 vw => cases vw with | nil =>
  cases d1 with
  | lst l =>
    have q' : PR Γ W σ ts Q (okO (if isDataL l && d2.isData then (l.findIdx? fun y => D.eqv y d2).map fun j => (.int j, 9) else none) env') := q'
    by_cases hc : (isDataL l && d2.isData) = true
    · rw [if_pos hc] at q'
      obtain ⟨hc1, hc2⟩ := and_ok hc
      cases hf : l.findIdx? (fun y => D.eqv y d2) with
      | none => rw [hf] at q'; exact q'.elim
      | some j =>
        rw [hf] at q'
        obtain ⟨a, vs, e1, h1, _⟩ := own_lstS o1
        subst e1
        rw [List.findIdx?_eq_some_iff_getElem] at hf
        obtain ⟨hj, hj1, hj2⟩ := hf
        have dl : Dp X.K H' (.ref a) (.list (toPyL l)) := by
          rw [hK]
          exact Own.dp (k := 60) o1 hc1
        refine ⟨a, u1, toPy d2, toPyL l, j, toPy l[j], rfl, rfl, dl, by rw [hK]; exact Own.dp o2 hc2, (shaped_pyL hc1).1, shaped_py hc2, ?_, ?_, fun m z' hm hz => ?_, resI s' q'⟩
        · rw [pyL_get, List.getElem?_eq_getElem hj]; rfl
        · rw [eqv_py (dat_get hc1 (List.getElem?_eq_getElem hj)) hc2]; exact hj1
        · rw [pyL_get] at hz
          obtain ⟨dz, e1, e2⟩ := Option.map_eq_some_iff.mp hz
          subst e2
          rw [eqv_py (dat_get hc1 e1) hc2]
          obtain ⟨h3, h4⟩ := List.getElem?_eq_some_iff.mp e1
          have := hj2 m hm
          rw [h4] at this
          simpa using this
    · rw [if_neg hc] at q'; exact q'.elim
  | _ => exact q'.elim
end
end Eng
end

section
set_option linter.all false
set_option maxRecDepth 100000
namespace Eng
open PySem PySem.Spec PyProof.Rows PySem.Calls
open L2 (V HO Hp VK TE TS TA TT TI TG TGs TSet PGs PSet WX XK SqL SqT Rd upd upd_same upd_ne upd_upd Key kV Mut RelV Vals Inv Cx PE PS PT PW PA PI PG PSs PTs tVar tNil tCons tOp Vis Loc Gl Room OpR R2 EP Dp DpAll TruR TruV IxR CallR FnOk Sp Ends PassesAt BlkOk DPut valV SlR MtR TyX TyOf kitB Zc thn)
/-! ### an exception in an except suite, with or without a dict: its class, its field -/
section
variable {prog : Program} {w : World} {A : Around} {E : Value → Shared → Prop} {s : Shared} {K : PySem.W.Frag} {x D : Addr} {ox : Obj} {od : Option Obj}
open PySem.W in
theorem findObj_anyD {C : Addr} {nm : Str} {a g : Value} (c1 : (clsIn K C).isSome = true) (c2 : findIn K (.ref C) nm = some (some a)) (c3 : specialIn K a "__get__" = some (some g)) (c4 : takesIn K a = some true) : findObj K C od nm = some (.bind g a) := by
  obtain ⟨cd, hc⟩ := Option.isSome_iff_exists.mp c1
  unfold findObj
  simp [hc, c2, c3, c4]
open PySem.W in
theorem clsAttrE {Q : Option Value → Shared → Prop} (T : L2.ExcC K D) (KX : K.In s.heap) (J : InstAt s.heap x ox D od) (q : Q (some (.ref D)) { s with toks := s.toks + 1 }) : wpAny (model prog w) A (getAttr? (.ref x) "__class__") Q E s := by
  obtain ⟨t1, t2, t3, t4, t5, t6, t7, t8⟩ := T
  have hsome : (clsIn K D).isSome = true := by obtain ⟨cd, hc, _⟩ := any_some t4; rw [hc]; rfl
  have fo : findObj K D od "__class__" = some (.bind (.builtin "getset_descriptor.__get__") (.builtin "object.__class__")) := findObj_anyD hsome t5 t6 t7
  obtain ⟨hp, gg, dd, tt, oo⟩ := s
  have l0 := J.type (M := model prog w)
  have l1 := looks_findIn (M := model prog w) KX t1
  have l2 := looks_findIn (M := model prog w) KX t2
  have l3 := looks_find (M := model prog w) KX J fo
  have isE : Looks (model prog w) hp (isInstance (.ref x) (.type "BaseException")) true := l0.andThen (looks_subIn KX t3)
  have z0 : (false && onTheHeap (Value.builtin "BaseException.__getattribute__")) = false := rfl
  have z1 : (onTheHeap (Value.ref D) && Value.builtin "BaseException.__getattribute__" == Value.builtin "object.__getattribute__") = false := by
    rw [show (Value.builtin "BaseException.__getattribute__" == Value.builtin "object.__getattribute__") = false by decide +kernel]; rfl
  unfold getAttr? getAttrBy? getAttrBy
  refine wpAny_bind (wpAny_mkText (wpAny_bind (wpAny_attempt (wpAny_holding (wpAny_bind (l0.at (wpAny_bind (l1.at ?_))))))))
  show wpAny _ _ (if (onTheHeap (Value.ref D) && Value.builtin "BaseException.__getattribute__" == Value.builtin "object.__getattribute__") = true then _ else _) _ _ _
  rw [z1, if_neg Bool.false_ne_true]; unfold getAttrByItsOwn hookBefore
  refine wpAny_bind ?_
  rw [if_pos (show onTheHeap (Value.ref D) = true from rfl)]
  refine l2.at (wpAny_bind (wpAny_attempt (wpAny_holding ?_)))
  unfold callGetattribute
  rw [z0, if_neg Bool.false_ne_true]; unfold boundAndCalled
  rw [PySem.F.excAttr_ValueError.ga.bind (.ref x)]; refine wpAny_bind (wpAny_pure ?_)
  show wpAny _ _ (call (.builtin "BaseException.__getattribute__") [.ref x, .str "__class__" tt]) _ _ _
  refine wpAny_call (codeAny_call_builtin PySem.F.excAttr_ValueError.ga.plain PySem.F.entry_bexc_ga (@check_slot (model prog w) _ _ ⟨hp, gg, dd, tt + 1, oo⟩ "BaseException.__getattribute__" "BaseException" "__getattribute__" (.ref x) [.str "__class__" tt] [] _ (by decide +kernel) (by decide +kernel) isE (PySem.F.args_bexc_ga (.ref x) (.str "__class__" tt)) ?_))
  unfold Builtin.«object.__getattribute__»
  refine wpAny_bind (wpAny_of_eq (a := ((Value.ref x : Value), [Value.str "__class__" tt])) (by first | rfl | (simp only [slotArgs]; rfl)) (wpAny_bind (wpAny_pure (wpAny_bind (l0.at (wpAny_bind (l3.at ?_)))))))
  show wpAny _ _ (holding [Value.builtin "object.__class__"] (call (.builtin "getset_descriptor.__get__") [.builtin "object.__class__", .ref x, .ref D]) >>= ret) _ _ _
  refine wpAny_bind (wpAny_holding (wpAny_call (class_get (s := ⟨hp, gg, dd, tt + 1, oo⟩) KX J t8 (wpAny_pure ?_))))
  show wpAny _ _ (handedOut (.ref D)) _ _ _
  rw [handedOut_of (v := .ref D) rfl]
  first
    | exact wpAny_pure (wpAny_pure q)
    | exact wpAny_pure q
    | exact wpAny_pure (wpAny_bind (wpAny_pure (wpAny_pure q)))
open PySem.W in
theorem kitX_E (T : L2.ExcC K D) : KitX K (.ref x) (.ref D) (fun h => ∃ od, InstAt h x ox D od) where
  ty := fun _ _ _ ⟨_, I⟩ => I.type
  it := fun _ _ KX _ => by
    obtain ⟨cd, hc, _⟩ := any_some T.hd
    unfold clsIn at hc
    split at hc
    · rename_i c' d' cd' sl' ho
      exact fun A' Q' E' s' k q => by
        unfold isType loadHead
        exact wpAny_bind (wpAny_loadPart (k _ _ (KX _ _ ho)) (wpAny_pure q))
    · cases hc
  ne := fun h tp dd its n sl KX htp => by
    obtain ⟨cd, hc, _⟩ := any_some T.hd
    refine Bool.eq_false_iff.mpr fun q => ?_
    obtain rfl : D = tp := Value.ref.inj (beq_iff_eq.mp q)
    unfold clsIn at hc
    split at hc
    · rename_i c' d' cd' sl' ho
      have z := (KX _ _ ho).symm.trans htp
      cases z
    · cases hc
  ca := fun KX ⟨_, I⟩ k => clsAttrE T KX I k
end
/-- the exception as an instance of its class -/
theorem inst_of {h : Heap} {a D : Addr} {oe : Obj} {d : Option Addr} {odd : Option Obj} (hget : h.get? a = some oe) (hz : Zc (.ref D) d oe) (hf : ∃ vs, oe.data = .fields vs) (hd : (d = none ∧ odd = none) ∨ ∃ dx o, d = some dx ∧ odd = some o ∧ h.get? dx = some o) : PySem.W.InstAt h a oe D odd := by
  obtain ⟨vs, hv⟩ := hf
  obtain ⟨oc, od, oda, osl⟩ := oe
  obtain ⟨h1, h2⟩ := hz
  dsimp only at h1 h2 hv
  subst h1 h2 hv
  rcases hd with ⟨e1, e2⟩ | ⟨dx, o, e1, e2, e3⟩
  · subst e1 e2
    exact ⟨hget, rfl, rfl, trivial⟩
  · subst e1 e2
    exact ⟨hget, rfl, rfl, e3⟩
section
variable {Dw : Wd} {n : Nat} {S : Sx} {X : Cx} {Γ : Gm} {W : WX} {v : Ev} {m : Mod} {c : Nat}
/-- isinstance(e, c), whatever the dict: its object stands in the heap -/
def rIsD (K : PySem.W.Frag) (D a : Addr) (d : Option Addr) : List V → Hp → VK → Prop := fun xs H Q => ∃ (k : V) (cv : Value) (b : Bool), xs = [.ref a, k] ∧ (∀ u, RelV k u → u = cv) ∧ PySem.W.kitOne K (.ref D) cv = some b ∧ (∀ dx, d = some dx → ∃ fs, H dx = some (.xd fs)) ∧ Q (.bl b) H
theorem call_isD {X : Cx} {a D : Addr} {oe : Obj} {d : Option Addr} {pn : List (Addr × Obj)} (T : L2.ExcC X.K D) (hz : Zc (.ref D) d oe) (hf : ∃ vs, oe.data = .fields vs) : CallR (X.suite a ((a, oe) :: pn)) (.builtin "isinstance") (rIsD X.K D a d) := by
  intro pins s σ H xs us Q I r ⟨k, cv, b, e0, hcv, e, hd, q⟩
  subst e0
  cases r with | cons rx rr => cases rr with | cons rt rr =>
  cases rr
  cases rx
  have ec := hcv _ rt
  subst ec
  obtain ⟨hget, _⟩ := I.pin (a, oe) (List.mem_append.mpr (.inl List.mem_cons_self))
  have J : ∃ odd, PySem.W.InstAt s.heap a oe D odd := by
    cases d with
    | none => exact ⟨none, inst_of hget hz hf (.inl ⟨rfl, rfl⟩)⟩
    | some dx =>
      obtain ⟨fs, hx⟩ := hd dx rfl
      obtain ⟨mA, hns, _⟩ : L2.ObjOk X.prog X.w H s.heap dx (.xd fs) := I.hok dx _ hx
      obtain ⟨odd, ho, _⟩ := L2.lookIn_ns hns
      exact ⟨some odd, inst_of hget hz hf (.inr ⟨_, _, rfl, rfl, ho⟩)⟩
  exact PySem.W.kia_one (kitX_E T) I.kIn J e (fun z => nomatch z) fun tk => ⟨.bl b, H, I.kept (t' := tk) fun _ _ z => z, rfl, q⟩
/-- isinstance(e, C), e the exception that the suite holds -/
theorem nd_isiX {i k : Nat} {x y0 y : Str} {p p0 p2 pos : Pos} (C : Ctx Dw n S X Γ W) (hx : S.exc = true) (hi : S.blt "isinstance" x = true) (hy : S.clsn k y = true) (hm : ((List.range S.g.cnames.length).all fun c => m.sub c k == S.g.subs.contains (c, k)) = true) (ha : PE X (.Name y0 p0) (tO v Γ W 1 (.var i))) :
    PE X (.Call (.Name x p) [.Name y0 p0, .Name y p2] [] pos) (tE (step m v) Γ W (.isi (.var i) [.own k])) := by
  obtain ⟨e1, hg, hd, hmg⟩ := C.blt hi
  obtain ⟨g1, g2⟩ := and_ok hy
  obtain ⟨g3, g4⟩ := C.glob g1
  have g2 := of_decide_eq_true g2
  obtain ⟨c1, c2⟩ := C.g.cls _ _ g2
  have hk : k < S.g.cnames.length := (List.getElem?_eq_some_iff.mp g2).1
  obtain ⟨X0, a, oe, pn, cc, pay, d, eX, hz, hf, hc, hP, _, hD⟩ := C.exc hx
  have hK : X0.K = Dw.K := by rw [← C.K, eX]
  have pt : PE X (.Name y p2) (L2.tC (.ref (Dw.ca k))) := L2.pe_glob g3 (by rw [C.mg]; exact c1) (v := .ref (Dw.ca k)) rfl g4
  subst e1
  have cr : CallR X (.builtin "isinstance") (rIsD Dw.K (Dw.ca cc) a d) := by
    rw [eX, ← hK]
    exact call_isD (by rw [hK]; exact (C.g.excC cc hc).1) hz.zc hf
  refine pe_mono (L2.pe_callB cr hg hmg rfl (L2.pa_cons ha (L2.pa_cons pt L2.pa_nil (star_ok rfl)) (star_ok rfl)) (by decide) (by decide) (star_ok rfl) (by rfl)) fun σ H Q ⟨env, Fs, ts, s, q⟩ => ?_
  have q : PR Γ W σ ts Q (ops v 1 [.var i] env fun ds env => match ds with
    | [(x, _)] => (match anyTy m.sub x [.own k] with | some b => .ok (.bl b) 9 env | none => .bad)
    | _ => .bad) := q
  have z := ops_run (Q' := fun us H3 => match us with | [u] => rIsD Dw.K (Dw.ca cc) a d [u, .ref (Dw.ca k)] H3 Q | _ => False) s q fun ds dsP env' us H' Fs' tl s' op hp q' => by
    have vw := opv op s' hp
    obtain ⟨u1, e⟩ := one_of (l := us) op.len
    subst e
    cases vw with | @cons d1 n1 _ F1 _ _ o1 vw => cases vw with | nil =>
    dsimp only at q' ⊢
    cases d1 with
    | exc c' x' =>
      obtain ⟨⟨a', eu, hX, hXH⟩, _⟩ := o1
      obtain ⟨ea, ec, ep⟩ := hP _ _ _ hX
      subst eu ea ec
      have e : anyTy m.sub (.exc c' x') [.own k] = some (m.sub c' k) := by
        unfold anyTy
        show (some (m.sub c' k)).bind _ = _
        cases m.sub c' k <;> rfl
      rw [e] at q'
      have em : m.sub c' k = S.g.subs.contains (c', k) := eq_of_beq (List.all_eq_true.mp hm c' (List.mem_range.mpr hc))
      refine ⟨.ref (Dw.ca k), .ref (Dw.ca k), m.sub c' k, rfl, fun u hu => hu, by rw [em]; exact C.g.sub c' k hc hk, fun dx ed => ?_, resB s' q'⟩
      obtain ⟨fs, hfs⟩ := hD dx ed
      exact ⟨fs, hXH _ hfs⟩
    | _ => exact q'.elim
  exact z
/-- e.limit -/
theorem nd_attrX {i : Nat} {y0 : Str} {p0 pos : Pos} (C : Ctx Dw n S X Γ W) (hx : S.exc = true) (ha : PE X (.Name y0 p0) (tO v Γ W 1 (.var i))) : PE X (.Attribute (.Name y0 p0) "limit" pos) (tE (step m v) Γ W (.attr (.var i))) := by
  obtain ⟨X0, a, oe, pn, cc, pay, d, eX, hz, hf, hc, hP, hL, hD⟩ := C.exc hx
  have hK : X0.K = Dw.K := by rw [← C.K, eX]
  obtain ⟨T, hno⟩ := C.g.excC cc hc
  have px : PE X (.Attribute (.Name y0 p0) "limit" pos) (L2.tXf a (.ref (Dw.ca cc)) d (Dw.ca cc) "limit" (tO v Γ W 1 (.var i))) := by
    rw [eX] at ha ⊢
    exact L2.pe_xf (by show L2.XfC X0.K _; rw [hK]; exact ⟨T.hg, T.hk, T.hs, T.hd⟩) (by show PySem.W.findIn X0.K _ _ = _; rw [hK]; exact hno) hz.zc hf ha
  refine pe_mono px fun σ H Q ⟨env, Fs, ts, s, q⟩ => ?_
  have q : PR Γ W σ ts Q (ops v 1 [.var i] env fun ds env => match ds with
    | [(.exc _ (some x), _)] => if x.noMut then .ok x 9 env else .bad
    | _ => .bad) := q
  have z := ops_run (Q' := fun us H3 => match us with | [u] => u = .ref a ∧ (Value.ref (Dw.ca cc)) = .ref (Dw.ca cc) ∧ ∃ (dd : Addr) (fs : List (Str × V)) (w : V), d = some dd ∧ H3 dd = some (.xd fs) ∧ fs.lookup ("limit" : Str) = some w ∧ Q w H3 | _ => False) s q fun ds dsP env' us H' Fs' tl s' op hp q' => by
    have vw := opv op s' hp
    obtain ⟨u1, e⟩ := one_of (l := us) op.len
    subst e
    cases vw with | @cons d1 n1 _ F1 _ _ o1 vw => cases vw with | nil =>
    dsimp only at q' ⊢
    cases d1 with
    | exc c' x' =>
      cases x' with
      | none => exact q'.elim
      | some x' =>
        obtain ⟨⟨a', eu, hX, hXH⟩, _⟩ := o1
        obtain ⟨ea, ec, ep⟩ := hP _ _ _ hX
        subst eu ea ec
        obtain ⟨j, dx, e1, e2, e3⟩ := hL x' ep.symm
        subst e1
        have q' : PR Γ W σ ts Q (.ok (.int j) 9 env') := q'
        exact ⟨rfl, rfl, dx, _, .int j, e2, hXH _ e3, rfl, resI s' q'⟩
    | _ => exact q'.elim
  exact z
end
end Eng
end

section
set_option linter.all false
set_option maxRecDepth 100000
set_option maxHeartbeats 2000000
set_option Elab.async false
namespace L2
open PySem PySem.Spec PyProof.Rows
/-! ### a list comprehension while an exception is handled -/
/-- a block that was entered while x1 was handled: it stays as it was then -/
def HotB (X : Cx) : Prop := ∃ x1, HotX.HotAt X.A x1 X.s_0.heap ∧ X.H_0 x1 = none ∧ x1 ∉ X.fs ∧ x1 ∉ X.ex
section
variable {X : Cx} {pins : List (Addr × Obj)} {σ : St} {H : Hp} {s : Shared}
theorem HotB.at (h : HotB X) (I : Inv X pins σ H s) : ∃ x1, HotX.HotAt X.A x1 s.heap := by
  obtain ⟨x1, ⟨hh, o, vs, e, d, c⟩, n, nf, nx⟩ := h
  exact ⟨x1, hh, o, vs, I.base.keep x1 o e n nf nx, d, c⟩
theorem hotB_blk {scope : Scope} {env : Env} {fp : List Addr} (hc : L2H.HotC X) (I : Inv X pins σ H s) (hf : ∀ b ∈ fp, FpOk X pins H b) : HotB (X.blk s H scope env fp) := by
  obtain ⟨p, ⟨hh, vs, d, c⟩, hp⟩ := hc
  obtain ⟨e, n, nl, nf, _⟩ := I.pin p (List.mem_append_left _ hp)
  refine ⟨p.1, ⟨hh, p.2, vs, e, d, c⟩, n, fun z => ?_, fun z => ?_⟩
  · rcases List.mem_cons.mp (I.stkSub _ (show p.1 ∈ frs X.stack from z)) with q | q
    · exact nl q
    · exact nf q
  · exact (hf _ z).2.2.2.2.2 p (List.mem_append_left _ hp) rfl
/-- a list walk ends there -/
theorem next_end_hot {prog : Program} {w : World} {A : Around} {E : Value → Shared → Prop} {s : Shared} {it l x1 : Addr} {i : Nat} {items : Array Value} {R : Option Value → Shared → Prop} (hot : HotX.HotAt A x1 s.heap) (ne : x1 ≠ it)
    (isit : s.heap.IsListIter it l i) (isl : s.heap.IsList l items) (off : items[i]? = none)
    (q : ∀ h', Heap.ExtBut it s.heap h' → R none { s with heap := h' }) : wpAny (model prog w) A (pyNext (.ref it)) R E s := by
  obtain ⟨o, go, co, dO⟩ := id isit
  obtain ⟨ol, gol, _, nl, dl⟩ := isl
  obtain ⟨hh, o1, vs1, h1, d1, c1⟩ := hot
  unfold pyNext
  refine wpAny_bind (wpAny_attempt (wpAny_callSpecial?_slot (name := Str.ofString "__next__") isit.typeIs slot_listiter_next (wpAny_call_entry slot_listiter_next isit.typeIs entry_listiter_next ?_ (args_listiter_next _))))
  show wpAny _ _ (field (.ref it) 0 >>= fun _ => _) _ _ s
  refine wpAny_bind (wpAny_field go dO (x := .ref l) rfl ?_)
  show wpAny _ _ (if (Value.ref l == Value.none) = true then _ else (field (.ref it) 1 >>= fun _ => _)) _ _ s
  rw [if_neg (show ¬ ((Value.ref l == Value.none) = true) from fun z => Bool.noConfusion z)]
  refine wpAny_bind (wpAny_field go dO (x := .int i 0) rfl ?_)
  show wpAny _ _ (seqItems? (.ref l) >>= fun _ => _) _ _ s
  refine wpAny_bind (wpAny_seqItems gol dl ?_)
  simp only [Int.toNat_natCast, off]
  refine wpAny_bind (wpAny_rule (wpAny_bind (wpAny_setField go dO (by simp) ?_)))
  show wpAny _ _ (newExc (.type "StopIteration") [] >>= fun _ => _) _ _ _
  refine wpAny_bind ?_
  simp only [newExc, newTuple]
  refine wpAny_bind (wpAny_newObj_type ?_ (by size_fits))
  refine wpAny_bind (m := firstArgMember _ _) (wpAny_of_eq (a := Value.none) (by first | rfl | (simp only [firstArgMember]; rfl)) (wpAny_newObj_type ?_ (by size_fits)))
  have g1 : (s.heap.update it (Obj.mapFields (·.setIfInBounds 0 .none))).get? x1 = some o1 := by
    rw [Heap.get?_update_other _ _ (Ne.symm ne)]
    exact h1
  refine HotX.raiseNew_hot ⟨hh, o1, vs1, Heap.get?_push_of_some _ (Heap.get?_push_of_some _ g1), d1, c1⟩ (Nat.ne_of_lt (Heap.lt_size (Heap.get?_push_of_some _ g1))) (Heap.get?_push_size _ rfl) rfl (by first | (simp; done) | (simp; omega) | (simp only [Array.size_append]; simp; omega)) ?_
  refine wpAny_bind (wpAny_isInstance (T := "StopIteration") (b := true) ⟨_, Heap.get?_update_self _ (Heap.get?_push_size _ rfl) rfl, rfl⟩ isSubtype_stop (wpAny_pure (q _ fun b o' hb e => ?_)))
  have g2 : (s.heap.update it (Obj.mapFields (·.setIfInBounds 0 .none))).get? b = some o' := by
    rw [Heap.get?_update_other _ _ (Ne.symm hb)]
    exact e
  rw [Heap.get?_update_other _ _ (Nat.ne_of_gt (Heap.lt_size (Heap.get?_push_of_some _ g2)))]
  exact Heap.get?_push_of_some _ (Heap.get?_push_of_some _ g2)
end
/-- what is walked in such a block -/
structure TurnB (P : Program) (w : World) (K : PySem.W.Frag) (tg : Expr) (J : It) (fp : List Addr) (it : Addr) (tn : Nat → Heap → Prop) : Prop where
  obj : ∀ i h, tn i h → ∀ b ∈ fp, ∃ o, h.get? b = some o ∧ ∀ v, o.data ≠ .cell v
  keep : ∀ i h h', tn i h → (∀ b ∈ fp, ∀ o, h.get? b = some o → h'.get? b = some o) → tn i h'
  item : ∀ (X : Cx), X.prog = P → X.w = w → X.K = K → ∀ (i : Nat) (ps : List (Addr × Obj)) (s : Shared) (σ : St) (H : Hp) (E : Value → Shared → Prop), Inv X ps σ H s → (∀ b ∈ fp, FpOk X ps H b) → tn i s.heap → J.go i H →
    wpAny (model P w) X.A (pyNext (.ref it)) (fun r t => ∃ u, r = some u ∧ wpAny (model P w) X.A (letOwnedTupleGo tg (.ref it) u) (fun _ t2 => ∃ x H', Inv X ps σ H' t2 ∧ RelV x u ∧ J.yld i H x H' ∧ tn (i + 1) t2.heap ∧ ∀ b ∈ fp, H' b = none) E t) E s
  done : ∀ (X : Cx), X.prog = P → X.w = w → X.K = K → HotB X → ∀ (i : Nat) (ps : List (Addr × Obj)) (s : Shared) (σ : St) (H : Hp) (E : Value → Shared → Prop), Inv X ps σ H s → (∀ b ∈ fp, FpOk X ps H b) → tn i s.heap → J.stop i H →
    wpAny (model P w) X.A (pyNext (.ref it)) (fun r t => r = none ∧ Inv X ps σ H t) E s
  self : ∀ (A : Around) (i : Nat) (s : Shared) (Q : Value → Shared → Prop) (E : Value → Shared → Prop), tn i s.heap → Q (.ref it) s → wpAny (model P w) A (pyIter (.ref it)) Q E s
theorem turnB_list {P : Program} {w : World} {K : PySem.W.Frag} {tg : Expr} (a it : Addr) : TurnB P w K tg (Itl K a) [it] it (fun i h => h.IsListIter it a i) where
  obj := (turn_list (P := P) (w := w) (K := K) (tg := tg) a it).obj
  keep := (turn_list (P := P) (w := w) (K := K) (tg := tg) a it).keep
  item := fun X hP hw hK i ps s σ H E I hf st ⟨xs, x, hq, hx⟩ => by
    subst hP hw hK
    obtain ⟨its, rv, p, hz⟩ := I.list hq
    obtain ⟨u, hu, ru⟩ := rv.get hx
    obtain ⟨f0, f1, f2, f3, f4, f5⟩ := hf it (List.mem_singleton.mpr rfl)
    refine wpAny_pyNext_list_item st p.isList (x := u) (by simpa using hu) fun g st' sb => ?_
    have J1 : Inv X ps σ H { s with heap := g } := I.turned (t' := s.toks) (fun b o hb e => (sb.2 b hb).trans e) f0 f1 f3 f4 f5
    obtain ⟨o, e, c, d⟩ := id st'
    exact ⟨u, rfl, go_of (s := { s with heap := g }) e c d (by decide) ⟨x, H, J1, ru, ⟨rfl, fun ys hy => by rw [I.list_inj hy hq]; exact hx⟩, st', fun b hb => (hf b hb).1⟩⟩
  done := fun X hP hw hK hc i ps s σ H E I hf st ⟨xs, hq, hx⟩ => by
    subst hP hw hK
    obtain ⟨its, rv, p, hz⟩ := I.list hq
    have f := hf it (List.mem_singleton.mpr rfl)
    have hl := rv.length
    obtain ⟨x1, hot⟩ := hc.at I
    obtain ⟨f0, f1, f2, f3, f4, f5⟩ := f
    have ne : x1 ≠ it := fun z => by
      obtain ⟨_, o1, vs1, e1, d1, c1⟩ := hot
      obtain ⟨o, e, c, d⟩ := st
      rw [z, e] at e1
      cases e1
      rw [d] at d1
      cases d1
      simp at c1
    exact next_end_hot hot ne st p.isList (by simp; omega) fun g eb => ⟨rfl, I.turned (t' := s.toks) (fun b o hb e => eb b o hb e) f0 f1 f3 f4 f5⟩
  self := fun _ _ _ _ _ st h => wpAny_pyIter_listiter st h
/-- an iterator has come -/
def PIEB (X : Cx) (pins : List (Addr × Obj)) (σ : St) (tg : Expr) (R : It → Hp → Prop) (itv : Value) (t : Shared) : Prop :=
  ∃ (it : Addr) (fp : List Addr) (tn : Nat → Heap → Prop) (J : It) (H' : Hp), itv = .ref it ∧ Inv X pins σ H' t ∧ TurnB X.prog X.w X.K tg J fp it tn ∧ tn 0 t.heap ∧ (∀ b ∈ fp, FpOk X pins H' b) ∧ R J H'
structure PIB (X : Cx) (tg iter : Expr) (wi : TI) : Prop where
  run : ∀ (pins : List (Addr × Obj)) (s : Shared) (σ : St) (H : Hp) (R : It → Hp → Prop), Inv X pins σ H s → wi σ H R → wpAny (model X.prog X.w) X.A (eval iter X.env) (fun v t => wpAny (model X.prog X.w) X.A (pyIter v) (PIEB X pins σ tg R) X.xe t) X.xe s
theorem piB_list {X : Cx} {tg l : Expr} {tl : TE} (hl : PE X l tl) : PIB X tg l (iList X.K tl) := by
  refine ⟨fun pins s σ H R I h => thn (hl.run pins s σ H _ I h) fun v t ⟨x, H1, I1, r1, a, e, ⟨xs, hq⟩, q⟩ => ?_⟩
  subst e
  cases r1
  obtain ⟨its, rv, p, hz⟩ := I1.list hq
  refine wpAny_pyIter_list p.isList ⟨t.heap.objs.size, [t.heap.objs.size], _, _, H1, rfl, I1.kept (t' := t.toks) fun b o e => Heap.get?_push_of_some _ e, turnB_list a _, ⟨_, Heap.get?_push_size _ rfl, rfl, rfl⟩, fun b hb => ?_, q⟩
  obtain rfl : b = t.heap.objs.size := List.mem_singleton.mp hb
  exact I1.fpOk (Nat.le_refl _) (I1.hok.fresh (Nat.le_refl _))
section
variable {X : Cx}
theorem lcHot {pins : List (Addr × Obj)} {s : Shared} {σ : St} {H : Hp} {Q : VK} {elt tg iter : Expr} {ifs : List Expr} {scope : Scope} {own : List (Str × Nat)} {pos pos' : Pos} {wi : TI} {g : TG} {tt : TT} {te : TE} {use : Option (Value → Sem Unit)} {Qf : Value → Shared → Prop}
    (hc : L2H.HotC X) (hN : X.N.Nodup) (I : Inv X pins σ H s) (hi : PIB X tg iter wi) (ok : BlkOk X.N X.env.scope scope own)
    (hg : ∀ (s : Shared) (H : Hp) (Ca : Addr) (cl : List (Str × Addr)) (fp : List Addr), HotB (X.blk s H scope (compEnvC scope cl Ca X.env) fp) → PG (X.blk s H scope (compEnvC scope cl Ca X.env) fp) tg g) (ht : ∀ (s : Shared) (H : Hp) (Ca : Addr) (cl : List (Str × Addr)) (fp : List Addr), PTs (X.blk s H scope (compEnvC scope cl Ca X.env) fp) ifs tt)
    (he : ∀ (s : Shared) (H : Hp) (Ca : Addr) (cl : List (Str × Addr)) (fp : List Addr), PE (X.blk s H scope (compEnvC scope cl Ca X.env) fp) elt te) (hs : ∀ x, foldedSetIterable iter X.env x = pure x)
    (h : tLc wi g tt te (own.map (·.2)) σ H Q) (hRR : ∀ D Ce s' m Hx, Inv X pins σ Hx s' → Q (.ref D) Hx → s'.heap.Ns Ce m → FpOk X pins Hx Ce → compPost (model X.prog X.w) X.A X.xe use Qf (.ref D) Ce (.ok .next) s') : wpAny (model X.prog X.w) X.A (comprehension (.ListComp elt [⟨tg, iter, ifs, 0⟩] scope pos) scope X.env pos' (newList []) false (eval iter X.env) use) Qf X.xe s := by
  have hfr : ∀ y ∈ scope.names, y.2 = .free → ∃ c, X.env.cells.lookup y.1 = some c := fun y hy e => by
    rcases ok.free y hy e with kc | kf
    · exact I.ok.has _ (.inl kc)
    · exact I.ok.has _ (.inr kf)
  refine wpAny_comprehension_free (use := use) rfl hs (closure_ok hfr) ok.kind (fun y hy e => by rw [ok.uniq y hy, e])
    (thn (hi.run pins s σ H _ I h) fun xv k1 hx => thn hx fun itv k2 h2 => ?_)
  obtain ⟨it, fp, tn, J, G2, e, J2, T, u2, w2, q⟩ := h2
  subst e
  refine wpAny_newObj_type (newEnv_comp ?_) (show 0 ≤ sizeLine by decide)
  generalize dD : k2.heap.objs.size = D
  have zD : G2 D = none := J2.hok.fresh (Nat.le_of_eq dD)
  obtain ⟨W, ⟨m0, w0⟩, each⟩ := q D zD
  -- the new list
  generalize z3 : ({ k2 with heap := k2.heap.push { cls := .type "list", data := .seq ([] : List Value).toArray } } : Shared) = k3
  have J3 : Inv X pins σ (upd G2 D (.lst [])) k3 := by
    rw [← z3]
    refine J2.laid (t' := k2.toks) (fun b o e => Heap.get?_push_of_some _ e) (Nat.le_of_eq dD) ⟨Nat.zero_le _, [], 0, .nil, ?_⟩
    rw [← dD]; exact Heap.get?_push_size _ rfl
  have h3 : k3.heap = k2.heap.push { cls := .type "list", data := .seq ([] : List Value).toArray } := by rw [← z3]
  have big : ∀ b ∈ fp, b < k2.heap.objs.size := fun b hb => by
    obtain ⟨o, e, _⟩ := T.obj _ _ u2 b hb
    exact Heap.lt_size e
  have w3 : ∀ b ∈ fp, FpOk X pins (upd G2 D (.lst [])) b ∧ b < k3.heap.objs.size := fun b hb => by
    have hlt := big b hb
    refine ⟨⟨?_, (w2 b hb).2⟩, by rw [h3, Heap.size_push]; exact Nat.lt_succ_of_lt hlt⟩
    rw [upd_ne (by rw [← dD]; exact Nat.ne_of_lt hlt)]
    exact (w2 b hb).1
  have u3 : tn 0 k3.heap := T.keep _ _ _ u2 fun b _ o e => by rw [h3]; exact Heap.get?_push_of_some _ e
  have J4 := block_start J3 ok hN w3
  have hotB : ∀ env, HotB (X.blk k3 (upd G2 D (.lst [])) scope env fp) := fun env => hotB_blk hc J3 (fun b hb => (w3 b hb).1)
  have qg := hg k3 (upd G2 D (.lst [])) k3.heap.objs.size (cellsFrom (k3.heap.objs.size + 1) scope.names (cloFrom X.env.cells scope.names [])) fp (hotB _)
  have qt := ht k3 (upd G2 D (.lst [])) k3.heap.objs.size (cellsFrom (k3.heap.objs.size + 1) scope.names (cloFrom X.env.cells scope.names [])) fp
  have qe := he k3 (upd G2 D (.lst [])) k3.heap.objs.size (cellsFrom (k3.heap.objs.size + 1) scope.names (cloFrom X.env.cells scope.names [])) fp
  show codeAny _ _ (.compStart (.ListComp elt [⟨tg, iter, ifs, 0⟩] scope pos) 0 (.ref it) (.ref D) (compEnvC scope (cellsFrom (k3.heap.objs.size + 1) scope.names (cloFrom X.env.cells scope.names [])) k3.heap.objs.size X.env)) (compPost (model X.prog X.w) X.A X.xe use Qf (.ref D) k3.heap.objs.size) { k3 with heap := pushCells (k3.heap.push { cls := .type "dict", data := .dict #[] }) scope.names }
  have nof : ∀ b ∈ fp, (upd G2 D (.lst [])) b = none := fun b hb => (w3 b hb).1.1
  generalize hce : compEnvC scope (cellsFrom (k3.heap.objs.size + 1) scope.names (cloFrom X.env.cells scope.names [])) k3.heap.objs.size X.env = cE at J4 qg qt qe ⊢
  have locE : cE.locals = k3.heap.objs.size := by subst hce; rfl
  generalize hH3 : upd G2 D (.lst []) = G3 at J3 J4 qg qt qe w0 nof w3 hotB
  generalize z4 : ({ k3 with heap := pushCells (k3.heap.push { cls := .type "dict", data := .dict #[] }) scope.names } : Shared) = k4 at J4 ⊢
  have u4 : tn 0 k4.heap := T.keep _ _ _ u3 fun b _ o e => by rw [← z4]; exact pushCells_keeps _ _ _ _ (Heap.get?_push_of_some _ e)
  have stays : ∀ {σ' : St} {H' : Hp} {s' : Shared}, Inv (X.blk k3 G3 scope cE fp) [] σ' H' s' → (∀ b ∈ fp, H' b = none) → ∀ b ∈ fp, FpOk (X.blk k3 G3 scope cE fp) [] H' b := fun {σ' H' s'} I' hn b hb => ⟨hn b hb, (I'.ok.exf b hb).1, I'.ok.exfs b hb, .inl hb, fun x c e => (I'.ok.exf b hb).2 x c e, fun p hp => absurd (show p ∈ ([] : List (Addr × Obj)) ++ [] from hp) (by simp)⟩
  have walk : codeAny (model X.prog X.w) X.A (.compLoop (.ListComp elt [⟨tg, iter, ifs, 0⟩] scope pos) 0 (.ref it) (.ref D) cE) (compPost (model X.prog X.w) X.A X.xe use Qf (.ref D) k3.heap.objs.size) k4 := by
    refine compLoop_any (fun n s' => ∃ i H', Inv (X.blk k3 G3 scope cE fp) [] (wipe σ (own.map (·.2))) H' s' ∧ tn i s'.heap ∧ (∀ b ∈ fp, H' b = none) ∧ W i n H') ?_ m0 ⟨0, G3, J4, u4, nof, w0⟩
    rintro n k5 ⟨i, G5, J5, u5, n5, w5⟩
    rcases each i n G5 w5 with ⟨stop, qq⟩ | ⟨go, Nx, hNx, step⟩
    · have dn := T.done (X.blk k3 G3 scope cE fp) rfl rfl rfl (hotB cE) i [] k5 _ G5 (fun _ _ => False) J5 (stays J5 n5) u5 stop
      refine thnF dn fun r k6 ⟨hr, J6⟩ => ?_
      subst hr
      -- back in the def's context
      have J7 : Inv X pins σ G5 k6 := J3.call' (ch := fp) J6.os J6.base J6.hok J6.bare fun b hb => ⟨(w3 b hb).1.2.2.2.1, (w3 b hb).1.2.1, (w3 b hb).1.2.2.2.2.1, (w3 b hb).1.2.2.2.2.2⟩
      have nC : G5 k3.heap.objs.size = none := by
        have z : G5 cE.locals = none := J6.free
        rw [locE] at z
        exact z
      obtain ⟨m, hn, _⟩ := J6.loc
      have hn : k6.heap.Ns cE.locals m := hn
      rw [locE] at hn
      exact hRR D k3.heap.objs.size k6 m G5 J7 qq hn (J3.fpOk (Nat.le_refl _) nC)
    · have im := T.item (X.blk k3 G3 scope cE fp) rfl rfl rfl i [] k5 _ G5 (fun _ _ => False) J5 (stays J5 n5) u5 go
      refine thnF im fun r k6 ⟨u, hr, h6⟩ => ?_
      subst hr
      refine thnF h6 fun _ k7 ⟨x, G7, J7, r7, y7, u7, n7⟩ => ?_
      have J7p := J7.pinned (stays J7 n7) (T.obj _ _ u7)
      refine thnF (qg.run _ k7 _ G7 x u _ J7p r7 (step x G7 y7)) fun _ k8 ⟨σ8, G8, J8, hw8, q8⟩ => ?_
      refine thnF (qt.run _ k8 σ8 G8 _ J8 q8) fun b k9 ⟨G9, J9, q9⟩ => ?_
      -- the turn's end
      have ends : ∀ {s' : Shared} {H' : Hp}, Inv (X.blk k3 G3 scope cE fp) ([] ++ pinsAt fp k7.heap) σ8 H' s' → Nx H' → ∃ m, m < n ∧ ∃ i H', Inv (X.blk k3 G3 scope cE fp) [] (wipe σ (own.map (·.2))) H' s' ∧ tn i s'.heap ∧ (∀ b ∈ fp, H' b = none) ∧ W i m H' := fun {s' H'} I' nx => by
        obtain ⟨m', lt, w'⟩ := hNx H' nx
        have pin' : ∀ b ∈ fp, ∀ o, k7.heap.get? b = some o → s'.heap.get? b = some o ∧ H' b = none := fun b hb o e => let z := I'.pin (b, o) (List.mem_append_right _ (List.mem_append_right _ (mem_pinsAt hb e)))
          ⟨z.1, z.2.1⟩
        have hl : (wipe σ (own.map (·.2))).length = σ8.length := by rw [← hw8]; exact wipe_length ..
        refine ⟨m', lt, i + 1, H', (I'.unpinned (pins := [])).weak hl (fun j v e => ?_), T.keep _ _ _ u7 fun b hb o e => (pin' b hb o e).1, fun b hb => ?_, w'⟩
        · rw [← hw8] at e
          exact (wipe_some e).1
        · obtain ⟨o, e, _⟩ := T.obj _ _ u7 b hb
          exact (pin' b hb o e).2
      cases b with
      | false =>
        simp only [Bool.false_eq_true, if_false] at q9 ⊢; exact ends J9 q9
      | true =>
        simp only [if_true] at q9 ⊢
        refine thnF (qe.run _ k9 σ8 G9 _ J9 q9) fun z k10 ⟨yv, G10, J10, r10, acc, hD10, hz10, nx⟩ => ?_
        exact app_ok (X := X.blk k3 G3 scope cE fp) J10 hD10 hz10 r10 fun k11 J11 => ends J11 nx
  exact codeAny_compStart_list walk (T.self X.A 0 _ _ _ u4 walk)
/-- as a value -/
theorem pe_lcHot {elt tg iter : Expr} {ifs : List Expr} {scope : Scope} {own : List (Str × Nat)} {pos : Pos} {wi : TI} {g : TG} {tt : TT} {te : TE} (hc : L2H.HotC X) (hN : X.N.Nodup) (hi : PIB X tg iter wi) (ok : BlkOk X.N X.env.scope scope own)
    (hg : ∀ (s : Shared) (H : Hp) (Ca : Addr) (cl : List (Str × Addr)) (fp : List Addr), HotB (X.blk s H scope (compEnvC scope cl Ca X.env) fp) → PG (X.blk s H scope (compEnvC scope cl Ca X.env) fp) tg g) (ht : ∀ (s : Shared) (H : Hp) (Ca : Addr) (cl : List (Str × Addr)) (fp : List Addr), PTs (X.blk s H scope (compEnvC scope cl Ca X.env) fp) ifs tt)
    (he : ∀ (s : Shared) (H : Hp) (Ca : Addr) (cl : List (Str × Addr)) (fp : List Addr), PE (X.blk s H scope (compEnvC scope cl Ca X.env) fp) elt te) (hs : ∀ x, foldedSetIterable iter X.env x = pure x) :
    PE X (.ListComp elt [⟨tg, iter, ifs, 0⟩] scope pos) (tLc wi g tt te (own.map (·.2))) := by
  refine ⟨fun pins s σ H Q I h => ?_⟩
  rw [eval_ListComp]
  refine lcHot hc hN I hi ok hg ht he hs h fun D C t m H' I' q hn ⟨f0, f1, f2, f3, f4, f5⟩ => ⟨m, hn, fun g sb => ?_⟩
  exact ⟨.ref D, H', I'.turned (t' := t.toks) (fun b o hb e => (sb.2 b hb).trans e) f0 f1 f3 f4 f5, rfl, q⟩
end
/-! ### a, b = t while an exception is handled -/
section
variable {prog : Program} {w : World} {A : Around} {E : Value → Shared → Prop} {s : Shared}
open PyProof.Rows in
/-- a tuple walk ends there -/
theorem next_tend_hot {it l x1 : Addr} {i : Nat} {items : Array Value} {R : Option Value → Shared → Prop} (hot : HotX.HotAt A x1 s.heap) (ne : x1 ≠ it)
    (isit : IsTupIter s.heap it l i) (isl : IsTup s.heap l items) (off : items[i]? = none)
    (q : ∀ h', Heap.ExtBut it s.heap h' → R none { s with heap := h' }) : wpAny (model prog w) A (pyNext (.ref it)) R E s := by
  obtain ⟨o, go, co, dO⟩ := id isit
  obtain ⟨ol, gol, _, nl, dl⟩ := isl
  obtain ⟨hh, o1, vs1, h1, d1, c1⟩ := hot
  unfold pyNext
  refine wpAny_bind (wpAny_attempt (wpAny_callSpecial?_slot (name := Str.ofString "__next__") isit.typeIs slot_tupleiter_next (wpAny_call_entry slot_tupleiter_next isit.typeIs entry_tupleiter_next ?_ (args_tupleiter_next _))))
  show wpAny _ _ (field (.ref it) 0 >>= fun _ => _) _ _ s
  refine wpAny_bind (wpAny_field go dO (x := .ref l) rfl ?_)
  show wpAny _ _ (if (Value.ref l == Value.none) = true then _ else (field (.ref it) 1 >>= fun _ => _)) _ _ s
  rw [if_neg (show ¬ ((Value.ref l == Value.none) = true) from fun z => Bool.noConfusion z)]
  refine wpAny_bind (wpAny_field go dO (x := .int i 0) rfl ?_)
  show wpAny _ _ (seqItems? (.ref l) >>= fun _ => _) _ _ s
  refine wpAny_bind (wpAny_seqItems gol dl ?_)
  simp only [Int.toNat_natCast, off]
  refine wpAny_bind (wpAny_rule (wpAny_bind (wpAny_setField go dO (by simp) ?_)))
  show wpAny _ _ (newExc (.type "StopIteration") [] >>= fun _ => _) _ _ _
  refine wpAny_bind ?_
  simp only [newExc, newTuple]
  refine wpAny_bind (wpAny_newObj_type ?_ (by size_fits))
  refine wpAny_bind (m := firstArgMember _ _) (wpAny_of_eq (a := Value.none) (by first | rfl | (simp only [firstArgMember]; rfl)) (wpAny_newObj_type ?_ (by size_fits)))
  have g1 : (s.heap.update it (Obj.mapFields (·.setIfInBounds 0 .none))).get? x1 = some o1 := by
    rw [Heap.get?_update_other _ _ (Ne.symm ne)]
    exact h1
  refine HotX.raiseNew_hot ⟨hh, o1, vs1, Heap.get?_push_of_some _ (Heap.get?_push_of_some _ g1), d1, c1⟩ (Nat.ne_of_lt (Heap.lt_size (Heap.get?_push_of_some _ g1))) (Heap.get?_push_size _ rfl) rfl (by first | (simp; done) | (simp; omega) | (simp only [Array.size_append]; simp; omega)) ?_
  refine wpAny_bind (wpAny_isInstance (T := "StopIteration") (b := true) ⟨_, Heap.get?_update_self _ (Heap.get?_push_size _ rfl) rfl, rfl⟩ isSubtype_stop (wpAny_pure (q _ fun b o' hb e => ?_)))
  have g2 : (s.heap.update it (Obj.mapFields (·.setIfInBounds 0 .none))).get? b = some o' := by
    rw [Heap.get?_update_other _ _ (Ne.symm hb)]
    exact e
  rw [Heap.get?_update_other _ _ (Nat.ne_of_gt (Heap.lt_size (Heap.get?_push_of_some _ g2)))]
  exact Heap.get?_push_of_some _ (Heap.get?_push_of_some _ g2)
/-- the handled exception is another object than the new iterator, and stays -/
theorem hot_new {x1 : Addr} {h h1 : Heap} {o : Obj} (hot : HotX.HotAt A x1 h) (sb : Heap.SameBut h.objs.size (h.push o) h1) : HotX.HotAt A x1 h1 ∧ x1 ≠ h.objs.size := by
  obtain ⟨hh, o1, vs1, e1, d1, c1⟩ := hot
  have ne : x1 ≠ h.objs.size := Nat.ne_of_lt (Heap.lt_size e1)
  exact ⟨⟨hh, o1, vs1, sb.extBut x1 o1 ne (Heap.get?_push_of_some _ e1), d1, c1⟩, ne⟩
open PyProof.Rows in
theorem items_tupH {t x1 : Addr} {items : Array Value} {R : List Value → Shared → Prop} (hot : HotX.HotAt A x1 s.heap) (ht : IsTup s.heap t items)
    (q : ∀ h', Heap.ExtBut s.heap.objs.size s.heap h' → R items.toList { s with heap := h' }) : wpAny (model prog w) A (unpackItems (.ref t) items.size none) R E s := by
  have ne : t ≠ s.heap.objs.size := by obtain ⟨o, ho, _⟩ := ht; exact Nat.ne_of_lt (Heap.lt_size ho)
  unfold unpackItems
  refine wpAny_bind ?_
  unfold notIterableAtAll
  refine wpAny_bind (wpAny_specialOf ht.typeIs slot_tuple_iter.lookup (wpAny_pure ?_))
  simp only [Bool.false_eq_true, if_false]
  refine wpAny_bind (wpAny_holding (iter_tuple ht (wpAny_bind (wpAny_holding (draw_tuple ne items.size 0 _ _ ⟨_, Heap.get?_push_size _ rfl, rfl, rfl⟩ (ht.push _) (by omega) fun g1 hit sb => ?_)))))
  rw [show List.take items.size (List.drop 0 items.toList) = items.toList by rw [List.drop_zero]; exact List.take_of_length_le (by simp), if_neg (by simp)]
  obtain ⟨hot1, ne1⟩ := hot_new hot sb
  refine wpAny_bind (wpAny_holding (next_tend_hot hot1 ne1 hit ((ht.push _).extBut sb.extBut ne) (by simp) fun g2 eb => ?_))
  simp only [Option.isSome_none, Bool.false_eq_true, if_false]
  exact wpAny_pure (q g2 fun b o hb e => eb b o hb (sb.extBut b o hb (Heap.get?_push_of_some _ e)))
theorem items_lstH {l x1 : Addr} {items : Array Value} {R : List Value → Shared → Prop} (hot : HotX.HotAt A x1 s.heap) (hl : s.heap.IsList l items)
    (q : ∀ h', Heap.ExtBut s.heap.objs.size s.heap h' → R items.toList { s with heap := h' }) : wpAny (model prog w) A (unpackItems (.ref l) items.size none) R E s := by
  have ne : l ≠ s.heap.objs.size := by obtain ⟨o, ho, _⟩ := hl; exact Nat.ne_of_lt (Heap.lt_size ho)
  unfold unpackItems
  refine wpAny_bind ?_
  unfold notIterableAtAll
  refine wpAny_bind (wpAny_specialOf hl.typeIs slot_list_iter.lookup (wpAny_pure ?_))
  simp only [Bool.false_eq_true, if_false]
  refine wpAny_bind (wpAny_holding (wpAny_pyIter_list hl (wpAny_bind (wpAny_holding (PySem.W.kun_draw ne items.size 0 _ _ ⟨_, Heap.get?_push_size _ rfl, rfl, rfl⟩ (hl.push _) (by omega) fun g1 hit sb => ?_)))))
  rw [show List.take items.size (List.drop 0 items.toList) = items.toList by rw [List.drop_zero]; exact List.take_of_length_le (by simp), if_neg (by simp)]
  obtain ⟨hot1, ne1⟩ := hot_new hot sb
  refine wpAny_bind (wpAny_holding (next_end_hot hot1 ne1 hit ((hl.push _).extBut sb.extBut ne) (by simp) fun g2 eb => ?_))
  simp only [Option.isSome_none, Bool.false_eq_true, if_false]
  exact wpAny_pure (q g2 fun b o hb e => eb b o hb (sb.extBut b o hb (Heap.get?_push_of_some _ e)))
end
section
variable {X : Cx} {pos : Pos}
theorem pg_tupH {es : List Expr} {k : Nat} {t : TGs} {n : Nat} (hb : HotB X) (h : PGs X es t) (hn : (assignEach es X.env).length = n) (hst : (assignEach es X.env).findIdx? (·.1) = none) : PG X (.Tuple es k pos) (gTup X.K n t) := by
  refine ⟨fun ps s σ H v u Q I r ⟨a, xs, e1, hq, hl, hw⟩ => ?_⟩
  subst e1
  cases r
  obtain ⟨its, rv, ht, hz⟩ := I.tuple hq
  obtain ⟨x1, hot⟩ := hb.at I
  rw [PyProof.Rows.assign_Tuple]
  refine wpAny_bind (wpAny_standAt ?_)
  unfold unpack
  rw [show (assignEach es X.env).length = its.toArray.size by simp [hn, ← hl, rv.length], hst]
  refine wpAny_bind (wpAny_holding (items_tupH hot ht fun g hx => ?_))
  exact h.run ps _ σ H xs _ Q (I.kept (t' := s.toks) fun b o e => hx b o (Nat.ne_of_lt (Heap.lt_size e)) e) (by simpa using rv) hw
theorem pg_lstH {es : List Expr} {k : Nat} {t : TGs} {n : Nat} (hb : HotB X) (h : PGs X es t) (hn : (assignEach es X.env).length = n) (hst : (assignEach es X.env).findIdx? (·.1) = none) : PG X (.Tuple es k pos) (gLst X.K n t) := by
  refine ⟨fun ps s σ H v u Q I r ⟨a, xs, e1, hq, hl, hw⟩ => ?_⟩
  subst e1
  cases r
  obtain ⟨its, rv, pl, hz⟩ := I.list hq
  obtain ⟨x1, hot⟩ := hb.at I
  rw [PyProof.Rows.assign_Tuple]
  refine wpAny_bind (wpAny_standAt ?_)
  unfold unpack
  rw [show (assignEach es X.env).length = its.toArray.size by simp [hn, ← hl, rv.length], hst]
  refine wpAny_bind (wpAny_holding (items_lstH hot pl.isList fun g hx => ?_))
  exact h.run ps _ σ H xs _ Q (I.kept (t' := s.toks) fun b o e => hx b o (Nat.ne_of_lt (Heap.lt_size e)) e) (by simpa using rv) hw
end
end L2
end

section
set_option linter.all false
set_option maxRecDepth 100000
namespace Eng
open PySem PySem.Spec PyProof.Rows
open L2 (V HO Hp VK TE TS TA TT TI TG TGs TSet PGs PSet WX XK SqL SqT Rd upd upd_same upd_ne upd_upd Key kV Mut RelV Vals Inv Cx PE PS PT PW PA PI PG PSs PTs Takes tVar tNil tCons tOp Vis Loc Gl Room OpR R2 EP Dp DpAll TruR TruV IxR CallR FnOk Sp Ends PassesAt BlkOk DPut valV SlR MtR)
section
variable {Dw : Wd} {n : Nat} {S : Sx} {X : Cx} {Γ : Gm} {W : WX} {v : Ev} {m : Mod} {c : Nat}
/-! ### d.get(k, x), k an int or a text -/
theorem nd_get2 {o k x : E} {eo ek ex : Expr} {apos cpos : Pos} (C : Ctx Dw n S X Γ W) (ho : PE X eo (tO v Γ W 1 o)) (hk : PE X ek (tO v Γ W 1 k)) (hx : PE X ex (tO v Γ W 1 x)) (hs : notStar ek = true) (hs2 : notStar ex = true) (hbase : attributeBase eo "get" X.env (eval eo X.env) = eval eo X.env) (hline : (apos.endLine == cpos.line) = true) : PE X (.Call (.Attribute eo "get" apos) [ek, ex] [] cpos) (tE (step m v) Γ W (.mt .get o [k, x])) := by
  have un := C.un
  have hK : X.K = Γ.p.K := by rw [C.K, C.pK]
  have st : starEach [ek, ex] X.env = (false, eval ek X.env) :: starEach [ex] X.env := star_ok hs
  have st2 : starEach [ex] X.env = (false, eval ex X.env) :: starEach [] X.env := star_ok hs2
  have M : L2.M2 X eo "get" apos ek ex cpos := { base := hbase, few := by rw [st, st2]; rfl, line := hline, trees := by rw [st, st2]; rfl }
  refine pe_mono (L2.pe_dget2 (by omega) ho hk hx M) fun σ H Q ⟨env, Fs, ts, s, q⟩ => ?_
  have q : PR Γ W σ ts Q (if mtPre v .get o env then ops v 1 [o, k, x] env (fun ds env => match ds with
    | x :: ds => okO (mtf .get x ds) env
    | _ => .bad) else .bad) := q
  have z := mt_run (Ty := fun x H1 => ∃ a, x = V.ref a ∧ L2.IsD H1 a) (R' := fun x xs H2 => match xs with | [y, z] => ∀ a, x = V.ref a → ∃ o, L2.DGet H2 a y o ∧ Q (o.getD z) H2 | _ => False) s q (fun d k u F H' hsh own => ?_) fun ds dsP env' x0 xs H' Fs' tl s' op hp q' => ?_
  · refine tO_mono (fun u H1 h1 => ?_) z
    obtain ⟨⟨a, e1, e2⟩, h2⟩ := h1
    refine ⟨a, e1, e2, ?_⟩
    refine tO_mono (fun y H2 h3 => tO_mono (fun z H3 h4 => h4 a e1) h3) (show tO v Γ W 1 k σ H1 _ from h2)
  · cases d with
    | dic ks vs =>
      obtain ⟨a, w, ws, e1, r1, d1⟩ := own_dic own
      refine ⟨a, e1, ?_⟩
      rcases d1.2 with ⟨kvs, e, _⟩ | ⟨kvs, e, _⟩
      · exact .inl ⟨kvs, by rw [← e]; exact r1⟩
      · exact .inr ⟨kvs, by rw [← e]; exact r1⟩
    | _ => cases hsh
  · have vw := opv op s' hp
    obtain ⟨u1, u2, e⟩ := two_of (l := xs) (by have := op.len; simpa using this)
    subst e
    cases vw with | @cons d1 n1 _ F1 _ _ o1 vw => cases vw with | @cons d2 n2 _ F2 _ _ o2 vw => cases vw with | @cons d3 n3 _ F3 _ _ o3 vw => cases vw with | nil =>
    intro a ea
    cases d1 with
    | dic ks vs =>
      have q' : PR Γ W σ ts Q (okO (if flatKey d2 && keyFor ks d2 then match dget d2 ks vs with | some v => getD' n1 v | none => if n3 = 9 then some (d3, 9) else none else none) env') := q'
      by_cases hc : (flatKey d2 && keyFor ks d2) = true
      · rw [if_pos hc] at q'
        obtain ⟨hc1, hc2⟩ := and_ok hc
        have rk := own_key o2 (keyFor_ok hc2)
        have dg : ∀ {r : Option V}, GetD H' a u1 r → L2.DGet H' a u1 r := fun {r} g => by
          rcases g with g | ⟨_, _, b, k, e1, e2⟩
          · exact g
          · exfalso
            cases d2 with
            | int i => rw [show u1 = V.int i from rk] at e1; cases e1
            | str i => rw [show u1 = V.str i from rk] at e1; cases e1
            | _ => cases hc1
        cases hg : dget d2 ks vs with
        | none =>
          rw [hg] at q'
          obtain ⟨a', e1, g⟩ := own_getN o1 rk hc2 hg
          rw [ea] at e1; cases e1
          refine ⟨none, dg g, ?_⟩
          by_cases h9 : n3 = 9
          · have q' : PR Γ W σ ts Q (okO (if n3 = 9 then some (d3, 9) else none) env') := q'
            rw [if_pos h9] at q'
            obtain ⟨r3, _⟩ := o3.rep (.inr h9)
            exact res0 s' q' (Own.of r3 (.inr ⟨rfl, o3.flag h9⟩))
          · have q' : PR Γ W σ ts Q (okO (if n3 = 9 then some (d3, 9) else none) env') := q'
            rw [if_neg h9] at q'
            exact q'.elim
        | some dv =>
          rw [hg] at q'
          dsimp only at q'
          cases hd : getD' n1 dv with
          | none => rw [hd] at q'; exact q'.elim
          | some y =>
            rw [hd] at q'
            obtain ⟨e, hn⟩ := getD'_ok hd
            subst e
            obtain ⟨a', w, e1, g, rv⟩ := own_getD o1 rk hc2 hg (by
              rcases hn with h | h | h
              · exact .inl h
              · exfalso; subst h; exact absurd (o1.flag rfl) (by simp [D.noMut])
              · exact .inr h)
            rw [ea] at e1; cases e1
            exact ⟨some w, dg g, res0 s' q' (own_flag rv)⟩
      · rw [if_neg hc] at q'; exact q'.elim
    | _ => exact q'.elim
end
end Eng
end

section
set_option linter.all false
set_option maxRecDepth 100000
namespace Eng
open PySem PySem.Spec PyProof.Rows
open L2 (V HO Hp VK TE TS TA TT TI TG TGs TSet PGs PSet WX XK SqL SqT Rd upd upd_same upd_ne upd_upd Key kV Mut RelV Vals Inv Cx PE PS PT PW PA PI PG PSs PTs tVar tNil tCons tOp Vis Loc Gl Room OpR R2 EP Dp DpAll TruR TruV IxR CallR FnOk Sp Ends PassesAt BlkOk DPut valV SlR MtR PIB)
section
variable {Dw : Wd} {n : Nat} {S : Sx} {X : Cx} {Γ : Gm} {W : WX} {v : Ev} {m : Mod} {c : Nat}
/-! ### sep.join(list of texts) -/
theorem strs_rep {p : Par} {H : Hp} : ∀ {l : List D} {vs : List V} {ys : List Str}, RepL p H l vs → strsOf l = some ys → vs = ys.map V.str
  | [], vs, ys, r, h => by cases h; exact r
  | d :: l, vs, ys, r, h => by
    obtain ⟨v, vr, e, r1, r2⟩ := r
    subst e
    cases d with
    | str x =>
      have h : (strsOf l).map (x :: ·) = some ys := h
      obtain ⟨zs, h1, e⟩ := Option.map_eq_some_iff.mp h
      subst e
      rw [strs_rep r2 h1, show v = V.str x from r1]
      rfl
    | _ => cases h
theorem strs_own {p : Par} {H : Hp} {k : Nat} : ∀ {l : List D} {vs : List V} {F : List Addr} {ys : List Str}, OwnL p H k l vs F → strsOf l = some ys → vs = ys.map V.str
  | [], vs, F, ys, r, h => by cases h; exact r.1
  | d :: l, vs, F, ys, r, h => by
    obtain ⟨v, vr, G1, G2, e, r1, r2, _⟩ := r
    subst e
    cases d with
    | str x =>
      have h : (strsOf l).map (x :: ·) = some ys := h
      obtain ⟨zs, h1, e⟩ := Option.map_eq_some_iff.mp h
      subst e
      rw [strs_own r2 h1, show v = V.str x from r1.1]
      rfl
    | _ => cases h
theorem lst_strs {p : Par} {H : Hp} {k : Nat} {l : List D} {u : V} {F : List Addr} {ys : List Str} (o : Own p H k (.lst l) u F) (h : strsOf l = some ys) : ∃ a, u = .ref a ∧ SqL p.K H a (ys.map V.str) := by
  rcases o with ⟨_, ⟨a, vs, ob, e, h1, r⟩, _⟩ | ⟨j, a, vs, G, _, _, e, h1, r, _⟩
  · rw [strs_rep r h] at h1
    exact ⟨a, e, .inl (.inr ⟨ob, h1⟩)⟩
  · rw [strs_own r h] at h1
    exact ⟨a, e, .inl (.inl h1)⟩
theorem nd_join {o k : E} {eo ek : Expr} {apos cpos : Pos} (C : Ctx Dw n S X Γ W) (ho : PE X eo (tO v Γ W 1 o)) (hk : PE X ek (tO v Γ W 1 k)) (hs : notStar ek = true) (hbase : attributeBase eo "join" X.env (eval eo X.env) = eval eo X.env) (hline : (apos.endLine == cpos.line) = true) : PE X (.Call (.Attribute eo "join" apos) [ek] [] cpos) (tE (step m v) Γ W (.mt .join o [k])) := by
  have hK : X.K = Γ.p.K := by rw [C.K, C.pK]
  have st : starEach [ek] X.env = [(false, eval ek X.env)] := star_ok hs
  refine pe_mono (L2.pe_join ho hk st hbase hline) fun σ H Q ⟨env, Fs, ts, s, q⟩ => ?_
  have q : PR Γ W σ ts Q (if mtPre v .join o env then ops v 1 [o, k] env (fun ds env => match ds with
    | x :: ds => okO (mtf .join x ds) env
    | _ => .bad) else .bad) := q
  have z := mt_run (Ty := fun x H1 => ∃ a, x = V.str a) (R' := fun x xs H2 => ∃ a p, ∃ ys : List Str, x = .str a ∧ xs = [.ref p] ∧ (SqL X.K H2 p (ys.map V.str) ∨ SqT X.K H2 p (ys.map V.str)) ∧ (ys.map (·.length)).sum + ys.length * a.length ≤ 16777216 ∧ Q (.str (Txt.join a ys)) H2) s q (fun d k u F H' hsh own => by
    cases d with
    | str x => exact ⟨x, own_str own⟩
    | _ => cases hsh) fun ds dsP env' x xs H' Fs' tl s' op hp q' => by
    have vw := opv op s' hp
    obtain ⟨u1, e⟩ := one_of (l := xs) (by have := op.len; simpa using this)
    subst e
    cases vw with | @cons d1 n1 _ F1 _ _ o1 vw => cases vw with | @cons d2 n2 _ F2 _ _ o2 vw => cases vw with | nil =>
    cases d1 with
    | str a =>
      cases d2 with
      | lst l =>
        have q' : PR Γ W σ ts Q (okO ((strsOf l).bind fun l => if (l.map (·.length)).sum + l.length * a.length ≤ 16777216 then some (.str (Str.join a l), 9) else none) env') := q'
        cases hl : strsOf l with
        | none => rw [hl] at q'; exact q'.elim
        | some ys =>
          rw [hl] at q'
          have q' : PR Γ W σ ts Q (okO (if (ys.map (·.length)).sum + ys.length * a.length ≤ 16777216 then some (.str (Str.join a ys), 9) else none) env') := q'
          split at q'
          · rename_i hz
            obtain ⟨p, e, sq⟩ := lst_strs o2 hl
            subst e
            refine ⟨a, p, ys, own_str o1, rfl, .inl (by rw [hK]; exact sq), hz, ?_⟩
            rw [TL.join_eq]
            exact res0 s' q' ⟨rfl, rfl, fun _ => rfl⟩
          · exact q'.elim
      | _ => exact q'.elim
    | _ => exact q'.elim
  refine tO_mono (fun u H1 h1 => ?_) z
  exact h1
/-! ### a list comprehension while an exception is handled -/
theorem hotC_of (C : Ctx Dw n S X Γ W) (hx : S.exc = true) : L2H.HotC X := by
  obtain ⟨X0, a, oe, pn, cc, pay, d, eX, hz, ⟨vs, hv⟩, _⟩ := C.exc hx
  subst eX
  exact ⟨(a, oe), ⟨rfl, vs, hv, hz.2.2 vs hv⟩, List.mem_cons_self⟩
theorem niB_lval {a : E} {ea tg : Expr} (C : Ctx Dw n S X Γ W) (hn : isPl a = none) (ha : PE X ea (tO v Γ W 0 a)) : PIB X tg ea (tI (step m v) Γ W (.lval a)) := by
  refine ⟨fun pins s σ H R I ⟨env, Fs, ts, sr, q⟩ => ?_⟩
  have hK : X.K = Γ.p.K := C.K.trans C.pK.symm
  rcases on1 (v := v) hn sr q with h | ⟨d, k0, env', l, hr, hl, key⟩
  · exact (L2.piB_list ha).run pins s σ H R I (on1x hn sr q h)
  · cases d with
    | lst x =>
      cases hl
      refine (L2.piB_list ha).run pins s σ H R I (key _ fun u H' F Fs' s' k => ?_)
      obtain ⟨r, eF⟩ := tmp0 s' ⟨k0, rfl⟩
      obtain ⟨b, vs, ob, e1, e2, r⟩ := r
      have e1 : u = .ref b := e1
      subst e1
      rw [hK]
      exact ⟨b, rfl, ⟨vs, .inl (.inr ⟨ob, e2⟩)⟩, k _ H' Fs' [_] s' (walks_lst rfl rfl ⟨k0, rfl⟩)⟩
    | _ => cases hl
/-- a, b = v there -/
theorem ng_tpH {t : List T} {es : List Expr} {k : Nat} {pos : Pos} (C : Ctx Dw n S X Γ W) (hb : L2.HotB X) (h : PGs X es (tGs Γ t)) (hl : t.length = es.length) (hs : es.all notStar = true) : PG X (.Tuple es k pos) (tG Γ (.tp t)) := by
  obtain ⟨a1, a2⟩ := assign_len (env := X.env) hs
  refine ⟨fun pins s σ H w u Q I r ⟨env, Fs, ts, d, k, F, sr, q⟩ => ?_⟩
  have q : match ((seqOf d).bind fun l => if l.length = t.length && shareOk d k then asgL t (flg l) env else none) with
    | some env' => ∀ σ' H' Fs', Only (tSlotsL t) σ σ' → SR Γ H' env' σ' Fs' ts → Q σ' H'
    | none => False := q
  have fin : ∀ (l : List D) (vs : List V), RepL Γ.p H l vs → l.length = t.length → (match asgL t (flg l) env with
    | some env' => ∀ σ' H' Fs', Only (tSlotsL t) σ σ' → SR Γ H' env' σ' Fs' ts → Q σ' H'
    | none => False) → vs.length = es.length ∧ tGs Γ t vs σ H Q := fun l vs r hl2 q => by
    obtain ⟨tl, b1, b2, b3⟩ := sr.pop.pushL r
    exact ⟨by rw [r.len, hl2, hl], env, Fs, ts, tl, b1, b3, by rw [b2]; exact q⟩
  cases d with
  | tup l =>
    have q : match (if l.length = t.length && shareOk (.tup l) k then asgL t (flg l) env else none) with
      | some env' => ∀ σ' H' Fs', Only (tSlotsL t) σ σ' → SR Γ H' env' σ' Fs' ts → Q σ' H'
      | none => False := q
    split at q
    · rename_i env' he
      split at he
      · rename_i hc
        obtain ⟨a, vs, e, h1, rr⟩ := own_tup (sr.tmp _ List.mem_cons_self)
        obtain ⟨f1, f2⟩ := fin l vs rr (of_decide_eq_true (and_ok hc).1) (by rw [he]; exact q)
        exact (L2.pg_tupH hb h (by rw [a1]) a2).run pins s σ H w u Q I r ⟨a, vs, e, .inl (.inl h1), f1, f2⟩
      · cases he
    · exact q.elim
  | lst l =>
    have q : match (if l.length = t.length && shareOk (.lst l) k then asgL t (flg l) env else none) with
      | some env' => ∀ σ' H' Fs', Only (tSlotsL t) σ σ' → SR Γ H' env' σ' Fs' ts → Q σ' H'
      | none => False := q
    split at q
    · rename_i env' he
      split at he
      · rename_i hc
        obtain ⟨c1, c2⟩ := and_ok hc
        obtain ⟨a, vs, e, h1, rr⟩ := own_lstR (sr.tmp _ List.mem_cons_self) c2
        obtain ⟨f1, f2⟩ := fin l vs rr (of_decide_eq_true c1) (by rw [he]; exact q)
        exact (L2.pg_lstH hb h (by rw [a1]) a2).run pins s σ H w u Q I r ⟨a, vs, e, .inl h1, f1, f2⟩
      · cases he
    · exact q.elim
  | _ => exact q.elim
theorem nd_lcH {own : List Nat} {ownp : List (Str × Nat)} {elt a : E} {t : T} {ifs : List E} {ee et ei : Expr} {eifs : List Expr} {scope : Scope} {pos : Pos} (C : Ctx Dw n S X Γ W) (hx : S.exc = true) (hown : ownp.map (·.2) = own) (nd : own.Nodup) (hp : ∀ i ∈ own, i ∉ S.pins) (hsl : ∀ i ∈ tSlots t, i ∈ own)
    (ok : BlkOk X.N X.env.scope scope ownp) (hi : PIB X et ei (tI v Γ W (.lval a)))
    (hg : ∀ (s : Shared) (H : Hp) (C : Addr) (cl : List (Str × Addr)) (fp : List Addr) H1 L, L2.HotB (X.blk s H scope (compEnvC scope cl C X.env) fp) → PG (X.blk s H scope (compEnvC scope cl C X.env) fp) et (tG (Γ.at H1 L) t))
    (ht : ∀ (s : Shared) (H : Hp) (C : Addr) (cl : List (Str × Addr)) (fp : List Addr) H1 L, PTs (X.blk s H scope (compEnvC scope cl C X.env) fp) eifs (tIfs v (Γ.at H1 L) noX ifs))
    (he : ∀ (s : Shared) (H : Hp) (C : Addr) (cl : List (Str × Addr)) (fp : List Addr) H1 L, PE (X.blk s H scope (compEnvC scope cl C X.env) fp) ee (tE v (Γ.at H1 L) noX elt))
    (hs : ∀ x, foldedSetIterable ei X.env x = pure x) : PE X (.ListComp ee [⟨et, ei, eifs, 0⟩] scope pos) (tE (step m v) Γ W (.lc own elt t (.lval a) ifs)) :=
  pe_mono (L2.pe_lcHot (hotC_of C hx) (by rw [C.N]; exact C.nd) hi ok (fun s H C cl fp hb => pg_any (fun H1 L => hg s H C cl fp H1 L hb)) (fun s H C cl fp => pts_any (ht s H C cl fp)) (fun s H C cl fp => pe_lkS (pe_any (he s H C cl fp))) hs) fun σ H Q h => lc_imp C hown nd hp hsl σ H Q h
end
end Eng
end

section
set_option linter.all false
set_option maxRecDepth 100000
namespace L2
open PySem PySem.Spec PyProof.Rows
/-- len(set(t)), t a tuple of ints -/
theorem pe_lenSetT {X : Cx} {a : Expr} {ta : TE} {p p2 q pos : Pos} (hc : X.calm = true) (hg : Gl X "len") (hm : X.mg "len" = none) (hg2 : Gl X "set") (hm2 : X.mg "set" = none) (ha : PE X a ta) (na : starEach [a] X.env = (false, eval a X.env) :: starEach [] X.env) :
    PE X (.Call (.Name "len" p) [.Call (.Name "set" p2) [a] [] q] [] pos) (fun σ H Q => ta σ H fun x H1 => ∃ (l : Addr) (ns : List Int), x = .ref l ∧ SqT X.K H1 l (ns.map V.int) ∧ ns.length ≤ 4000 ∧ ∀ ms : List Int, ms.Nodup → (∀ k, k ∈ ms ↔ k ∈ ns) → Q (.int ms.length) H1) := by
  refine ⟨fun pins s σ H Q I h => Call_ (ld_blt I hg hm boot_len (PyProof.Rows.callWith_builtin1 (PyProof.Rows.args_cons (Call_ (ld_blt I hg2 hm2 boot_set ?_)) rfl) rfl rfl))⟩
  refine PyProof.Rows.callWith_type1 (PyProof.Rows.args_cons (thn (ha.run pins s σ H _ I h) fun v t ⟨x, H1, I1, r1, l, ns, e, hq, hl, q1⟩ => PyProof.Rows.args_nil ?_) na) na rfl
  subst e
  cases r1
  obtain ⟨its, r, pt, hz⟩ := I1.tuple hq
  refine call_set_tupI ns (I1.ok.hd hc) (show t.heap.IsTuple l its.toArray from pt) (by simpa using r.ints) (by unfold scanBound; omega) fun g tk c R hcn k => PyProof.Rows.args_nil ?_
  obtain ⟨o, es, ep, tb, ho, hex, hd, _, hnd, hmem, hsz, hf, hn, _, _⟩ := R
  have I2 : Inv X pins σ H1 { t with heap := g, toks := tk } := I1.kept fun b o e => k b o e
  have q2 := q1 (es.toList.map keyOf) hnd fun j => by rw [← hmem j]; simp
  have el : (es.toList.map keyOf).length = es.size := by simp
  rw [el] at q2
  exact call_len_set ho hex hd hf (by unfold scanBound at hsz; omega) ⟨.int es.size, H1, I2.tok _, ⟨_, rfl⟩, q2⟩
end L2
namespace Eng
open PySem PySem.Spec PyProof.Rows
open L2 (V HO Hp VK TE TS TA TT TI TG TGs TSet PGs PSet WX XK SqL SqT Rd upd upd_same upd_ne upd_upd Key kV Mut RelV Vals Inv Cx PE PS PT PW PA PI PG PSs PTs tVar tNil tCons tOp Vis Loc Gl Room OpR R2 EP Dp DpAll TruR TruV IxR CallR FnOk Sp Ends PassesAt BlkOk DPut valV SlR MtR)
section
variable {Dw : Wd} {n : Nat} {S : Sx} {X : Cx} {Γ : Gm} {W : WX} {v : Ev} {m : Mod} {c : Nat}
theorem dedI_mem : ∀ (l : List Int) (k : Int), k ∈ dedI l ↔ k ∈ l
  | [], k => Iff.rfl
  | x :: l, k => by
    unfold dedI
    split
    · rename_i h
      rw [dedI_mem l k, List.mem_cons]
      exact ⟨.inr, fun z => z.elim (fun e => by rw [e]; simpa using h) id⟩
    · rw [List.mem_cons, List.mem_cons, dedI_mem l k]
theorem dedI_nodup : ∀ (l : List Int), (dedI l).Nodup
  | [] => .nil
  | x :: l => by
    unfold dedI
    split
    · exact dedI_nodup l
    · rename_i h
      exact List.nodup_cons.mpr ⟨fun z => h (by simpa using (dedI_mem l x).mp z), dedI_nodup l⟩
theorem intsV {p : Par} {H : Hp} : ∀ {l : List D} {vs : List V} {ys : List Int}, RepL p H l vs → intsOf l = some ys → vs = ys.map V.int
  | [], vs, ys, r, h => by cases h; exact r
  | d :: l, vs, ys, r, h => by
    obtain ⟨v, vr, e, r1, r2⟩ := r
    subst e
    cases d with
    | int x =>
      have h : (intsOf l).map (x :: ·) = some ys := h
      obtain ⟨zs, h1, e⟩ := Option.map_eq_some_iff.mp h
      subst e
      rw [intsV r2 h1, show v = V.int x from r1]
      rfl
    | _ => cases h
/-- len(set(t)) -/
theorem nd_lenset {a : E} {ea : Expr} {x y : Str} {p p2 q pos : Pos} (C : Ctx Dw n S X Γ W) (hot : S.hot = false) (h1 : S.blt "len" x = true) (h2 : S.blt "set" y = true) (ha : PE X ea (tO v Γ W 1 a)) (hs : notStar ea = true) : PE X (.Call (.Name x p) [.Call (.Name y p2) [ea] [] q] [] pos) (tE (step m v) Γ W (.bi .lenset [a])) := by
  obtain ⟨e1, hg, _, hm⟩ := C.blt h1
  obtain ⟨e2, hg2, _, hm2⟩ := C.blt h2
  have hK : X.K = Γ.p.K := by rw [C.K, C.pK]
  subst e1 e2
  refine pe_mono (L2.pe_lenSetT (C.calm hot) hg hm hg2 hm2 ha (star_ok hs)) fun σ H Q ⟨env, Fs, ts, s, q⟩ => ?_
  have q : PR Γ W σ ts Q (ops v 1 [a] env fun ds env => okO (bfn .lenset ds) env) := q
  have z := ops_run (Q' := fun us H3 => match us with | [u] => ∃ (l : Addr) (ns : List Int), u = .ref l ∧ SqT X.K H3 l (ns.map V.int) ∧ ns.length ≤ 4000 ∧ ∀ ms : List Int, ms.Nodup → (∀ k, k ∈ ms ↔ k ∈ ns) → Q (.int ms.length) H3 | _ => False) s q fun ds dsP env' us H' Fs' tl s' op hp q' => by
    have vw := opv op s' hp
    obtain ⟨u1, e⟩ := one_of (l := us) op.len
    subst e
    cases vw with | @cons d1 n1 _ F1 _ _ o1 vw => cases vw with | nil =>
    dsimp only at q' ⊢
    cases d1 with
    | tup l =>
      have q' : PR Γ W σ ts Q (okO ((intsOf l).bind fun l => if l.length ≤ 50 then some (.int (dedI l).length, 9) else none) env') := q'
      cases hl : intsOf l with
      | none => rw [hl] at q'; exact q'.elim
      | some ys =>
        rw [hl] at q'
        have q' : PR Γ W σ ts Q (okO (if ys.length ≤ 50 then some (.int (dedI ys).length, 9) else none) env') := q'
        split at q'
        · rename_i hz
          obtain ⟨b, vs, e, hb, r⟩ := own_tup o1
          subst e
          rw [intsV r hl] at hb
          refine ⟨b, ys, rfl, .inl (.inl hb), by omega, fun ms nd hm => ?_⟩
          have el : ms.length = (dedI ys).length := ((List.perm_ext_iff_of_nodup nd (dedI_nodup ys)).mpr fun k => by rw [hm k, dedI_mem]).length_eq
          rw [el]
          exact resI s' q'
        · exact q'.elim
    | _ => exact q'.elim
  exact z
/-- {k: x} -/
theorem nd_dic1 {k x : E} {ek ex : Expr} {pos : Pos} (C : Ctx Dw n S X Γ W) (nk : (isPl k).isNone = true) (nx : (isPl x).isNone = true) (hk : PE X ek (tO v Γ W 0 k)) (hx : PE X ex (tO v Γ W 0 x)) : PE X (.Dict [some ek] [ex] pos) (tE (step m v) Γ W (.dic [k] [x])) := by
  refine pe_mono (L2.pe_disp (L2.pps_cons hk hx L2.pps_nil) rfl rfl (by simp) (by simp)) fun σ H Q ⟨env, Fs, ts, s, q⟩ => ?_
  have q : PR Γ W σ ts Q (ops v 0 [k, x] env fun ds env => match ds with
    | [(kd, _), (xd, _)] => if flatKey kd then .ok (.dic [kd] [xd]) 1 env else .bad
    | _ => .bad) := q
  intro p0 hp0
  have fr := s.free hp0
  have s1 : SR Γ (upd H p0 (.dK [])) env σ Fs (⟨.dic [] [], 1, .ref p0, [p0]⟩ :: ts) := by
    refine (s.new hp0).push (t := ⟨.dic [] [], 1, .ref p0, [p0]⟩) (.inr ⟨0, p0, [], .dK [], [], rfl, by show 1 < 9; omega, rfl, upd_same, ⟨.nil, .inl ⟨[], rfl, rfl, rfl⟩⟩, ⟨rfl, rfl⟩, rfl⟩) (by simp) (fun u hu b hb hb' => ?_) (fun i b hb hb' => ?_) (fun b hb => ?_)
    · rw [List.mem_singleton.mp hb] at hb'; exact fr.2 u hu hb'
    · rw [List.mem_singleton.mp hb] at hb'; exact fr.1 i hb'
    · rw [List.mem_singleton.mp hb]; exact s.fresh hp0
  have z : tOs v Γ W 0 [k, x] σ (upd H p0 (.dK [])) fun us H2 => match us with
      | [u1, u2] => H2 p0 = some (.dK []) ∧ ∃ kvs : List (Key × V), [(u1, u2)] = kvs.map (fun kv => (kV kv.1, kv.2)) ∧ kvs.length ≤ 15 ∧ Q (.ref p0) (upd H2 p0 (.dK (L2.mergeK [] kvs)))
      | _ => False := by
    refine evL_run [k, x] s1 ?_
    unfold ops at q
    cases hr : evL v 0 [k, x] env with
    | ex a b env' => rw [hr] at q; exact fun cls dd H2 Fs2 s2 y => q cls dd H2 Fs2 s2.pop y
    | bad => rw [hr] at q; exact q.elim
    | ok ds env' =>
      rw [hr] at q
      intro us H' Fs' tl s' op
      obtain ⟨i1, i2, i3, i4⟩ := op.np (by simp [nk, nx])
      have hl : tl.length = 2 := by
        have := op.len
        rw [i2, List.length_map] at this
        exact this
      match tl, hl with
      | [ta, tb], _ =>
      rw [i1] at q
      subst i2
      have q : PR Γ W σ ts Q (if flatKey ta.d then .ok (.dic [ta.d] [tb.d]) 1 env' else .bad) := by
        have e := i4 env'
        rw [i1] at e
        dsimp only at q
        rw [e] at q
        exact q
      split at q
      · rename_i hf
        obtain ⟨ra, _⟩ := tmp0 s' (i3 ta List.mem_cons_self)
        obtain ⟨rb, _⟩ := tmp0 s'.pop (i3 tb (List.mem_cons_of_mem _ List.mem_cons_self))
        have s4 : SR Γ H' env' σ Fs' (⟨.dic [] [], 1, .ref p0, [p0]⟩ :: ts) := s'.pop.pop
        have hp : H' p0 = some (.dK []) := by
          rcases s4.tmp _ List.mem_cons_self with ⟨z, _⟩ | ⟨j, a, vs, u, G, _, _, ea, hu, du, ow, eF⟩
          · cases z
          · cases ea
            have hv : vs = [] := ow.1
            subst hv
            rcases du.2 with ⟨kvs, e1, e2, e3⟩ | ⟨kvs, e1, e2, e3, e4⟩
            · have : kvs = [] := by simpa using e2.symm
              subst this e1
              exact hu
            · exact absurd (by simpa using e2.symm) e4
        obtain ⟨kk, ek1, ek2⟩ : ∃ kk : Key, ta.v = kV kk ∧ ta.d = keyD kk := by
          cases hd : ta.d with
          | int i => rw [hd] at ra; exact ⟨.inl i, ra, rfl⟩
          | str i => rw [hd] at ra; exact ⟨.inr i, ra, rfl⟩
          | _ => rw [hd] at hf; cases hf
        refine ⟨hp, [(kk, tb.v)], by show [(ta.v, tb.v)] = [(kV kk, tb.v)]; rw [ek1], by simp, ?_⟩
        have kp : ∀ b o, H' b = some o → ¬ Mut (some o) → (∀ ps, o ≠ .tbl ps) → upd H' p0 (.dK (L2.mergeK [] [(kk, tb.v)])) b = some o := fun b o e n _ => by
          have nb : b ≠ p0 := fun z => by
            rw [z, hp] at e
            cases e
            exact n trivial
          rw [upd_ne nb]
          exact e
        refine q _ _ [p0] Fs' (s4.head (t' := ⟨.dic [ta.d] [tb.d], 1, .ref p0, [p0]⟩) (fun b o e n => ?_) (fun b nb _ => upd_ne (fun z => nb (List.mem_singleton.mpr z))) (fun b hb => .inl hb) (by simp) (.inr ⟨0, p0, [tb.v], _, [], rfl, by show 1 < 9; omega, rfl, upd_same, ⟨by simp, .inl ⟨[(kk, tb.v)], rfl, by rw [ek2]; rfl, rfl⟩⟩, ⟨tb.v, [], [], [], rfl, Own.of (Rep.keep kp rb) (.inl rfl), ⟨rfl, rfl⟩, rfl⟩, rfl⟩) fun b hb => .inl hb)
        have nb : b ≠ p0 := fun z => by
          rw [z, hp] at e
          cases e
          exact n trivial
        rw [upd_ne nb]
        exact e
      · exact q.elim
  exact tO_mono (fun u H1 h1 => tO_mono (fun w H2 h2 => h2) h1) z
end
end Eng
end

section
set_option linter.all false
set_option maxRecDepth 100000
namespace Eng
open PySem PySem.Spec PySem.SeqAt PyProof.Rows
open PySem.W (dataLt alike alikeAll AlikeAll dataLt_list dataLt_ints readsAll_at min_list_data)
open L2 (V HO Hp VK TE TS TA TT TI TG TGs TSet PGs PSet WX XK SqL SqT Rd upd upd_same upd_ne upd_upd Key kV Mut RelV Vals Inv Cx PE PS PT PW PA PI PG PSs PTs tVar tNil tCons tOp Vis Loc Gl Room OpR R2 EP Dp DpAll TruR TruV IxR CallR FnOk Sp Ends PassesAt BlkOk DPut valV SlR MtR)
/-! ### the least of some lists of ints -/
def rowP (t : List Int) : PyData := .list (t.map .int)
theorem ltI_dec : ∀ (xs ys : List Int), decide (xs < ys) = cmpop.ltI xs ys
  | [], [] => by simp [cmpop.ltI]
  | [], y :: ys => by simp [cmpop.ltI]
  | x :: xs, [] => by simp [cmpop.ltI]
  | x :: xs, y :: ys => by
    have ih := ltI_dec xs ys
    unfold cmpop.ltI
    by_cases h : x = y
    · subst h
      rw [if_pos rfl, ← ih]
      simp [List.cons_lt_cons_iff]
    · rw [if_neg h]
      simp [List.cons_lt_cons_iff, h]
theorem rowP_lt (x y : List Int) : dataLt (rowP x) (rowP y) = cmpop.ltI x y := by
  unfold rowP
  rw [dataLt_list]
  exact (dataLt_ints x y).trans (ltI_dec x y)
theorem minD_rows : ∀ (r : List (List Int)) (t : List Int), PySem.W.minD (rowP t) (r.map rowP) = rowP (minL t r)
  | [], t => rfl
  | y :: r, t => by
    show PySem.W.minD (if dataLt (rowP y) (rowP t) then rowP y else rowP t) (r.map rowP) = _
    rw [rowP_lt]
    unfold minL
    cases cmpop.ltI y t with
    | true => exact minD_rows r y
    | false => exact minD_rows r t
theorem rowP_inj {x y : List Int} (h : rowP x = rowP y) : x = y := by
  unfold rowP at h
  replace h := PyData.list.inj h
  induction x generalizing y with
  | nil => cases y with
    | nil => rfl
    | cons b y => cases h
  | cons a x ih => cases y with
    | nil => cases h
    | cons b y =>
      obtain ⟨h1, h2⟩ := List.cons.inj h
      rw [PyData.int.inj h1, ih h2]
theorem alike_ints : ∀ (x y : List Int), alikeAll (x.map .int) (y.map .int) = true
  | [], _ => by unfold alikeAll; rfl
  | _ :: _, [] => by unfold alikeAll; rfl
  | a :: x, b :: y => by
    show (alike (.int a) (.int b) && alikeAll (x.map .int) (y.map .int)) = true
    rw [alike_ints x y]
    rfl
theorem alike_rows (l : List (List Int)) : AlikeAll (l.map rowP) := by
  refine ⟨fun a ha b hb => ?_, fun a ha => ?_⟩
  · obtain ⟨x, _, e⟩ := List.mem_map.mp ha
    obtain ⟨y, _, e2⟩ := List.mem_map.mp hb
    subst e e2
    exact alike_ints x y
  · obtain ⟨x, _, e⟩ := List.mem_map.mp ha
    subst e
    intro z
    cases z
theorem depth_ints : ∀ (x : List Int), PyData.depthAll (x.map .int) = 0
  | [] => rfl
  | a :: x => by
    show max 0 (PyData.depthAll (x.map .int)) = 0
    rw [depth_ints x]
    rfl
theorem depth_rows : ∀ (l : List (List Int)), PyData.depthAll (l.map rowP) ≤ 1
  | [] => Nat.zero_le _
  | t :: l => by
    have ih := depth_rows l
    show max (PyData.depthAll (t.map .int) + 1) (PyData.depthAll (l.map rowP)) ≤ 1
    rw [depth_ints]
    omega
theorem cr_minRows {X : Cx} (hc : X.calm = true) (un : X.A.units + 8 < cLine) : CallR X (.builtin "min") (fun xs H Q => ∃ (a : Addr) (vs : List V) (t : List Int) (r : List (List Int)), xs = [V.ref a] ∧ Dp X.K H (.ref a) (.list ((t :: r).map rowP)) ∧ SqL X.K H a vs ∧ ∀ (i : Nat) (w : V), vs[i]? = some w → (t :: r)[i]? = some (minL t r) → Q w H) := by
  intro pins s σ H xs us Q I rx ⟨a, vs, t, r, e, dp, sq, q⟩
  subst e
  obtain ⟨its, rv, hl, _⟩ := I.list sq
  rw [Vals.ref1 rx]
  cases dp with
  | @lst _ vs' _ hs ha =>
  obtain rfl : vs' = vs := I.list_inj hs sq
  obtain ⟨as, hr⟩ := Dp.readsAll I _ _ its ha rv
  refine min_list_data (I.ok.hd hc) hl.isList (x := rowP t) (xs := r.map rowP) (by simpa using hr) (alike_rows (t :: r)) (by have := depth_rows (t :: r); show X.A.units + 1 + PyData.depthAll ((t :: r).map rowP) < cLine; omega) fun i v h' tk bs hv rd hk => ?_
  rw [minD_rows] at rd
  have hv : its[i]? = some v := by simpa using hv
  obtain ⟨bs2, rd2, hlt, _, _⟩ := readsAll_at hr i v hv
  obtain ⟨e1, _⟩ := reads_det (fun b o e _ => hk b o e) rd2 rd
  have hlt : i < (t :: r).length := by simpa using hlt
  have e2 : ((t :: r).map rowP).getD i .none = rowP ((t :: r)[i]) := by
    rw [List.getD_eq_getElem?_getD, List.getElem?_map, List.getElem?_eq_getElem hlt]
    rfl
  have e3 : minL t r = (t :: r)[i] := rowP_inj (e1.trans e2)
  have hl2 : i < vs'.length := by
    rw [rv.length]
    exact (List.getElem?_eq_some_iff.mp hv).1
  obtain ⟨u, hu, ru⟩ := rv.get (List.getElem?_eq_getElem hl2)
  rw [hv] at hu
  cases hu
  exact ⟨vs'[i], H, I.kept (t' := tk) hk, ru, q i _ (List.getElem?_eq_getElem hl2) (by rw [e3]; exact List.getElem?_eq_getElem hlt)⟩
section
variable {Dw : Wd} {n : Nat} {S : Sx} {X : Cx} {Γ : Gm} {W : WX} {v : Ev} {m : Mod} {c : Nat}
theorem intsOf_eq : ∀ {l : List D} {ys : List Int}, intsOf l = some ys → l = ys.map .int
  | [], ys, h => by cases h; rfl
  | d :: l, ys, h => by
    cases d with
    | int x =>
      have h : (intsOf l).map (x :: ·) = some ys := h
      obtain ⟨zs, h1, e⟩ := Option.map_eq_some_iff.mp h
      subst e
      rw [intsOf_eq h1]
      rfl
    | _ => cases h
theorem lstsI_eq : ∀ {l : List D} {ts : List (List Int)}, lstsI l = some ts → l = ts.map fun t => .lst (t.map .int)
  | [], ts, h => by cases h; rfl
  | d :: l, ts, h => by
    cases d with
    | lst x =>
      have h : ((intsOf x).bind fun a => (lstsI l).map (a :: ·)) = some ts := h
      obtain ⟨ys, h1, h2⟩ := Option.bind_eq_some_iff.mp h
      obtain ⟨zs, h3, e⟩ := Option.map_eq_some_iff.mp h2
      subst e
      rw [intsOf_eq h1, lstsI_eq h3]
      rfl
    | _ => cases h
theorem py_ints : ∀ (t : List Int), toPyL (t.map .int) = t.map .int
  | [] => rfl
  | a :: t => by
    show toPy (.int a) :: toPyL (t.map .int) = _
    rw [py_ints t]
    rfl
theorem py_rows : ∀ (ts : List (List Int)), toPyL (ts.map fun t => .lst (t.map .int)) = ts.map rowP
  | [] => rfl
  | t :: ts => by
    show PyData.list (toPyL (t.map .int)) :: toPyL (ts.map fun t => D.lst (t.map .int)) = _
    rw [py_rows ts, py_ints]
    rfl
theorem dat_ints : ∀ (t : List Int) (k : Nat), D.datL k (t.map .int) = true
  | [], k => by cases k <;> rfl
  | a :: t, k => by
    have : D.datL k (D.int a :: t.map .int) = (D.dat k (.int a) && D.datL k (t.map .int)) := by cases k <;> rfl
    rw [List.map_cons, this, dat_ints t k]
    cases k <;> rfl
theorem dat_rows : ∀ (ts : List (List Int)) (k : Nat), D.datL (k + 1) (ts.map fun t => .lst (t.map .int)) = true
  | [], k => rfl
  | t :: ts, k => by
    show (D.datL k (t.map .int) && D.datL (k + 1) (ts.map fun t => D.lst (t.map .int))) = true
    rw [dat_rows ts k, dat_ints]
    rfl
theorem rep_get {p : Par} {H : Hp} : ∀ {l : List D} {vs : List V} {i : Nat} {w : V} {d : D}, RepL p H l vs → vs[i]? = some w → l[i]? = some d → Rep p H d w
  | [], vs, i, w, d, r, hv, hl => by simp at hl
  | x :: l, vs, 0, w, d, r, hv, hl => by
    obtain ⟨v, vr, e, r1, r2⟩ := r
    subst e
    cases hv
    cases hl
    exact r1
  | x :: l, vs, i + 1, w, d, r, hv, hl => by
    obtain ⟨v, vr, e, r1, r2⟩ := r
    subst e
    exact rep_get r2 (by simpa using hv) (by simpa using hl)
/-- min(list of lists of ints) -/
theorem nd_min {a : E} {ea : Expr} {x : Str} {p pos : Pos} (C : Ctx Dw n S X Γ W) (hot : S.hot = false) (hx : S.blt "min" x = true) (ha : PE X ea (tO v Γ W 1 a)) (hs : notStar ea = true) : PE X (.Call (.Name x p) [ea] [] pos) (tE (step m v) Γ W (.bi .min [a])) := by
  obtain ⟨e1, hg, hd, hm⟩ := C.blt hx
  have un := C.un
  have hK : X.K = Γ.p.K := by rw [C.K, C.pK]
  subst e1
  refine pe_mono (L2.pe_callB (cr_minRows (C.calm hot) (by omega)) hg hm rfl (L2.pa_cons ha L2.pa_nil (star_ok hs)) (by decide) (by decide) (star_ok hs) (by rfl)) fun σ H Q ⟨env, Fs, ts, s, q⟩ => ?_
  have q : PR Γ W σ ts Q (ops v 1 [a] env fun ds env => okO (bfn .min ds) env) := q
  have z := ops_run (Q' := fun us H3 => match us with | [u] => ∃ (a : Addr) (vs : List V) (t : List Int) (r : List (List Int)), [u] = [V.ref a] ∧ Dp X.K H3 (.ref a) (.list ((t :: r).map rowP)) ∧ SqL X.K H3 a vs ∧ ∀ (i : Nat) (w : V), vs[i]? = some w → (t :: r)[i]? = some (minL t r) → Q w H3 | _ => False) s q fun ds dsP env' us H' Fs' tl s' op hp q' => by
    have vw := opv op s' hp
    obtain ⟨u1, e⟩ := one_of (l := us) op.len
    subst e
    cases vw with | @cons d1 n1 _ F1 _ _ o1 vw => cases vw with | nil =>
    dsimp only at q' ⊢
    cases d1 with
    | lst l =>
      have q' : PR Γ W σ ts Q (okO (if shareOk (.lst l) n1 then (lstsI l).bind fun ts => (match ts with | [] => none | t :: r => if (t :: r).all (fun u => u.length ≤ 50) && decide (r.length ≤ 50) then some (.lst ((minL t r).map .int), 0) else none) else none) env') := q'
      by_cases hsh : shareOk (.lst l) n1 = true
      · rw [if_pos hsh] at q'
        cases hl : lstsI l with
        | none => rw [hl] at q'; exact q'.elim
        | some tt =>
          rw [hl] at q'
          cases tt with
          | nil => exact q'.elim
          | cons t r =>
            have q' : PR Γ W σ ts Q (okO (if (t :: r).all (fun u => u.length ≤ 50) && decide (r.length ≤ 50) then some (.lst ((minL t r).map .int), 0) else none) env') := q'
            split at q'
            · have el := lstsI_eq hl
              have dp : Dp Γ.p.K H' u1 (.list ((t :: r).map rowP)) := by
                have := Own.dp (k := 60) o1 (by rw [el]; exact dat_rows (t :: r) 58)
                rw [el] at this
                have e2 : toPy (.lst ((t :: r).map fun t => .lst (t.map .int))) = .list ((t :: r).map rowP) := by
                  show PyData.list (toPyL ((t :: r).map fun t => D.lst (t.map .int))) = _
                  rw [py_rows]
                rw [e2] at this
                exact this
              have n1ok : n1 ≤ 1 := by
                have nm : D.noMutL l = false := by rw [el]; rfl
                unfold shareOk at hsh
                simp only [nm, Bool.or_false, Bool.or_eq_true, beq_iff_eq, decide_eq_true_eq] at hsh
                rcases hsh with h | h
                · subst h
                  exact absurd (o1.flag rfl) (by simp [D.noMut])
                · exact h
              obtain ⟨b, vs, e1, sq, rl⟩ : ∃ b vs, u1 = V.ref b ∧ SqL Γ.p.K H' b vs ∧ RepL Γ.p H' l vs := by
                rcases o1 with ⟨_, ⟨b, vs, ob, e, h1, r⟩, _⟩ | ⟨j, b, vs, G, ej, _, e, h1, r, _⟩
                · exact ⟨b, vs, e, .inl (.inr ⟨ob, h1⟩), r⟩
                · have : j = 0 := by omega
                  subst this
                  exact ⟨b, vs, e, .inl (.inl h1), r.rep0⟩
              subst e1
              refine ⟨b, vs, t, r, rfl, by rw [hK]; exact dp, by rw [hK]; exact sq, fun i w hw hi => ?_⟩
              have hd : l[i]? = some (.lst ((minL t r).map .int)) := by
                rw [el, List.getElem?_map, hi]
                rfl
              exact res0 s' q' (Own.of (rep_get rl hw hd) (.inl rfl))
            · exact q'.elim
      · rw [if_neg hsh] at q'; exact q'.elim
    | _ => exact q'.elim
  exact z
end
end Eng
end

section
set_option linter.all false
set_option maxRecDepth 100000
namespace Eng
open PySem PySem.Spec PyProof.Rows
/-! ### is the text the IR? -/
structure Ck where
  e : Sx → E → Expr → Bool
  t : Sx → E → Expr → Bool
  g : Sx → T → Expr → Bool
  p : Sx → E → Expr → Bool
  s : Sx → List S → List Stmt → Bool
instance : Inhabited Ck := ⟨⟨fun _ _ _ => false, fun _ _ _ => false, fun _ _ _ => false, fun _ _ _ => false, fun _ _ _ => false⟩⟩
def isBad : E → Bool
  | .bor _ => true
  | _ => false
def noComp : Expr → Bool
  | .ListComp _ _ _ _ => false
  | .SetComp _ _ _ _ => false
  | .DictComp _ _ _ _ _ => false
  | _ => true
def noTup : Expr → Bool
  | .Tuple _ _ _ => false
  | .List _ _ => false
  | _ => true
def isNameE : Expr → Bool
  | .Name _ _ => true
  | _ => false
section
variable (m : Mod) (c : Ck) (S : Sx)
def ckO (i : E) (e : Expr) : Bool := match isPl i with
  | some k => (match e with | .Name x _ => S.slot k x | _ => false)
  | none => c.e S i e
def ckOs : List E → List Expr → Bool
  | [], [] => true
  | i :: is, e :: es => ckO c S i e && (notStar e && ckOs is es)
  | _, _ => false
/-- operands that are no places -/
def noPl (is : List E) : Bool := is.all fun e => (isPl e).isNone
def ownP (S : Sx) (own : List Nat) : List (Str × Nat) := own.filterMap fun i => (S.N[i]?).map fun x => (x, i)
def blkCk (S : Sx) (scope : Scope) (own : List Nat) : Bool :=
  decide (scope.kind = .function) && (scope.names.all (fun y => decide (scope.names.lookup y.1 = some y.2)) &&
  ((ownP S own).length == own.length && (decide own.Nodup && (own.all (fun i => !S.pins.contains i) &&
  (scope.names.all (fun y => !decide (y.2 = .free) || (decide (S.names.lookup y.1 = some .cell) || decide (S.names.lookup y.1 = some .free))) &&
  scope.names.all (fun y => !(decide (y.2 = .local) || decide (y.2 = .cell)) || (((ownP S own).map (·.1)).contains y.1 || !S.N.contains y.1)))))))
def blkS (S : Sx) (scope : Scope) : Sx := { S with names := scope.names, stm := false, exc := false }
def ckIfs (S' : Sx) : List E → List Expr → Bool
  | [], [] => true
  | [i], [e] => c.t S' i e
  | _, _ => false
def isTup : Expr → Bool
  | .Tuple _ _ _ => true
  | _ => false
def ckI (t : Expr) : It → Expr → Bool
  | .val a, e => (isPl a).isNone && ckO c S a e
  | .rng [a], .Call (.Name x _) [ea] [] _ => S.blt "range" x && ((isPl a).isNone && (ckO c S a ea && notStar ea))
  | .rng [a, b], .Call (.Name x _) [ea, eb] [] _ => S.blt "range" x && ((isPl a).isNone && ((isPl b).isNone && (ckO c S a ea && (ckO c S b eb && (notStar ea && notStar eb)))))
  | .enum a, .Call (.Name x _) [ea] [] _ => S.blt "enumerate" x && (isTup t && ((isPl a).isNone && (ckO c S a ea && notStar ea)))
  | .zip a b, .Call (.Name x _) [ea, eb] [] _ => S.blt "zip" x && (isTup t && ((isPl a).isNone && ((isPl b).isNone && (ckO c S a ea && (ckO c S b eb && (notStar ea && notStar eb))))))
  | .items a, .Call (.Attribute (.Name y p) x apos) [] [] cpos => decide (x = "items") && (isTup t && ((isPl a).isNone && (ckO c S a (.Name y p) && (apos.endLine == cpos.line))))
  | _, _ => false
/-- a name that lies in a cell -/
def isCell (S : Sx) : Expr → Bool
  | .Name x _ => decide (S.names.lookup x = some .cell)
  | _ => false
/-- what is read without a change -/
def ckP (i : E) (e : Expr) : Bool := match i, e with
  | .con d, e => conOk S d e
  | .var i, .Name x _ => S.slot i x
  | .ix (.bor i) k, .Subscript (.Name x _) ek _ => S.slot i x && (plainIx ek && c.p S k ek)
  | .bin .add a b, .BinOp ea .Add eb _ => c.p S a ea && c.p S b eb
  | _, _ => false
def ckPs : List E → List Expr → Bool
  | [], [] => true
  | i :: is, e :: es => c.p S i e && (notStar e && ckPs is es)
  | _, _ => false
def isCn : Expr → Bool
  | .Constant _ _ _ => true
  | _ => false
def isNm : Expr → Bool
  | .Name _ _ => true
  | _ => false
def ckGs : List T → List Expr → Bool
  | [], [] => true
  | t :: ts, e :: es => c.g S t e && (notStar e && ckGs ts es)
  | _, _ => false
def ckE (i : E) (e : Expr) : Bool := match i, e with
  | .bor _, _ => true
  | .var i, .Name x _ => S.slot i x
  | .mov i, .Name x _ => S.slot i x
  | .con d, e => conOk S d e
  | .fn k, .Name x _ => S.fnn k x
  | .tup is, .Tuple es _ _ => noPl is && ckOs c S is es
  | .lst is, .List es _ => noPl is && ckOs c S is es
  | .bin o a b, .BinOp ea o' eb _ => decide (o' = bopOf o) && (ckO c S a ea && ckO c S b eb)
  | .neg a, .UnaryOp .USub ea _ => ckO c S a ea
  | .not a, .UnaryOp .Not ea _ => !S.hot && ckO c S a ea
  | .and a b, .BoolOp .And (ea :: eb :: r) p => (isPl a).isNone && (c.e S a ea && (match r with | [] => c.e S b eb | _ => c.e S b (.BoolOp .And (eb :: r) p)))
  | .or a b, .BoolOp .Or (ea :: eb :: r) p => (isPl a).isNone && (c.e S a ea && (match r with | [] => c.e S b eb | _ => c.e S b (.BoolOp .Or (eb :: r) p)))
  | .cmp o a b, .Compare ea [o'] [eb] _ => decide (o' = cmOf o) && (ckO c S a ea && (ckO c S b eb && !behindInMarks (cmOf o) eb))
  | .cmp2 o o2 a b d, .Compare ea [o', o2'] [eb, ed] _ => decide (o' = cmOf o) && (decide (o2' = cmOf o2) && ((isPl b).isNone && (ckO c S a ea && (ckO c S b eb && (ckO c S d ed && !lastMarks [cmOf o, cmOf o2] [eb, ed])))))
  | .ite t a b, .IfExp et ea eb _ => c.t S t et && (c.e S a ea && c.e S b eb)
  | .ix a i, .Subscript ea ei _ => ckO c S a ea && (ckO c S i ei && plainIx ei)
  | .sl a (some lo) none, .Subscript ea (.Slice (some el) none none _) _ => (isPl lo).isNone && (ckO c S a ea && ckO c S lo el)
  | .sl a none (some hi), .Subscript ea (.Slice none (some eh) none _) _ => (isPl hi).isNone && (ckO c S a ea && ckO c S hi eh)
  | .call k is, .Call (.Name x _) es [] _ => !S.hot && (S.plain && (S.fnn k x && (!m.takers.contains k && ((match m.fns[k]? with | some f => f.npar == is.length | none => false) && (loanOk is && (decide (loanL is).Nodup && ckOs c S is es))))))
  | .callv i is, .Call (.Name x _) es [] _ => !S.hot && (S.plain && (S.slot i x && (loanOk is && (decide (loanL is).Nodup && ckOs c S is es))))
  | .lam k j, .Call (.Name x _) [.Lambda ⟨[], [], none, [], [], none, []⟩ body scope _] [] _ => !S.hot && (S.plain && (S.lam && (S.fnn k x && (m.takers.contains k && (lamCk S scope && (match m.lams[j]? with | some e => c.e (lamS S scope) e body | none => false))))))
  | .isi a [t], .Call (.Name x _) [ea, .Name y _] [] _ => (!tyOwn t && (S.blt "isinstance" x && (S.blt (Str.ofString (tyS t)) y && (ckO c S a ea && notStar ea)))) || (match a, t, ea with
    | .var i, .own k, .Name y0 p0 => S.exc && (S.blt "isinstance" x && (S.clsn k y && (((List.range S.g.cnames.length).all fun c => m.sub c k == S.g.subs.contains (c, k)) && ckO c S (.var i) (.Name y0 p0))))
    | _, _, _ => false)
  | .dic [] [], .Dict [] [] _ => true
  | .dic [k] [x], .Dict [some ek] [ex] _ => (isPl k).isNone && ((isPl x).isNone && (ckO c S k ek && ckO c S x ex))
  | .attr (.var i), .Attribute (.Name y0 p) y _ => S.exc && (decide (y = "limit") && ckO c S (.var i) (.Name y0 p))
  | .bi .lenset [a], .Call (.Name x _) [.Call (.Name y _) [ea] [] _] [] _ => !S.hot && (S.blt "len" x && (S.blt "set" y && (ckO c S a ea && notStar ea)))
  | .bi .min [a], .Call (.Name x _) [ea] [] _ => !S.hot && (S.blt "min" x && (ckO c S a ea && notStar ea))
  | .mt .get o [k, x], .Call (.Attribute eo y apos) [ek, ex] [] cpos => decide (y = "get") && (isNm eo && (ckO c S o eo && (ckO c S k ek && (ckO c S x ex && (notStar ek && (notStar ex && (apos.endLine == cpos.line)))))))
  | .mt .join o [k], .Call (.Attribute eo y apos) [ek] [] cpos => decide (y = "join") && (isCn eo && (ckO c S o eo && (ckO c S k ek && (notStar ek && (apos.endLine == cpos.line)))))
  | .lc own elt t (.lval a) ifs, .ListComp ee [⟨et, ei, eifs, 0⟩] scope _ => S.exc && (blkCk S scope own && ((tSlots t).all own.contains && ((isPl a).isNone && (ckO c S a ei && ((match t, et with | .tp ts, .Tuple es _ _ => ckGs c (blkS S scope) ts es | _, _ => c.g (blkS S scope) t et) && (ckIfs c (blkS S scope) ifs eifs && (c.e (blkS S scope) elt ee && noSet ei)))))))
  | .bit .list (.rng [a]), .Call (.Name x _) [.Call (.Name y _) [ea] [] _] [] _ => !S.hot && (S.blt "list" x && (S.blt "range" y && ((isPl a).isNone && (ckO c S a ea && notStar ea))))
  | .bi .sorted [a], .Call (.Name x _) [ea] [] _ => S.blt "sorted" x && (ckO c S a ea && notStar ea)
  | .bi .dict [a], .Call (.Name x _) [ea] [] _ => !S.hot && (S.blt "dict" x && (ckO c S a ea && notStar ea))
  | .catl a b, .BinOp ea .Add eb _ => (isPl a).isNone && ((isPl b).isNone && (ckO c S a ea && ckO c S b eb))
  | .mt .index o [k], .Call (.Attribute eo x apos) [ek] [] cpos => decide (x = "index") && (isNm eo && (ckO c S o eo && (ckO c S k ek && (notStar ek && (apos.endLine == cpos.line)))))
  | .lc2 own own1 elt t i [] t1 i1 [], .ListComp ee [⟨et, ei, [], 0⟩, ⟨et1, ei1, [], 0⟩] scope _ => !S.hot && (blkCk S scope own && ((tSlots t).all own.contains && (own1.all own.contains && ((tSlots t1).all own1.contains && (ckI c S et i ei && (c.g (blkS S scope) t et && (ckI c (blkS S scope) et1 i1 ei1 && (c.g (blkS S scope) t1 et1 && (c.e (blkS S scope) elt ee && (noSet ei && noSet ei1))))))))))
  | .bi b is, .Call (.Name x _) (e :: es) [] _ => !S.hot && (biS b && (S.blt (biN b) x && ckOs c S is (e :: es)))
  | .lc own elt t i ifs, .ListComp ee [⟨et, ei, eifs, 0⟩] scope _ => !S.hot && (blkCk S scope own && ((tSlots t).all own.contains && (ckI c S et i ei && (c.g (blkS S scope) t et && (ckIfs c (blkS S scope) ifs eifs && (c.e (blkS S scope) elt ee && noSet ei))))))
  | _, _ => false
def ckT (i : E) (e : Expr) : Bool := match isPl i with
  | some k => (match e with | .Name x _ => S.slot k x | _ => false)
  | none => match i, e with
    | .cmp o a b, .Compare ea [o'] [eb] _ => decide (o' = cmOf o) && (ckO c S a ea && (ckO c S b eb && !behindInMarks (cmOf o) eb))
    | .not a, .UnaryOp .Not ea _ => c.t S a ea
    | .and a b, .BoolOp .And (ea :: eb :: r) p => (isPl b).isNone && (c.t S a ea && (match r with | [] => c.t S b eb | _ => c.t S b (.BoolOp .And (eb :: r) p)))
    | .or a b, .BoolOp .Or (ea :: eb :: r) p => (isPl a).isNone && ((isPl b).isNone && (c.t S a ea && (match r with | [] => c.t S b eb | _ => c.t S b (.BoolOp .Or (eb :: r) p))))
    | i, e => plainT e && c.e S i e
def ckG (t : T) (e : Expr) : Bool := match t, e with
  | .nm i _, .Name x _ => S.loc i x && !S.pins.contains i
  | .tp ts, .Tuple es _ _ => !S.hot && ckGs c S ts es
  | .st i k, .Subscript (.Name x _) ek _ => S.slot i x && (plainIx ek && c.p S k ek)
  | _, _ => false
/-- the road by which an assignment of tuples goes -/
def locN (S : Sx) (i : Nat) (x : Str) : Bool := S.loc i x && (!S.pins.contains i && decide (S.names.lookup x = some .local))
def ckGen (ts : List T) (is : List E) (tgs es : List Expr) : Bool := !S.hot && (noPl is && (ckOs c S is es && (ckGs c S ts tgs && ((is.length == tgs.length) && (decide (is.length ≤ SZ) && (tgs.all notStar && ((decide (3 < tgs.length) || (tgs.any (fun t => !isNameE t) || es.all (foldedForSure 8))) || tgs.any (isCell S))))))))
def ckS1 (i : Eng.S) (st : Stmt) : Bool := match i, st with
  | .expr (.bor _), _ => true
  | .pass, .Pass _ => true
  | .pass, .Expr (.Constant (.str _) _ _) _ => true
  | .brk, .Break _ => true
  | .retN, .Return none _ => true
  | .ret i, .Return (some e) _ => c.e S i e
  | .expr i, .Expr e _ => c.e S i e && noComp e
  | .ite t a b, .If et ea eb _ => c.t S t et && (c.s S a ea && c.s S b eb)
  | .whl t b, .While et eb [] _ => S.stm && (c.t S t et && c.s S b eb)
  | .for_ t i b, .For et ei eb [] _ => !S.hot && (S.stm && (ckI c S et i ei && (c.g S t et && (c.s S b eb && noSet ei))))
  | .asg (.nm j lv) (.lc own elt t i ifs), .Assign [.Name y py] (.ListComp ee [⟨et, ei, eifs, 0⟩] scope pos) spos => (!S.hot && (blkCk S scope own && ((tSlots t).all own.contains && (locN S j y && ((py.line == pos.line) && (!(scope.names.any fun q => q.1 == y && (q.2 == .local || q.2 == .cell)) &&
      (ckI c S et i ei && (c.g (blkS S scope) t et && (ckIfs c (blkS S scope) ifs eifs && (c.e (blkS S scope) elt ee && noSet ei)))))))))) || (isCell S (.Name y py) && (ckO c S (.lc own elt t i ifs) (.ListComp ee [⟨et, ei, eifs, 0⟩] scope pos) && c.g S (.nm j lv) (.Name y py)))
  | .asg t i, .Assign [tg] e _ => (isPl i).isNone && (ckO c S i e && (c.g S t tg && ((noComp e || isCell S tg) && (noTup tg || noTup e))))
  | .asgt [.nm i l1, .nm j l2] [a, b], .Assign [.Tuple [.Name x p1, .Name y p2] _ _] (.Tuple [ea, eb] _ _) _ => (!S.hot && ((isPl a).isNone && ((isPl b).isNone && (ckO c S a ea && (ckO c S b eb && (notStar ea && (notStar eb && (locN S i x && (locN S j y && (!(i == j) && (!(x == y) && (p1.line == p2.line && (!([ea, eb].all (foldedForSure 8)) && !([ea, eb].all (constantsAlone 8))))))))))))))) || ckGen c S [.nm i l1, .nm j l2] [a, b] [.Name x p1, .Name y p2] [ea, eb]
  | .asgt [.nm i l1, .nm j l2, .nm l l3] [a, b, d], .Assign [.Tuple [.Name x p1, .Name y p2, .Name z p3] _ _] (.Tuple [ea, eb, ed] _ _) _ => (!S.hot && ((isPl a).isNone && ((isPl b).isNone && ((isPl d).isNone && (ckO c S a ea && (ckO c S b eb && (ckO c S d ed && (notStar ea && (notStar eb && (notStar ed && (locN S i x && (locN S j y && (locN S l z && (!(i == j) && (!(i == l) && (!(j == l) && (!(x == y) && (!(x == z) && (!(y == z) && ((p1.line == p2.line) && ((p1.line == p3.line) && (!([ea, eb, ed].all (foldedForSure 8)) && !([ea, eb, ed].all (constantsAlone 8)))))))))))))))))))))))) || ckGen c S [.nm i l1, .nm j l2, .nm l l3] [a, b, d] [.Name x p1, .Name y p2, .Name z p3] [ea, eb, ed]
  | .asgt ts is, .Assign [.Tuple tgs _ _] (.Tuple es _ _) _ => ckGen c S ts is tgs es
  | .seti i k e, .Assign [.Subscript (.Name x _) ek _] ee _ => (isPl e).isNone && (S.slot i x && (ckO c S e ee && (ckO c S k ek && plainIx ek)))
  | .app i [] e, .Expr (.Call (.Attribute (.Name x _) y apos) [ee] [] cpos) _ => decide (y = "append") && ((isPl e).isNone && (S.slot i x && (ckO c S e ee && (notStar ee && (apos.endLine == cpos.line)))))
  | .setp i [p] k e, .Assign [.Subscript (.Subscript (.Name x _) ep _) ek _] ee _ => (isPl e).isNone && (S.slot i x && (c.p S p ep && (plainIx ep && (ckO c S e ee && (c.p S k ek && plainIx ek)))))
  | .app i [p] (.tup is), .Expr (.Call (.Attribute (.Subscript (.Name x _) ep _) y apos) [.Tuple es _ _] [] cpos) _ => decide (y = "append") && (S.slot i x && (c.p S p ep && (plainIx ep && (ckPs c S is es && (decide (is.length ≤ SZ) && (apos.endLine == cpos.line))))))
  | .upd i e, .Expr (.Call (.Attribute (.Name x _) y apos) [ee] [] cpos) _ => decide (y = "update") && (!S.hot && ((isPl e).isNone && (S.slot i x && (ckO c S e ee && (notStar ee && (apos.endLine == cpos.line))))))
  | .rais k (some i), .Raise (some (.Call (.Name x _) [ee] [] _)) none _ => !S.hot && (S.clsn k x && (S.g.lims.contains k && (c.e S i ee && notStar ee)))
  | .rais k none, .Raise (some (.Call (.Name x _) [.Constant (.str _) _ _] [] _)) none _ => !S.hot && (S.clsn k x && S.g.simple.contains k)
  | _, _ => false
def ckSs : List Eng.S → List Stmt → Bool
  | [.expr (.bor _)], _ => true
  | [], [] => true
  | i :: is, st :: l => ckS1 c S i st && ckSs is l
  | _, _ => false
end
def ckStep (m : Mod) (c : Ck) : Ck where
  e := ckE m c
  t := ckT c
  g := ckG c
  p := ckP c
  s := ckSs c
def chkc (m : Mod) : Nat → Ck
  | 0 => default
  | k + 1 => ckStep m (chkc m k)
end Eng
end

section
set_option linter.all false
set_option maxRecDepth 100000
namespace Eng
open PySem PySem.Spec PyProof.Rows
open L2 (V HO Hp VK TE TS TA TT TI TG TGs TSet PGs PSet WX XK SqL SqT Rd upd upd_same upd_ne upd_upd Key kV Mut RelV Vals Inv Cx PE PS PT PW PA PI PG PSs PTs Takes tVar tNil tCons tOp Vis Loc Gl Room OpR R2 EP Dp DpAll TruR TruV IxR CallR FnOk Sp Ends PassesAt BlkOk DPut valV SlR MtR)
section
variable {Dw : Wd} {n : Nat} {S : Sx} {X : Cx} {Γ : Gm} {W : WX} {v : Ev} {m : Mod}
/-! ### blocks -/
theorem Ctx.at (C : Ctx Dw n S X Γ W) (H : Hp) (L : List Addr) : Ctx Dw n S X (Γ.at H L) W := ⟨C.prog, C.w, C.K, C.mg, C.base, C.pK, C.pfa, C.pca, C.g, C.N, C.kind, C.nd, C.sc, C.fn, C.tk, C.pas, C.p0, C.pn, C.un, C.calm, C.room, C.exc, C.lam⟩
theorem takesNo {X : Cx} : L2N.Takes X noX := fun _ _ x => by
  obtain ⟨_, _, _, _, _, _, _, _, _, _, _, _, _, _, _, _, z⟩ := x
  exact z.elim
theorem relabel_free {sc : Scope} : ∀ {names : List (Str × NameKind)} {x : Str}, names.lookup x = some .free →
    (names.map fun (n, k) => if (k == NameKind.free && sc.kind == .function && sc.names.lookup n == some .cell) then (n, NameKind.cell) else (n, k)).lookup x = some .free ∨
    (names.map fun (n, k) => if (k == NameKind.free && sc.kind == .function && sc.names.lookup n == some .cell) then (n, NameKind.cell) else (n, k)).lookup x = some .cell
  | [], _, h => by simp at h
  | (y, k) :: r, x, h => by
    have ih := @relabel_free sc r x
    show List.lookup x ((if (k == NameKind.free && sc.kind == .function && sc.names.lookup y == some .cell) = true then (y, NameKind.cell) else (y, k)) :: (r.map _)) = some .free ∨ List.lookup x ((if (k == NameKind.free && sc.kind == .function && sc.names.lookup y == some .cell) = true then (y, NameKind.cell) else (y, k)) :: (r.map _)) = some .cell
    rw [List.lookup_cons] at h
    cases hx : x == y with
    | true =>
      rw [hx] at h
      cases h
      split
      · right; rw [List.lookup_cons, hx]
      · left; rw [List.lookup_cons, hx]
    | false =>
      rw [hx] at h
      split
      · rw [List.lookup_cons, hx]; exact ih h
      · rw [List.lookup_cons, hx]; exact ih h
theorem relabel_sc {scope : Scope} {env : PySem.Env} {x : Str} {k : NameKind} (h : scope.names.lookup x = some k) : (relabel scope env).names.lookup x = some k ∨ (k = .free ∧ (relabel scope env).names.lookup x = some .cell) := by
  by_cases hk : k = .free
  · subst hk
    rcases relabel_free (sc := env.scope) h with r | r
    · exact .inl r
    · exact .inr ⟨rfl, r⟩
  · exact .inl (L2.lookup_relS_keep (sc := env.scope) hk h)
theorem Ctx.blk (C : Ctx Dw n S X Γ W) {scope : Scope} {own : List Nat} (h : blkCk S scope own = true) (s : Shared) (H : Hp) (A : Addr) (cl : List (Str × Addr)) (fp : List Addr) (H1 : Hp) (L : List Addr) : Ctx Dw n (blkS S scope) (X.blk s H scope (compEnvC scope cl A X.env) fp) (Γ.at H1 L) noX := by
  obtain ⟨h1, _⟩ := and_ok h
  refine ⟨C.prog, C.w, C.K, C.mg, C.base, C.pK, C.pfa, C.pca, C.g, C.N, of_decide_eq_true h1, C.nd, fun x k e => relabel_sc e, fun x e => ?_, takesNo, (fun z => by cases z), C.p0, C.pn, C.un, C.calm, C.room, (fun z => by cases z), C.lam⟩
  show (scope.names.lookup x == some .cell) = true
  have e : scope.names.lookup x = some .cell := e
  rw [e]
  rfl
theorem ownP_mem {S : Sx} {own : List Nat} {p : Str × Nat} (h : p ∈ ownP S own) : S.N[p.2]? = some p.1 := by
  obtain ⟨i, _, e⟩ := List.mem_filterMap.mp h
  obtain ⟨x, e1, e2⟩ := Option.map_eq_some_iff.mp e
  subst e2
  exact e1
theorem ownP_len (S : Sx) : ∀ (own : List Nat), (ownP S own).length ≤ own.length := fun own => List.length_filterMap_le _ _
theorem ownP_map (S : Sx) : ∀ (own : List Nat), (ownP S own).length = own.length → (ownP S own).map (·.2) = own
  | [], _ => rfl
  | i :: l, h => by
    have hle := ownP_len S l
    cases e : S.N[i]? with
    | none =>
      have e2 : ownP S (i :: l) = ownP S l := by unfold ownP; rw [List.filterMap_cons, e]; rfl
      rw [e2, List.length_cons] at h
      omega
    | some x =>
      have e2 : ownP S (i :: l) = (x, i) :: ownP S l := by unfold ownP; rw [List.filterMap_cons, e]; rfl
      rw [e2] at h ⊢
      rw [List.map_cons, ownP_map S l (by simpa using h)]
theorem Ctx.blkOk (C : Ctx Dw n S X Γ W) {scope : Scope} {own : List Nat} (h : blkCk S scope own = true) : BlkOk X.N X.env.scope scope (ownP S own) ∧ (ownP S own).map (·.2) = own ∧ own.Nodup ∧ ∀ i ∈ own, i ∉ S.pins := by
  obtain ⟨h1, h⟩ := and_ok h
  obtain ⟨h2, h⟩ := and_ok h
  obtain ⟨h3, h⟩ := and_ok h
  obtain ⟨h4, h⟩ := and_ok h
  obtain ⟨h5, h⟩ := and_ok h
  obtain ⟨h6, h7⟩ := and_ok h
  refine ⟨⟨of_decide_eq_true h1, fun y hy => of_decide_eq_true (List.all_eq_true.mp h2 y hy), fun p hp => by rw [C.N]; exact ownP_mem hp, fun y hy e => ?_, fun y hy e => ?_⟩, ownP_map S own (by simpa using h3), of_decide_eq_true h4, fun i hi z => ?_⟩
  · have := List.all_eq_true.mp h6 y hy
    rw [e] at this
    simp only [decide_true, Bool.not_true, Bool.false_or, Bool.or_eq_true, decide_eq_true_eq] at this
    rcases this with k | k
    · rcases C.sc _ _ k with r | ⟨q, _⟩
      · exact .inl r
      · cases q
    · rcases C.sc _ _ k with r | ⟨_, r⟩
      · exact .inr r
      · exact .inl r
  · have := List.all_eq_true.mp h7 y hy
    simp only [Bool.or_eq_true, Bool.not_eq_true', Bool.or_eq_false_iff, decide_eq_false_iff_not, List.contains_iff_mem, List.contains_eq_mem, decide_eq_true_eq, decide_eq_false_iff_not] at this
    rcases this with k | k | k
    · rcases e with e | e
      · exact absurd e k.1
      · exact absurd e k.2
    · exact .inl k
    · exact .inr (by rw [C.N]; exact k)
  · have := List.all_eq_true.mp h5 i hi
    simp [z] at this
theorem noSet_ok {e : Expr} {env : PySem.Env} (h : noSet e = true) : ∀ x, foldedSetIterable e env x = pure x := by
  intro x
  cases e <;> first | rfl | cases h
theorem cells_ok {l r : List Nat} (h : l.all r.contains = true) : ∀ i ∈ l, i ∈ r := fun i hi => by
  have := List.all_eq_true.mp h i hi
  simpa using this
end
end Eng
end

section
set_option linter.all false
set_option maxRecDepth 100000
namespace Eng
open PySem PySem.Spec PyProof.Rows
open L2 (V HO Hp VK TE TS TA TT TI TG TGs TSet PGs PSet WX XK SqL SqT Rd upd upd_same upd_ne upd_upd Key kV Mut RelV Vals Inv Cx PE PS PT PW PA PI PG PSs PTs Takes tVar tNil tCons tOp Vis Loc Gl Room OpR R2 EP Dp DpAll TruR TruV IxR CallR FnOk Sp Ends PassesAt BlkOk DPut valV SlR MtR)
/-- what the check gives, at a fuel -/
structure Cl (Dw : Wd) (n : Nat) (m : Mod) (T : List (Addr × Str)) (v : Ev) : Prop where
  e : ∀ (k : Nat) (S : Sx) (X : Cx) (Γ : Gm) (W : WX) (i : E) (e : Expr), Γ.T = T → Ctx Dw n S X Γ W → (chkc m k).e S i e = true → PE X e (tE v Γ W i)
  t : ∀ (k : Nat) (S : Sx) (X : Cx) (Γ : Gm) (W : WX) (i : E) (e : Expr), Γ.T = T → Ctx Dw n S X Γ W → (chkc m k).t S i e = true → PT X e (tT v Γ W i) ∧ (isPl i = none → ∀ op a b r p, e = .BoolOp op (a :: b :: r) p → PW X e (tT v Γ W i))
  i : ∀ (k : Nat) (S : Sx) (X : Cx) (Γ : Gm) (W : WX) (t : Expr) (i : Eng.It) (e : Expr), Γ.T = T → Ctx Dw n S X Γ W → ckI (chkc m k) S t i e = true → PI X t e (tI v Γ W i)
  s : ∀ (k : Nat) (S : Sx) (X : Cx) (Γ : Gm) (W : WX) (is : List Eng.S) (l : List Stmt), Γ.T = T → Ctx Dw n S X Γ W → (chkc m k).s S is l = true → PSs X l (tS v Γ W is)
section
variable {Dw : Wd} {n : Nat} {S : Sx} {X : Cx} {Γ : Gm} {W : WX} {v : Ev} {m : Mod} {Tb : List (Addr × Str)}
/-- the evaluator that is stepped: none, or a step itself, with room for a lambda -/
def Hv (Dw : Wd) (n : Nat) (m : Mod) (Tb : List (Addr × Str)) (v : Ev) : Prop := v = badEv ∨ ∃ v', v = step m v' ∧ Cl Dw n m Tb v' ∧ (v' = badEv ∨ ∃ kk, n = kk + 2 ∧ Cl Dw kk m Tb v')
theorem bad_e {i : E} {e : Expr} (h : ∀ env, v.e i env = .bad) : PE X e (tE v Γ W i) := ⟨fun pins s σ H Q I ⟨env, Fs, ts, r, q⟩ => by rw [h] at q; exact q.elim⟩
theorem Cl.o (K : Cl Dw n m Tb v) {k c : Nat} {i : E} {e : Expr} (hT : Γ.T = Tb) (C : Ctx Dw n S X Γ W) (hc : c < 9) (h : ckO (chkc m k) S i e = true) : PE X e (tO v Γ W c i) := by
  unfold ckO at h
  unfold tO
  cases hp : isPl i with
  | some j =>
    rw [hp] at h
    cases e with
    | Name x p => exact C.slot h
    | _ => cases h
  | none =>
    rw [hp] at h
    exact pe_cap c hc (K.e k S X Γ W i e hT C h)
theorem Cl.os (K : Cl Dw n m Tb v) {k c : Nat} (hT : Γ.T = Tb) (C : Ctx Dw n S X Γ W) (hc : c < 9) : ∀ {is : List E} {es : List Expr}, ckOs (chkc m k) S is es = true → PA X es (tOs v Γ W c is) ∧ is.length = es.length ∧ es.all notStar = true
  | [], [], _ => ⟨L2.pa_nil, rfl, rfl⟩
  | [], _ :: _, h => by cases h
  | _ :: _, [], h => by cases h
  | i :: is, e :: es, h => by
    obtain ⟨h1, h⟩ := and_ok h
    obtain ⟨h2, h⟩ := and_ok h
    obtain ⟨a, b, d⟩ := K.os hT C hc h
    exact ⟨L2.pa_cons (K.o hT C hc h1) a (star_ok h2), by simp [b], by rw [List.all_cons, h2, d]; rfl⟩
/-! ### targets -/
theorem ckGs_ok {c : Ck} (ih : ∀ (S : Sx) (X : Cx) (Γ : Gm) (W : WX) (t : Eng.T) (e : Expr), Ctx Dw n S X Γ W → c.g S t e = true → PG X e (tG Γ t)) (C : Ctx Dw n S X Γ W) : ∀ {ts : List Eng.T} {es : List Expr}, ckGs c S ts es = true → PGs X es (tGs Γ ts) ∧ ts.length = es.length ∧ es.all notStar = true
  | [], [], _ => ⟨ngs_nil, rfl, rfl⟩
  | [], _ :: _, h => by cases h
  | _ :: _, [], h => by cases h
  | t :: ts, e :: es, h => by
    obtain ⟨h1, h⟩ := and_ok h
    obtain ⟨h2, h⟩ := and_ok h
    obtain ⟨a, b, d⟩ := ckGs_ok ih C h
    exact ⟨ngs_cons (ih S X Γ W t e C h1) a h2, by simp [b], by rw [List.all_cons, h2, d]; rfl⟩
theorem ckp_ok : ∀ (k : Nat) (S : Sx) (X : Cx) (Γ : Gm) (W : WX) (i : E) (e : Expr), Ctx Dw n S X Γ W → (chkc m k).p S i e = true → PE X e (tP Γ i)
  | 0, S, X, Γ, W, i, e, C, h => by cases h
  | k + 1, S, X, Γ, W, i, e, C, h => by
    have h : ckP (chkc m k) S i e = true := h
    unfold ckP at h
    split at h
    · exact np_con C h
    · exact np_var C h
    · obtain ⟨h1, h⟩ := and_ok h
      obtain ⟨h2, h3⟩ := and_ok h
      exact np_ix C h1 (ckp_ok k S X Γ W _ _ C h3) h2
    · obtain ⟨h1, h2⟩ := and_ok h
      exact np_add C (ckp_ok k S X Γ W _ _ C h1) (ckp_ok k S X Γ W _ _ C h2)
    · cases h
theorem ckps_ok (C : Ctx Dw n S X Γ W) {k : Nat} : ∀ {is : List E} {es : List Expr}, ckPs (chkc m k) S is es = true → PA X es (tPs Γ is)
  | [], [], _ => nps_nil
  | [], _ :: _, h => by cases h
  | _ :: _, [], h => by cases h
  | i :: is, e :: es, h => by
    obtain ⟨h1, h⟩ := and_ok h
    obtain ⟨h2, h⟩ := and_ok h
    exact nps_cons (ckp_ok k S X Γ W _ _ C h1) (ckps_ok C h) h2
theorem ckg_ok : ∀ (k : Nat) (S : Sx) (X : Cx) (Γ : Gm) (W : WX) (t : Eng.T) (e : Expr), Ctx Dw n S X Γ W → (chkc m k).g S t e = true → PG X e (tG Γ t)
  | 0, S, X, Γ, W, t, e, C, h => by cases h
  | k + 1, S, X, Γ, W, t, e, C, h => by
    have h : ckG (chkc m k) S t e = true := h
    unfold ckG at h
    split at h
    · obtain ⟨h1, h2⟩ := and_ok h
      exact ng_nm C h1 (fun z => by simp [z] at h2)
    · obtain ⟨h1, h2⟩ := and_ok h
      obtain ⟨a, b, d⟩ := ckGs_ok (ckg_ok k) C h2
      exact ng_tp C (by simpa using h1) a b d
    · obtain ⟨h1, h⟩ := and_ok h
      obtain ⟨h3, h4⟩ := and_ok h
      exact ng_st C h1 (ckp_ok k S X Γ W _ _ C h4) h3
    · cases h
/-! ### iterables -/
theorem ckI_ok (K : Cl Dw n m Tb v) {k : Nat} {t : Expr} {i : Eng.It} {e : Expr} (hT : Γ.T = Tb) (C : Ctx Dw n S X Γ W) (h : ckI (chkc m k) S t i e = true) : PI X t e (tI (step m v) Γ W i) := by
  unfold ckI at h
  split at h
  · obtain ⟨h1, h2⟩ := and_ok h
    exact ni_val C (by simpa using h1) (K.o hT C (by omega) h2)
  · obtain ⟨h1, h⟩ := and_ok h
    obtain ⟨h2, h⟩ := and_ok h
    obtain ⟨h3, h4⟩ := and_ok h
    have e1 := (C.blt h1).1
    subst e1
    exact ni_rng1 C h1 (by simpa using h2) (K.o hT C (by omega) h3) h4
  · obtain ⟨h1, h⟩ := and_ok h
    obtain ⟨h2, h⟩ := and_ok h
    obtain ⟨h3, h⟩ := and_ok h
    obtain ⟨h4, h⟩ := and_ok h
    obtain ⟨h5, h⟩ := and_ok h
    obtain ⟨h6, h7⟩ := and_ok h
    have e1 := (C.blt h1).1
    subst e1
    exact ni_rng2 C h1 (by simpa using h2) (by simpa using h3) (K.o hT C (by omega) h4) (K.o hT C (by omega) h5) h6 h7
  · obtain ⟨h1, h⟩ := and_ok h
    obtain ⟨h2, h⟩ := and_ok h
    obtain ⟨h3, h⟩ := and_ok h
    obtain ⟨h4, h5⟩ := and_ok h
    have e1 := (C.blt h1).1
    subst e1
    cases t with
    | Tuple elts kk p => exact ni_enum C h1 (by simpa using h3) (K.o hT C (by omega) h4) h5
    | _ => cases h2
  · obtain ⟨h1, h⟩ := and_ok h
    obtain ⟨h2, h⟩ := and_ok h
    obtain ⟨h3, h⟩ := and_ok h
    obtain ⟨h4, h⟩ := and_ok h
    obtain ⟨h5, h⟩ := and_ok h
    obtain ⟨h6, h⟩ := and_ok h
    obtain ⟨h7, h8⟩ := and_ok h
    have e1 := (C.blt h1).1
    subst e1
    cases t with
    | Tuple elts kk p => exact ni_zip C h1 (by simpa using h3) (by simpa using h4) (K.o hT C (by omega) h5) (K.o hT C (by omega) h6) h7 h8
    | _ => cases h2
  · obtain ⟨h1, h⟩ := and_ok h
    obtain ⟨h2, h⟩ := and_ok h
    obtain ⟨h3, h⟩ := and_ok h
    obtain ⟨h4, h5⟩ := and_ok h
    have e1 := of_decide_eq_true h1
    subst e1
    cases t with
    | Tuple elts kk p => exact ni_items C (by simpa using h3) (K.o hT C (by omega) h4) (by rfl) h5
    | _ => cases h2
  · cases h
end
end Eng
end

section
set_option linter.all false
set_option maxRecDepth 100000
namespace Eng
open PySem PySem.Spec PyProof.Rows
open L2 (V HO Hp VK TE TS TA TT TI TG TGs TSet PGs PSet WX XK SqL SqT Rd upd upd_same upd_ne upd_upd Key kV Mut RelV Vals Inv Cx PE PS PT PW PA PI PG PSs PTs Takes tVar tNil tCons tOp Vis Loc Gl Room OpR R2 EP Dp DpAll TruR TruV IxR CallR FnOk Sp Ends PassesAt BlkOk DPut valV SlR MtR)
section
variable {Dw : Wd} {n : Nat} {S : Sx} {X : Cx} {Γ : Gm} {W : WX} {v : Ev} {m : Mod} {Tb : List (Addr × Str)}
theorem not_hot {b : Bool} (h : (!b) = true) : b = false := by simpa using h
theorem ifs_cl (K : Cl Dw n m Tb v) {k : Nat} (hT : Γ.T = Tb) (C : Ctx Dw n S X Γ W) {is : List E} {es : List Expr} (h : ckIfs (chkc m k) S is es = true) : PTs X es (tIfs v Γ W is) := by
  unfold ckIfs at h
  split at h
  · exact nts_nil
  · exact nts_one (K.t k S X Γ W _ _ hT C h).1
  · cases h
theorem cn_base {e : Expr} {x : Str} {env : PySem.Env} (h : isCn e = true) : attributeBase e x env (eval e env) = eval e env := by
  cases e <;> first | rfl | cases h
theorem nm_base {e : Expr} {x : Str} {env : PySem.Env} (h : isNm e = true) : attributeBase e x env (eval e env) = eval e env := by
  cases e <;> first | rfl | cases h
theorem ckE_ok (K : Cl Dw n m Tb v) (hv : Hv Dw n m Tb v) (F : FnsOk Dw m v Tb n) {k : Nat} {i : E} {e : Expr} (hT : Γ.T = Tb) (C : Ctx Dw n S X Γ W) (h : ckE m (chkc m k) S i e = true) : PE X e (tE (step m v) Γ W i) := by
  have hK : X.K = Γ.p.K := by rw [C.K, C.pK]
  unfold ckE at h
  split at h
  · exact bad_e fun env => rfl
  · exact nd_var m C h
  · exact nd_mov m C h
  · exact nd_con m C h
  · exact nd_fn m C h
  · obtain ⟨h1, h2⟩ := and_ok h
    obtain ⟨a, b, d⟩ := K.os (c := 0) hT C (by omega) h2
    exact nd_tup h1 a
  · obtain ⟨h1, h2⟩ := and_ok h
    obtain ⟨a, b, d⟩ := K.os (c := 8) hT C (by omega) h2
    exact nd_lst h1 a
  · obtain ⟨h1, h⟩ := and_ok h
    obtain ⟨h2, h3⟩ := and_ok h
    have e1 := of_decide_eq_true h1
    subst e1
    exact nd_bin hK (K.o hT C (by omega) h2) (K.o hT C (by omega) h3)
  · exact nd_neg (K.o hT C (by omega) h)
  · obtain ⟨h1, h2⟩ := and_ok h
    exact nd_not C (K.o hT C (by omega) h2)
  · obtain ⟨h1, h⟩ := and_ok h
    obtain ⟨h2, h3⟩ := and_ok h
    refine nd_and C (by simpa using h1) (K.e k S X Γ W _ _ hT C h2) ?_
    split at h3
    · exact pe_bool1 (K.e k S X Γ W _ _ hT C h3)
    · exact K.e k S X Γ W _ _ hT C h3
  · obtain ⟨h1, h⟩ := and_ok h
    obtain ⟨h2, h3⟩ := and_ok h
    refine nd_or C (by simpa using h1) (K.e k S X Γ W _ _ hT C h2) ?_
    split at h3
    · exact pe_bool1 (K.e k S X Γ W _ _ hT C h3)
    · exact K.e k S X Γ W _ _ hT C h3
  · obtain ⟨h1, h⟩ := and_ok h
    obtain ⟨h2, h⟩ := and_ok h
    obtain ⟨h3, h4⟩ := and_ok h
    have e1 := of_decide_eq_true h1
    subst e1
    exact nd_cmp C (K.o hT C (by omega) h2) (K.o hT C (by omega) h3) (by simpa using h4)
  · obtain ⟨h1, h⟩ := and_ok h
    obtain ⟨h2, h⟩ := and_ok h
    obtain ⟨h3, h⟩ := and_ok h
    obtain ⟨h4, h⟩ := and_ok h
    obtain ⟨h5, h⟩ := and_ok h
    obtain ⟨h6, h7⟩ := and_ok h
    have e1 := of_decide_eq_true h1
    have e2 := of_decide_eq_true h2
    subst e1 e2
    exact nd_cmp2 C (by simpa using h3) (K.o hT C (by omega) h4) (K.o hT C (by omega) h5) (K.o hT C (by omega) h6) (by simpa using h7)
  · obtain ⟨h1, h⟩ := and_ok h
    obtain ⟨h2, h3⟩ := and_ok h
    exact nd_ite (K.t k S X Γ W _ _ hT C h1).1 (K.e k S X Γ W _ _ hT C h2) (K.e k S X Γ W _ _ hT C h3)
  · obtain ⟨h1, h⟩ := and_ok h
    obtain ⟨h2, h3⟩ := and_ok h
    exact nd_ix C (K.o hT C (by omega) h1) (K.o hT C (by omega) h2) h3
  · obtain ⟨h1, h⟩ := and_ok h
    obtain ⟨h2, h3⟩ := and_ok h
    exact nd_slLo C (by simpa using h1) (K.o hT C (by omega) h2) (K.o hT C (by omega) h3)
  · obtain ⟨h1, h⟩ := and_ok h
    obtain ⟨h2, h3⟩ := and_ok h
    exact nd_slHi C (by simpa using h1) (K.o hT C (by omega) h2) (K.o hT C (by omega) h3)
  · obtain ⟨h1, h⟩ := and_ok h
    obtain ⟨h2, h⟩ := and_ok h
    obtain ⟨h3, h⟩ := and_ok h
    obtain ⟨h4, h⟩ := and_ok h
    obtain ⟨h5, h⟩ := and_ok h
    obtain ⟨h6, h⟩ := and_ok h
    obtain ⟨h7, h8⟩ := and_ok h
    obtain ⟨a, b, d⟩ := K.os (c := 7) hT C (by omega) h8
    split at h5
    · rename_i f hf
      exact nd_call C (by rw [hT]; exact F) (not_hot h1) h2 hf (fun z => by simp [z] at h4) h3 a b d h6 (of_decide_eq_true h7) (by simpa using (eq_of_beq h5).symm)
    · cases h5
  · obtain ⟨h1, h⟩ := and_ok h
    obtain ⟨h2, h⟩ := and_ok h
    obtain ⟨h3, h⟩ := and_ok h
    obtain ⟨h6, h⟩ := and_ok h
    obtain ⟨h7, h8⟩ := and_ok h
    obtain ⟨a, b, d⟩ := K.os (c := 7) hT C (by omega) h8
    exact nd_callv C (by rw [hT]; exact F) (not_hot h1) h2 h3 a b d h6 (of_decide_eq_true h7)
  · obtain ⟨h1, h⟩ := and_ok h
    obtain ⟨h2, h⟩ := and_ok h
    obtain ⟨h3, h⟩ := and_ok h
    obtain ⟨h4, h⟩ := and_ok h
    obtain ⟨h5, h⟩ := and_ok h
    obtain ⟨h6, h7⟩ := and_ok h
    split at h7
    · rename_i e0 hj
      have no : (∀ env, v.e (.pad e0) env = .bad) → ∀ kk jj, m.lams[jj]? = some e0 → ∀ env, (step m v).e (.lam kk jj) env = .bad := fun hb kk jj hj env => by
        show stepE m v (.lam kk jj) env = .bad
        rw [stepE_lam, hj]
        dsimp only
        rw [hb]
      rcases hv with e | ⟨v', e, K', e2 | ⟨kk, hn, KL⟩⟩
      · exact bad_e (no (fun env => by subst e; rfl) _ _ hj)
      · exact bad_e (no (fun env => by subst e; subst e2; rfl) _ _ hj)
      · refine nd_lam C (by rw [hT]; exact F) (not_hot h1) h2 h3 h4 (by simpa using h5) hj h6 hn fun X' Γ' W' e3 C' => ?_
        subst e
        exact KL.e _ _ _ _ _ _ _ (e3.trans hT) C' h7
    · cases h7
  · rcases Bool.or_eq_true_iff.mp h with h | h
    · obtain ⟨h1, h⟩ := and_ok h
      obtain ⟨h2, h⟩ := and_ok h
      obtain ⟨h3, h⟩ := and_ok h
      obtain ⟨h4, h5⟩ := and_ok h
      exact nd_isi C (not_hot h1) h2 h3 (K.o hT C (by omega) h4) h5
    · split at h
      · obtain ⟨h1, h⟩ := and_ok h
        obtain ⟨h2, h⟩ := and_ok h
        obtain ⟨h3, h⟩ := and_ok h
        obtain ⟨h4, h5⟩ := and_ok h
        exact nd_isiX C h1 h2 h3 h4 (K.o hT C (by omega) h5)
      · cases h
  · exact nd_dic0
  · obtain ⟨h1, h⟩ := and_ok h
    obtain ⟨h2, h⟩ := and_ok h
    obtain ⟨h3, h4⟩ := and_ok h
    exact nd_dic1 C h1 h2 (K.o hT C (by omega) h3) (K.o hT C (by omega) h4)
  · obtain ⟨h1, h⟩ := and_ok h
    obtain ⟨h2, h3⟩ := and_ok h
    have e0 := of_decide_eq_true h2
    subst e0
    exact nd_attrX C h1 (K.o hT C (by omega) h3)
  · obtain ⟨h1, h⟩ := and_ok h
    obtain ⟨h2, h⟩ := and_ok h
    obtain ⟨h3, h⟩ := and_ok h
    obtain ⟨h4, h5⟩ := and_ok h
    exact nd_lenset C (not_hot h1) h2 h3 (K.o hT C (by omega) h4) h5
  · obtain ⟨h1, h⟩ := and_ok h
    obtain ⟨h2, h⟩ := and_ok h
    obtain ⟨h3, h4⟩ := and_ok h
    exact nd_min C (not_hot h1) h2 (K.o hT C (by omega) h3) h4
  · obtain ⟨h0, h⟩ := and_ok h
    obtain ⟨h1, h⟩ := and_ok h
    obtain ⟨h2, h⟩ := and_ok h
    obtain ⟨h3, h⟩ := and_ok h
    obtain ⟨h4, h⟩ := and_ok h
    obtain ⟨h5, h⟩ := and_ok h
    obtain ⟨h6, h7⟩ := and_ok h
    have e0 := of_decide_eq_true h0
    subst e0
    exact nd_get2 C (K.o hT C (by omega) h2) (K.o hT C (by omega) h3) (K.o hT C (by omega) h4) h5 h6 (nm_base h1) h7
  · obtain ⟨h0, h⟩ := and_ok h
    obtain ⟨h1, h⟩ := and_ok h
    obtain ⟨h2, h⟩ := and_ok h
    obtain ⟨h3, h⟩ := and_ok h
    obtain ⟨h4, h5⟩ := and_ok h
    have e0 := of_decide_eq_true h0
    subst e0
    exact nd_join C (K.o hT C (by omega) h2) (K.o hT C (by omega) h3) h4 (cn_base h1) h5
  · obtain ⟨h1, h⟩ := and_ok h
    obtain ⟨h2, h⟩ := and_ok h
    obtain ⟨h3, h⟩ := and_ok h
    obtain ⟨h4, h⟩ := and_ok h
    obtain ⟨h5, h⟩ := and_ok h
    obtain ⟨h6, h⟩ := and_ok h
    obtain ⟨h7, h⟩ := and_ok h
    obtain ⟨h8, h9⟩ := and_ok h
    obtain ⟨b1, b2, b3, b4⟩ := C.blkOk h2
    rcases hv with e | ⟨v', e, K', _⟩
    · subst e; exact bad_e fun env => rfl
    · subst e
      exact nd_lcH C h1 b2 b3 b4 (cells_ok h3) b1 (niB_lval C (by simpa using h4) (K'.o hT C (by omega) h5))
        (fun s H A cl fp H1 L hb => by
          split at h6
          · obtain ⟨g1, g2, g3⟩ := ckGs_ok (ckg_ok k) (C.blk h2 s H A cl fp H1 L) h6
            exact ng_tpH (C.blk h2 s H A cl fp H1 L) hb g1 g2 g3
          · exact ckg_ok k _ _ _ _ _ _ (C.blk h2 s H A cl fp H1 L) h6)
        (fun s H A cl fp H1 L => ifs_cl (Γ := Γ.at H1 L) K hT (C.blk h2 s H A cl fp H1 L) h7)
        (fun s H A cl fp H1 L => K.e k _ _ (Γ.at H1 L) _ _ _ hT (C.blk h2 s H A cl fp H1 L) h8) (noSet_ok h9)
  · obtain ⟨h1, h⟩ := and_ok h
    obtain ⟨h2, h⟩ := and_ok h
    obtain ⟨h3, h⟩ := and_ok h
    obtain ⟨h4, h⟩ := and_ok h
    obtain ⟨h5, h6⟩ := and_ok h
    rcases hv with e | ⟨v', e, K', _⟩
    · subst e; exact bad_e fun env => rfl
    · subst e
      exact nd_lrg C (not_hot h1) h2 h3 (by simpa using h4) h6 ⟨v', fun env => rfl, K'.o hT C (by omega) h5⟩
  · obtain ⟨h1, h⟩ := and_ok h
    obtain ⟨h2, h3⟩ := and_ok h
    exact nd_sorted C h1 (K.o hT C (by omega) h2) h3
  · obtain ⟨h1, h⟩ := and_ok h
    obtain ⟨h2, h⟩ := and_ok h
    obtain ⟨h3, h4⟩ := and_ok h
    exact nd_dictP C (not_hot h1) h2 (K.o hT C (by omega) h3) h4
  · obtain ⟨h1, h⟩ := and_ok h
    obtain ⟨h2, h⟩ := and_ok h
    obtain ⟨h3, h4⟩ := and_ok h
    exact nd_catl (by simpa using h1) (by simpa using h2) (K.o hT C (by omega) h3) (K.o hT C (by omega) h4)
  · obtain ⟨h0, h⟩ := and_ok h
    obtain ⟨h1, h⟩ := and_ok h
    obtain ⟨h2, h⟩ := and_ok h
    obtain ⟨h3, h⟩ := and_ok h
    obtain ⟨h4, h5⟩ := and_ok h
    have e0 := of_decide_eq_true h0
    subst e0
    exact nd_mtIndex C (K.o hT C (by omega) h2) (K.o hT C (by omega) h3) h4 (nm_base h1) h5
  · obtain ⟨h1, h⟩ := and_ok h
    obtain ⟨h2, h⟩ := and_ok h
    obtain ⟨h3, h⟩ := and_ok h
    obtain ⟨h4, h⟩ := and_ok h
    obtain ⟨h5, h⟩ := and_ok h
    obtain ⟨h6, h⟩ := and_ok h
    obtain ⟨h7, h⟩ := and_ok h
    obtain ⟨h8, h⟩ := and_ok h
    obtain ⟨h9, h⟩ := and_ok h
    obtain ⟨h10, h⟩ := and_ok h
    obtain ⟨h11, h12⟩ := and_ok h
    obtain ⟨b1, b2, b3, b4⟩ := C.blkOk h2
    exact nd_lc2 C (not_hot h1) b2 b3 b4 (cells_ok h3) (cells_ok h4) (cells_ok h5) b1 (K.i k S X Γ W _ _ _ hT C h6)
      (fun s H A cl fp H1 L => ckg_ok k _ _ _ _ _ _ (C.blk h2 s H A cl fp H1 L) h7)
      (fun s H A cl fp H1 L => K.i k _ _ (Γ.at H1 L) _ _ _ _ hT (C.blk h2 s H A cl fp H1 L) h8)
      (fun s H A cl fp H1 L => ckg_ok k _ _ _ _ _ _ (C.blk h2 s H A cl fp H1 L) h9)
      (fun s H A cl fp H1 L => K.e k _ _ (Γ.at H1 L) _ _ _ hT (C.blk h2 s H A cl fp H1 L) h10) h11 h12
  · obtain ⟨h1, h⟩ := and_ok h
    obtain ⟨h2, h⟩ := and_ok h
    obtain ⟨h3, h4⟩ := and_ok h
    obtain ⟨a, b, d⟩ := K.os (c := 1) hT C (by omega) h4
    exact nd_bi C (not_hot h1) h2 h3 a d
  · obtain ⟨h1, h⟩ := and_ok h
    obtain ⟨h2, h⟩ := and_ok h
    obtain ⟨h3, h⟩ := and_ok h
    obtain ⟨h4, h⟩ := and_ok h
    obtain ⟨h5, h⟩ := and_ok h
    obtain ⟨h6, h⟩ := and_ok h
    obtain ⟨h7, h8⟩ := and_ok h
    obtain ⟨b1, b2, b3, b4⟩ := C.blkOk h2
    exact nd_lc C (not_hot h1) b2 b3 b4 (cells_ok h3) b1 (K.i k S X Γ W _ _ _ hT C h4)
      (fun s H A cl fp H1 L => ckg_ok k _ _ _ _ _ _ (C.blk h2 s H A cl fp H1 L) h5)
      (fun s H A cl fp H1 L => ifs_cl (Γ := Γ.at H1 L) K hT (C.blk h2 s H A cl fp H1 L) h6)
      (fun s H A cl fp H1 L => K.e k _ _ (Γ.at H1 L) _ _ _ hT (C.blk h2 s H A cl fp H1 L) h7) (noSet_ok h8)
  · cases h
theorem tl_and (K : Cl Dw n m Tb v) {k : Nat} {b : E} {eb : Expr} {r : List Expr} {p : Pos} (hT : Γ.T = Tb) (C : Ctx Dw n S X Γ W) (hb : isPl b = none) (h : (match r with | [] => (chkc m k).t S b eb | _ => (chkc m k).t S b (.BoolOp .And (eb :: r) p)) = true) : PW X (.BoolOp .And (eb :: r) p) (tT v Γ W b) := by
  cases r with
  | nil => exact L2.pw_and1 (K.t k S X Γ W _ _ hT C h).1
  | cons x r => exact (K.t k S X Γ W _ _ hT C h).2 hb _ _ _ _ _ rfl
theorem tl_or (K : Cl Dw n m Tb v) {k : Nat} {b : E} {eb : Expr} {r : List Expr} {p : Pos} (hT : Γ.T = Tb) (C : Ctx Dw n S X Γ W) (hb : isPl b = none) (h : (match r with | [] => (chkc m k).t S b eb | _ => (chkc m k).t S b (.BoolOp .Or (eb :: r) p)) = true) : PW X (.BoolOp .Or (eb :: r) p) (tT v Γ W b) := by
  cases r with
  | nil => exact L2.pw_or1 (K.t k S X Γ W _ _ hT C h).1
  | cons x r => exact (K.t k S X Γ W _ _ hT C h).2 hb _ _ _ _ _ rfl
theorem ckT_ok (K : Cl Dw n m Tb v) {k : Nat} {i : E} {e : Expr} (hT : Γ.T = Tb) (C : Ctx Dw n S X Γ W) (hE : ∀ i e, (chkc m k).e S i e = true → PE X e (tE (step m v) Γ W i)) (h : ckT (chkc m k) S i e = true) : PT X e (tT (step m v) Γ W i) ∧ (isPl i = none → ∀ op a b r p, e = .BoolOp op (a :: b :: r) p → PW X e (tT (step m v) Γ W i)) := by
  unfold ckT at h
  split at h
  · rename_i j hp
    split at h
    · exact ⟨nt_pl C hp h, fun z => by rw [hp] at z; cases z⟩
    · cases h
  · rename_i hp
    split at h
    · obtain ⟨h1, h⟩ := and_ok h
      obtain ⟨h2, h⟩ := and_ok h
      obtain ⟨h3, h4⟩ := and_ok h
      have e1 := of_decide_eq_true h1
      subst e1
      exact ⟨nt_cmp C (K.o hT C (by omega) h2) (K.o hT C (by omega) h3) (by simpa using h4), fun _ op a b r p z => by cases z⟩
    · exact ⟨nt_not (K.t k S X Γ W _ _ hT C h).1, fun _ op a b r p z => by cases z⟩
    · obtain ⟨h1, h⟩ := and_ok h
      obtain ⟨h2, h3⟩ := and_ok h
      have pw : PW X _ (tT (step m v) Γ W _) := nw_and (by simpa using h1) (K.t k S X Γ W _ _ hT C h2).1 (tl_and K hT C (by simpa using h1) h3)
      exact ⟨pw.pt, fun _ op a b r p z => pw⟩
    · obtain ⟨h0, h⟩ := and_ok h
      obtain ⟨h1, h⟩ := and_ok h
      obtain ⟨h2, h3⟩ := and_ok h
      have pw : PW X _ (tT (step m v) Γ W _) := nw_or (by simpa using h0) (by simpa using h1) (K.t k S X Γ W _ _ hT C h2).1 (tl_or K hT C (by simpa using h1) h3)
      exact ⟨pw.pt, fun _ op a b r p z => pw⟩
    · obtain ⟨h1, h2⟩ := and_ok h
      exact ⟨nt_gen C hp h1 (hE _ _ h2), fun _ op a b r p z => by subst z; cases h1⟩
end
end Eng
end

section
set_option linter.all false
set_option maxRecDepth 100000
namespace Eng
open PySem PySem.Spec PyProof.Rows
open L2 (V HO Hp VK TE TS TA TT TI TG TGs TSet PGs PSet WX XK SqL SqT Rd upd upd_same upd_ne upd_upd Key kV Mut RelV Vals Inv Cx PE PS PT PW PA PI PG PSs PTs Takes tVar tNil tCons tOp Vis Loc Gl Room OpR R2 EP Dp DpAll TruR TruV IxR CallR FnOk Sp Ends PassesAt BlkOk DPut valV SlR MtR)
section
variable {Dw : Wd} {n : Nat} {S : Sx} {X : Cx} {Γ : Gm} {W : WX} {v : Ev} {m : Mod} {Tb : List (Addr × Str)}
theorem sw_sole {t e : Expr} {l : Nat} {env : PySem.Env} (h : noComp e = true) : swapsWithSole [t] e l env = pure false := by
  cases e <;> first | rfl | cases h
theorem sw_expr {e : Expr} {l : Nat} {env : PySem.Env} (h : noComp e = true) : swapsWith e none l env = pure false := by
  cases e <;> first | rfl | cases h
theorem sw_nt {t e : Expr} {env : PySem.Env} (h : (noTup t || noTup e) = true) : swappedStores [t] e env = pure none := by
  cases t with
  | Tuple a b c => cases e <;> first | rfl | cases h
  | List a b => cases e <;> first | rfl | cases h
  | _ => rfl
theorem fm_short {ts : List Expr} {f : Expr → Option Str} (hf : ∀ t, isNameE t = false → f t = none) (h : ts.any (fun t => !isNameE t) = true) : (ts.filterMap f).length < ts.length := by
  induction ts with
  | nil => cases h
  | cons t ts ih =>
    have hle : (ts.filterMap f).length ≤ ts.length := List.length_filterMap_le _ _
    rw [List.any_cons] at h
    rw [List.filterMap_cons]
    cases hn : isNameE t with
    | false =>
      rw [hf t hn, List.length_cons]
      exact Nat.lt_succ_of_le hle
    | true =>
      rw [hn] at h
      have := ih h
      split
      · rw [List.length_cons]; omega
      · rw [List.length_cons, List.length_cons]; omega
theorem sw_tup {ts es : List Expr} {k1 k2 : Nat} {p1 p2 : Pos} {env : PySem.Env} (h : (decide (3 < ts.length) || (ts.any (fun t => !isNameE t) || es.all (foldedForSure 8))) = true) : swappedStores [.Tuple ts k1 p1] (.Tuple es k2 p2) env = pure none := by
  unfold swappedStores
  dsimp only
  split
  · rfl
  · rename_i h1
    split
    · rfl
    · split
      · rfl
      · rename_i h3
        split
        · rfl
        · rename_i h4
          exfalso
          simp only [Bool.or_eq_true, decide_eq_true_eq] at h
          rcases h with h | h | h
          · exact h1 (by
              have a1 : (ts.length == 2) = false := beq_eq_false_iff_ne.mpr (by omega)
              have a2 : (ts.length == 3) = false := beq_eq_false_iff_ne.mpr (by omega)
              rw [a1, a2]
              rfl)
          · have := fm_short (f := fun
              | .Name id pos => if env.kindOf id == some .local && pos.line == (ts.head?.map (·.pos.line)).getD 0 then some id else none
              | _ => none) (fun t ht => by cases t <;> first | rfl | cases ht) h
            refine h3 (Bool.or_eq_true_iff.mpr (.inl (bne_iff_ne.mpr fun e => ?_)))
            exact absurd e (Nat.ne_of_lt this)
          · exact h4 h
theorem fm2 {x y : Str} {p1 p2 : Pos} (f : Expr → Option Str) (h1 : f (.Name x p1) = some x) (h2 : f (.Name y p2) = some y) : [Expr.Name x p1, Expr.Name y p2].filterMap f = [x, y] := by
  rw [List.filterMap_cons, h1, List.filterMap_cons, h2]
  rfl
theorem if_some {b : Bool} {x : Str} (h : b = true) : (if b = true then some x else none) = some x := if_pos h
theorem sw_two {x y : Str} {ea eb : Expr} {kt k2 : Nat} {p1 p2 pt pt2 : Pos} {env : PySem.Env} (hk : env.scope.kind = .function) (hx : env.scope.names.lookup x = some .local) (hy : env.scope.names.lookup y = some .local) (sa : notStar ea = true) (sb : notStar eb = true) (hxy : (x == y) = false) (hl : (p1.line == p2.line) = true)
    (h1 : [ea, eb].all (foldedForSure 8) = false) (h2 : [ea, eb].all (constantsAlone 8) = false) : swappedStores [.Tuple [.Name x p1, .Name y p2] kt pt] (.Tuple [ea, eb] k2 pt2) env = pure (some [x, y]) := by
  have kx : env.kindOf x = some .local := hx
  have ky : env.kindOf y = some .local := hy
  have hb : env.blockKind = .function := by unfold PySem.Env.blockKind; rw [hk]; rfl
  have hl2 : (p2.line == p1.line) = true := by rw [beq_iff_eq] at hl ⊢; exact hl.symm
  have hne : (y == x) = false := by rw [beq_eq_false_iff_ne] at hxy ⊢; exact fun e => hxy e.symm
  unfold swappedStores
  dsimp only
  have hl3 : p2.line = p1.line := by simpa using hl2
  split
  · rename_i z
    exfalso
    simp [hb] at z
  · split
    · rename_i z
      exfalso
      obtain ⟨t, ht, e⟩ := List.any_eq_true.mp z
      rcases List.mem_cons.mp ht with e1 | ht
      · subst e1
        cases t <;> first | (cases sa; done) | (cases e; done)
      · rw [List.mem_singleton] at ht
        subst ht
        cases t <;> first | (cases sb; done) | (cases e; done)
    · split
      · rename_i z
        exfalso
        rw [fm2 _ (if_some (by rw [kx]; show (true && p1.line == p1.line) = true; simp)) (if_some (by rw [ky]; show (true && p2.line == p1.line) = true; rw [hl2]; rfl))] at z
        simp [List.eraseDups_cons, hne] at z
      · split
        · rename_i z
          rw [h1] at z; cases z
        · split
          · rename_i z
            rw [h2] at z; cases z
          · rw [fm2 _ (if_some (by rw [kx]; show (true && p1.line == p1.line) = true; simp)) (if_some (by rw [ky]; show (true && p2.line == p1.line) = true; rw [hl2]; rfl))]
theorem fm3 {x y z : Str} {p1 p2 p3 : Pos} (f : Expr → Option Str) (h1 : f (.Name x p1) = some x) (h2 : f (.Name y p2) = some y) (h3 : f (.Name z p3) = some z) : [Expr.Name x p1, Expr.Name y p2, Expr.Name z p3].filterMap f = [x, y, z] := by
  rw [List.filterMap_cons, h1, List.filterMap_cons, h2, List.filterMap_cons, h3]
  rfl
theorem sw_three {x y z : Str} {ea eb ed : Expr} {kt k2 : Nat} {p1 p2 p3 pt pt2 : Pos} {env : PySem.Env} (hk : env.scope.kind = .function) (hx : env.scope.names.lookup x = some .local) (hy : env.scope.names.lookup y = some .local) (hz : env.scope.names.lookup z = some .local) (sa : notStar ea = true) (sb : notStar eb = true) (sd : notStar ed = true)
    (hxy : (x == y) = false) (hxz : (x == z) = false) (hyz : (y == z) = false) (hl : (p1.line == p2.line) = true) (hl' : (p1.line == p3.line) = true)
    (h1 : [ea, eb, ed].all (foldedForSure 8) = false) (h2 : [ea, eb, ed].all (constantsAlone 8) = false) : swappedStores [.Tuple [.Name x p1, .Name y p2, .Name z p3] kt pt] (.Tuple [ea, eb, ed] k2 pt2) env = pure (some [x, y, z]) := by
  have kx : env.kindOf x = some .local := hx
  have ky : env.kindOf y = some .local := hy
  have kz : env.kindOf z = some .local := hz
  have hb : env.blockKind = .function := by unfold PySem.Env.blockKind; rw [hk]; rfl
  have hl2 : (p2.line == p1.line) = true := by rw [beq_iff_eq] at hl ⊢; exact hl.symm
  have hl4 : (p3.line == p1.line) = true := by rw [beq_iff_eq] at hl' ⊢; exact hl'.symm
  have ne1 : (y == x) = false := by rw [beq_eq_false_iff_ne] at hxy ⊢; exact fun e => hxy e.symm
  have ne2 : (z == x) = false := by rw [beq_eq_false_iff_ne] at hxz ⊢; exact fun e => hxz e.symm
  have ne3 : (z == y) = false := by rw [beq_eq_false_iff_ne] at hyz ⊢; exact fun e => hyz e.symm
  unfold swappedStores
  dsimp only
  split
  · rename_i z
    exfalso
    simp [hb] at z
  · split
    · rename_i zz
      exfalso
      obtain ⟨t, ht, e⟩ := List.any_eq_true.mp zz
      rcases List.mem_cons.mp ht with e1 | ht
      · subst e1
        cases t <;> first | (cases sa; done) | (cases e; done)
      · rcases List.mem_cons.mp ht with e1 | ht
        · subst e1
          cases t <;> first | (cases sb; done) | (cases e; done)
        · rw [List.mem_singleton] at ht
          subst ht
          cases t <;> first | (cases sd; done) | (cases e; done)
    · split
      · rename_i zz
        exfalso
        rw [fm3 _ (if_some (by rw [kx]; show (true && p1.line == p1.line) = true; simp)) (if_some (by rw [ky]; show (true && p2.line == p1.line) = true; rw [hl2]; rfl)) (if_some (by rw [kz]; show (true && p3.line == p1.line) = true; rw [hl4]; rfl))] at zz
        simp [List.eraseDups_cons, ne1, ne2, ne3] at zz
      · split
        · rename_i zz
          rw [h1] at zz; cases zz
        · split
          · rename_i zz
            rw [h2] at zz; cases zz
          · rw [fm3 _ (if_some (by rw [kx]; show (true && p1.line == p1.line) = true; simp)) (if_some (by rw [ky]; show (true && p2.line == p1.line) = true; rw [hl2]; rfl)) (if_some (by rw [kz]; show (true && p3.line == p1.line) = true; rw [hl4]; rfl))]
theorem fm_short2 {ts : List Expr} {f : Expr → Option Str} {g : Expr → Bool} (hf : ∀ t, g t = true → f t = none) (h : ts.any g = true) : (ts.filterMap f).length < ts.length := by
  induction ts with
  | nil => cases h
  | cons t ts ih =>
    have hle : (ts.filterMap f).length ≤ ts.length := List.length_filterMap_le _ _
    rw [List.any_cons] at h
    rw [List.filterMap_cons]
    cases hn : g t with
    | true =>
      rw [hf t hn, List.length_cons]
      exact Nat.lt_succ_of_le hle
    | false =>
      rw [hn] at h
      have := ih h
      split
      · rw [List.length_cons]; omega
      · rw [List.length_cons, List.length_cons]; omega
theorem Ctx.cell (C : Ctx Dw n S X Γ W) {x : Str} (h : S.names.lookup x = some .cell) : X.env.kindOf x = some .cell := by
  rcases C.sc _ _ h with r | ⟨q, _⟩
  · exact r
  · cases q
theorem sw_tupC (C : Ctx Dw n S X Γ W) {ts es : List Expr} {k1 k2 : Nat} {p1 p2 : Pos} (h : ts.any (isCell S) = true) : swappedStores [.Tuple ts k1 p1] (.Tuple es k2 p2) X.env = pure none := by
  unfold swappedStores
  dsimp only
  split
  · rfl
  · split
    · rfl
    · split
      · rfl
      · rename_i h3
        exfalso
        simp only [Bool.or_eq_true, not_or, bne_iff_ne, ne_eq, Decidable.not_not] at h3
        have := fm_short2 (f := fun
          | .Name id pos => if X.env.kindOf id == some .local && pos.line == (ts.head?.map (·.pos.line)).getD 0 then some id else none
          | _ => none) (g := isCell S) (fun t ht => by
            cases t with
            | Name x p =>
              have e := C.cell (of_decide_eq_true ht)
              show (if (X.env.kindOf x == some .local && p.line == _) = true then some x else none) = none
              rw [e]
              exact if_neg (by simp)
            | _ => cases ht) h
        exact absurd h3.1 (Nat.ne_of_lt this)
theorem sw_soleC (C : Ctx Dw n S X Γ W) {t e : Expr} {l : Nat} (h : isCell S t = true) : swapsWithSole [t] e l X.env = pure false := by
  cases t with
  | Name x p =>
    have ek := C.cell (of_decide_eq_true h)
    have key : ∀ (sc : Scope) (v : Expr), (pure (X.env.blockKind == .function && X.env.kindOf x == some .local && p.line == v.pos.line && !(sc.names.any fun (n, k) => n == x && (k == .local || k == .cell))) : Sem Bool) = pure false := fun sc v => by
      rw [ek]
      have : (some NameKind.cell == some NameKind.local) = false := rfl
      rw [this, Bool.and_false, Bool.false_and, Bool.false_and]
    cases e with
    | ListComp a b sc d => exact key sc (.ListComp a b sc d)
    | SetComp a b sc d => exact key sc (.SetComp a b sc d)
    | DictComp a b c sc d => exact key sc (.DictComp a b c sc d)
    | _ => rfl
  | _ => cases h
end
end Eng
end

section
set_option linter.all false
set_option maxRecDepth 100000
namespace Eng
open PySem PySem.Spec PyProof.Rows
open L2 (V HO Hp VK TE TS TA TT TI TG TGs TSet PGs PSet WX XK SqL SqT Rd upd upd_same upd_ne upd_upd Key kV Mut RelV Vals Inv Cx PE PS PT PW PA PI PG PSs PTs Takes tVar tNil tCons tOp Vis Loc Gl Room OpR R2 EP Dp DpAll TruR TruV IxR CallR FnOk Sp Ends PassesAt BlkOk DPut valV SlR MtR)
section
variable {Dw : Wd} {n : Nat} {S : Sx} {X : Cx} {Γ : Gm} {W : WX} {v : Ev} {m : Mod} {Tb : List (Addr × Str)}
theorem bad_s {i : Eng.S} {st : Stmt} (h : ∀ env, stepS1 m v i env = .bad) : PS X st (tS1 v m Γ W i) := ⟨fun pins s σ H D I ⟨env, Fs, ts, r, q⟩ => by rw [h] at q; exact q.elim⟩
theorem ckg_star {k : Nat} {t : Eng.T} {e : Expr} (h : (chkc m k).g S t e = true) : notStar e = true := by
  cases k with
  | zero => cases h
  | succ k =>
    have h : ckG (chkc m k) S t e = true := h
    unfold ckG at h
    split at h <;> first | rfl | cases h
theorem assign_one {e : Expr} {env : PySem.Env} (h : notStar e = true) : (assignEach [e] env).map (·.2) = [assign e env] := by
  cases e <;> first | rfl | cases h
theorem Ctx.locl (C : Ctx Dw n S X Γ W) {x : Str} (h : S.names.lookup x = some .local) : X.env.scope.names.lookup x = some .local := by
  rcases C.sc _ _ h with r | ⟨q, _⟩
  · exact r
  · cases q
theorem locN_ok {i : Nat} {x : Str} (h : locN S i x = true) : S.loc i x = true ∧ i ∉ S.pins ∧ S.names.lookup x = some .local := by
  obtain ⟨h1, h⟩ := and_ok h
  obtain ⟨h2, h3⟩ := and_ok h
  exact ⟨h1, fun z => by simp [z] at h2, of_decide_eq_true h3⟩
theorem sub_assign {ex ek : Expr} {ps : Pos} {env : PySem.Env} (h : plainIx ek = true) : ∀ v, assign (.Subscript ex ek ps) env v = (do
      let ov ← holding [v] (eval ex env)
      let iv ← holding [v, ov] (eval ek env)
      standAt ps
      holding [v, ov, iv] (setItem ov iv v)
      release [v, ov, iv] []) := by
  intro v
  cases ek <;> first | rfl | cases h
theorem sw_sub {ex ek e : Expr} {ps : Pos} {l : Nat} {env : PySem.Env} : swapsWithSole [.Subscript ex ek ps] e l env = pure false := by
  cases e <;> rfl
theorem ckGen_ok (K : Cl Dw n m Tb v) {k : Nat} {ts : List Eng.T} {is : List E} {tgs es : List Expr} {k1 k2 : Nat} {p1 p2 pos : Pos} (hT : Γ.T = Tb) (C : Ctx Dw n S X Γ W) (h : ckGen (chkc m k) S ts is tgs es = true) : PS X (.Assign [.Tuple tgs k1 p1] (.Tuple es k2 p2) pos) (tS1 v m Γ W (.asgt ts is)) := by
  unfold ckGen at h
  obtain ⟨h0, h⟩ := and_ok h
  obtain ⟨h1, h⟩ := and_ok h
  obtain ⟨h2, h⟩ := and_ok h
  obtain ⟨h3, h⟩ := and_ok h
  obtain ⟨h4, h⟩ := and_ok h
  obtain ⟨h5, h⟩ := and_ok h
  obtain ⟨h6, h7⟩ := and_ok h
  obtain ⟨a, b, d⟩ := K.os (c := 7) hT C (by omega) h2
  obtain ⟨a2, b2, d2⟩ := ckGs_ok (ckg_ok k) C h3
  refine ns_asgt C (not_hot h0) h1 a a2 (by simpa using h4) (of_decide_eq_true h5) h6 ?_
  rcases Bool.or_eq_true_iff.mp h7 with h7 | h7
  · exact sw_tup h7
  · exact sw_tupC C h7
theorem ckS1_ok (K : Cl Dw n m Tb v) (hv : Hv Dw n m Tb v) {k : Nat} {i : Eng.S} {st : Stmt} (hT : Γ.T = Tb) (C : Ctx Dw n S X Γ W) (h : ckS1 (chkc m k) S i st = true) : PS X st (tS1 v m Γ W i) := by
  have hK : X.K = Γ.p.K := by rw [C.K, C.pK]
  unfold ckS1 at h
  split at h
  · rcases hv with e | ⟨v', e, _, _⟩
    · subst e; exact bad_s fun env => rfl
    · subst e; exact bad_s fun env => rfl
  · exact ns_pass
  · exact ns_doc
  · exact ns_brk
  · exact ns_retN
  · exact ns_ret (K.e k S X Γ W _ _ hT C h)
  · obtain ⟨h1, h2⟩ := and_ok h
    exact ns_expr (K.e k S X Γ W _ _ hT C h1) (sw_expr h2)
  · obtain ⟨h1, h⟩ := and_ok h
    obtain ⟨h2, h3⟩ := and_ok h
    exact ns_ite (K.t k S X Γ W _ _ hT C h1).1 (K.s k S X Γ W _ _ hT C h2) (K.s k S X Γ W _ _ hT C h3)
  · obtain ⟨h1, h⟩ := and_ok h
    obtain ⟨h2, h3⟩ := and_ok h
    exact ns_whl C h1 (K.t k S X Γ W _ _ hT C h2).1 (K.s k S X Γ W _ _ hT C h3)
  · obtain ⟨h0, h⟩ := and_ok h
    obtain ⟨h1, h⟩ := and_ok h
    obtain ⟨h2, h⟩ := and_ok h
    obtain ⟨h3, h⟩ := and_ok h
    obtain ⟨h4, h5⟩ := and_ok h
    exact ns_for C (not_hot h0) h1 (K.i k S X Γ W _ _ _ hT C h2) (fun H L => ckg_ok k _ _ _ W _ _ (C.at H L) h3) (fun H L => K.s k S X (Γ.at H L) W _ _ hT (C.at H L) h4) (noSet_ok h5)
  · rename_i j lv own elt t i ifs y py ee et ei eifs scope pos spos
    rcases Bool.or_eq_true_iff.mp h with h | h
    rotate_left
    · obtain ⟨h1, h⟩ := and_ok h
      obtain ⟨h2, h3⟩ := and_ok h
      exact ns_asg rfl (K.o hT C (by omega) h2) (ckg_ok k _ _ _ W _ _ C h3) (sw_soleC C h1) (sw_nt rfl) (assign_one (ckg_star h3))
    obtain ⟨h0, h⟩ := and_ok h
    obtain ⟨h1, h⟩ := and_ok h
    obtain ⟨h2, h⟩ := and_ok h
    obtain ⟨h3, h⟩ := and_ok h
    obtain ⟨h4, h⟩ := and_ok h
    obtain ⟨h5, h⟩ := and_ok h
    obtain ⟨h6, h⟩ := and_ok h
    obtain ⟨h7, h⟩ := and_ok h
    obtain ⟨h8, h⟩ := and_ok h
    obtain ⟨h9, h10⟩ := and_ok h
    obtain ⟨b1, b2, b3, b4⟩ := C.blkOk h1
    obtain ⟨l1, l2, l3⟩ := locN_ok h3
    rcases hv with e | ⟨v', e, K', _⟩
    · subst e; exact bad_s fun env => rfl
    · subst e
      have kx : X.env.kindOf y = some .local := C.locl l3
      have hb : X.env.blockKind = .function := by unfold PySem.Env.blockKind; rw [C.kind]; rfl
      refine ns_lcAsg C (not_hot h0) b2 b3 b4 (cells_ok h2) l1 l2 (C.locl l3) ?_ b1 (K'.i k S X Γ W _ _ _ hT C h6)
        (fun s H A cl fp H1 L => ckg_ok k _ _ _ _ _ _ (C.blk h1 s H A cl fp H1 L) h7)
        (fun s H A cl fp H1 L => ifs_cl (Γ := Γ.at H1 L) K' hT (C.blk h1 s H A cl fp H1 L) h8)
        (fun s H A cl fp H1 L => K'.e k _ _ (Γ.at H1 L) _ _ _ hT (C.blk h1 s H A cl fp H1 L) h9) (noSet_ok h10)
      show (pure (X.env.blockKind == .function && X.env.kindOf y == some .local && py.line == pos.line && !(scope.names.any fun (n, k) => n == y && (k == .local || k == .cell))) : Sem Bool) = pure true
      rw [hb, kx, h4]
      have h5 : (!(scope.names.any fun (n, k) => n == y && (k == .local || k == .cell))) = true := h5
      rw [h5]
      rfl
  · rename_i hx
    obtain ⟨h1, h⟩ := and_ok h
    obtain ⟨h2, h⟩ := and_ok h
    obtain ⟨h3, h⟩ := and_ok h
    obtain ⟨h4, h5⟩ := and_ok h
    refine ns_asg (by simpa using h1) (K.o hT C (by omega) h2) (ckg_ok k _ _ _ W _ _ C h3) ?_ (sw_nt h5) (assign_one (ckg_star h3))
    rcases Bool.or_eq_true_iff.mp h4 with h4 | h4
    · exact sw_sole h4
    · exact sw_soleC C h4
  · rcases Bool.or_eq_true_iff.mp h with h | h
    rotate_left
    · exact ckGen_ok K hT C h
    obtain ⟨h0, h⟩ := and_ok h
    obtain ⟨h1, h⟩ := and_ok h
    obtain ⟨h2, h⟩ := and_ok h
    obtain ⟨h3, h⟩ := and_ok h
    obtain ⟨h4, h⟩ := and_ok h
    obtain ⟨h5, h⟩ := and_ok h
    obtain ⟨h6, h⟩ := and_ok h
    obtain ⟨h7, h⟩ := and_ok h
    obtain ⟨h8, h⟩ := and_ok h
    obtain ⟨h9, h⟩ := and_ok h
    obtain ⟨h10, h⟩ := and_ok h
    obtain ⟨h11, h⟩ := and_ok h
    obtain ⟨h12, h13⟩ := and_ok h
    obtain ⟨l1, l2, l3⟩ := locN_ok h7
    obtain ⟨r1, r2, r3⟩ := locN_ok h8
    exact ns_par C (not_hot h0) (by simpa using h1) (by simpa using h2) (K.o hT C (by omega) h3) (K.o hT C (by omega) h4) h5 h6 l1 r1 (by simpa using h9) l2 r2 (C.locl l3) (C.locl r3)
      (sw_two C.kind (C.locl l3) (C.locl r3) h5 h6 (not_hot h10) h11 (not_hot h12) (not_hot h13))
  · rcases Bool.or_eq_true_iff.mp h with h | h
    rotate_left
    · exact ckGen_ok K hT C h
    obtain ⟨h0, h⟩ := and_ok h
    obtain ⟨h1, h⟩ := and_ok h
    obtain ⟨h2, h⟩ := and_ok h
    obtain ⟨h3, h⟩ := and_ok h
    obtain ⟨h4, h⟩ := and_ok h
    obtain ⟨h5, h⟩ := and_ok h
    obtain ⟨h6, h⟩ := and_ok h
    obtain ⟨h7, h⟩ := and_ok h
    obtain ⟨h8, h⟩ := and_ok h
    obtain ⟨h9, h⟩ := and_ok h
    obtain ⟨h10, h⟩ := and_ok h
    obtain ⟨h11, h⟩ := and_ok h
    obtain ⟨h12, h⟩ := and_ok h
    obtain ⟨h13, h⟩ := and_ok h
    obtain ⟨h14, h⟩ := and_ok h
    obtain ⟨h15, h⟩ := and_ok h
    obtain ⟨h16, h⟩ := and_ok h
    obtain ⟨h17, h⟩ := and_ok h
    obtain ⟨h18, h⟩ := and_ok h
    obtain ⟨h19, h⟩ := and_ok h
    obtain ⟨h20, h⟩ := and_ok h
    obtain ⟨h21, h22⟩ := and_ok h
    obtain ⟨l1, l2, l3⟩ := locN_ok h10
    obtain ⟨r1, r2, r3⟩ := locN_ok h11
    obtain ⟨t1, t2, t3⟩ := locN_ok h12
    exact ns_par3 C (not_hot h0) (by simpa using h1) (by simpa using h2) (by simpa using h3) (K.o hT C (by omega) h4) (K.o hT C (by omega) h5) (K.o hT C (by omega) h6) h7 h8 h9 l1 r1 t1 (by simpa using h13) (by simpa using h14) (by simpa using h15) l2 r2 t2 (C.locl l3) (C.locl r3) (C.locl t3)
      (sw_three C.kind (C.locl l3) (C.locl r3) (C.locl t3) h7 h8 h9 (not_hot h16) (not_hot h17) (not_hot h18) h19 h20 (not_hot h21) (not_hot h22))
  · exact ckGen_ok K hT C h
  · obtain ⟨h1, h⟩ := and_ok h
    obtain ⟨h2, h⟩ := and_ok h
    obtain ⟨h3, h⟩ := and_ok h
    obtain ⟨h4, h5⟩ := and_ok h
    exact ns_seti C (by simpa using h1) (C.slot h2) (K.o hT C (by omega) h3) (K.o hT C (by omega) h4) (sub_assign h5) rfl sw_sub (sw_nt (by rfl))
  · obtain ⟨h0, h⟩ := and_ok h
    obtain ⟨h1, h⟩ := and_ok h
    obtain ⟨h2, h⟩ := and_ok h
    obtain ⟨h3, h⟩ := and_ok h
    obtain ⟨h4, h5⟩ := and_ok h
    have e1 := of_decide_eq_true h0
    subst e1
    exact ns_appN C (by simpa using h1) h2 (K.o hT C (by omega) h3) h4 h5
  · obtain ⟨h0, h⟩ := and_ok h
    obtain ⟨h2, h⟩ := and_ok h
    obtain ⟨h3, h⟩ := and_ok h
    obtain ⟨h4, h⟩ := and_ok h
    obtain ⟨h5, h⟩ := and_ok h
    obtain ⟨h6, h7⟩ := and_ok h
    exact ns_setp C (by simpa using h0) h2 (ckp_ok k S X Γ W _ _ C h3) h4 (K.o hT C (by omega) h5) (fun H L => ckp_ok k S X _ W _ _ (C.at H L) h6) h7 sw_sub (sw_nt (by rfl))
  · obtain ⟨h0, h⟩ := and_ok h
    obtain ⟨h1, h⟩ := and_ok h
    obtain ⟨h2, h⟩ := and_ok h
    obtain ⟨h3, h⟩ := and_ok h
    obtain ⟨h4, h⟩ := and_ok h
    obtain ⟨h5, h6⟩ := and_ok h
    have e0 := of_decide_eq_true h0
    subst e0
    exact ns_app1 C h1 (ckp_ok k S X Γ W _ _ C h2) h3 (ckps_ok C h4) (of_decide_eq_true h5) h6
  · obtain ⟨h0, h⟩ := and_ok h
    obtain ⟨h1, h⟩ := and_ok h
    obtain ⟨h2, h⟩ := and_ok h
    obtain ⟨h3, h⟩ := and_ok h
    obtain ⟨h4, h⟩ := and_ok h
    obtain ⟨h5, h6⟩ := and_ok h
    have e0 := of_decide_eq_true h0
    subst e0
    exact ns_upd C (not_hot h1) (by simpa using h2) h3 (K.o hT C (by omega) h4) h5 h6
  · obtain ⟨h0, h⟩ := and_ok h
    obtain ⟨h1, h⟩ := and_ok h
    obtain ⟨h2, h⟩ := and_ok h
    obtain ⟨h3, h4⟩ := and_ok h
    rcases hv with e | ⟨v', e, K', e2 | ⟨kk, hn, _⟩⟩
    · exact bad_s fun env => by subst e; rfl
    · exact bad_s fun env => by subst e; subst e2; rfl
    · subst e
      exact ns_raisP C (not_hot h0) (by omega) h1 h2 (K'.e k S X Γ W _ _ hT C h3) h4
  · obtain ⟨h0, h⟩ := and_ok h
    obtain ⟨h1, h2⟩ := and_ok h
    obtain ⟨g1, g2⟩ := and_ok h1
    obtain ⟨g3, g4⟩ := C.glob g1
    obtain ⟨c1, c2⟩ := C.g.cls _ _ (of_decide_eq_true g2)
    obtain ⟨B, newId, initId, bmB, q, F, r1, r2⟩ := C.g.exc _ h2
    refine ns_rais C (not_hot h0) ?_
    rw [C.pca]
    exact L2N.pmk_own F (by rw [C.K]; exact q) (by rw [C.mg]; exact c1) (by rw [C.K]; exact c2) (L2.raises_own (by rw [C.K]; exact r1) (by rw [C.K]; exact r2)) g3 g4
  · cases h
theorem ckSs_ok (K : Cl Dw n m Tb v) (hv : Hv Dw n m Tb v) {k : Nat} (hT : Γ.T = Tb) (C : Ctx Dw n S X Γ W) : ∀ {is : List Eng.S} {l : List Stmt}, ckSs (chkc m k) S is l = true → PSs X l (tS (step m v) Γ W is) := by
  intro is l h
  induction is generalizing l with
  | nil =>
    cases l with
    | nil => exact ns_nil
    | cons _ _ => cases h
  | cons i is ih =>
    unfold ckSs at h
    split at h
    · rename_i heq
      cases heq
      refine ⟨fun pins s σ H D I ⟨env, Fs, ts, r, q⟩ => ?_⟩
      have q : PF Γ W ts D (match stepS1 m v _ env with | .nx env1 => stepS m v _ env1 | r => r) := q
      have e : ∀ j, stepS1 m v (.expr (.bor j)) env = .bad := fun j => by
        rcases hv with e | ⟨v', e, _, _⟩
        · subst e; rfl
        · subst e; rfl
      rw [e] at q
      exact q.elim
    · rename_i e1; cases e1
    · rename_i e1
      cases e1
      obtain ⟨h1, h2⟩ := and_ok h
      exact ns_cons (ckS1_ok K hv hT C h1) (ih h2)
    · cases h
end
end Eng
end

section
set_option linter.all false
set_option maxRecDepth 100000
namespace Eng
open PySem PySem.Spec PyProof.Rows
open L2 (V HO Hp VK TE TS TA TT TI TG TGs TSet PGs PSet WX XK SqL SqT Rd upd upd_same upd_ne upd_upd Key kV Mut RelV Vals Inv Cx PE PS PT PW PA PI PG PSs PTs Takes tVar tNil tCons tOp Vis Loc Gl Room OpR R2 EP Dp DpAll TruR TruV IxR CallR FnOk Sp Ends PassesAt BlkOk DPut valV SlR MtR FnScope cxOf start)
section
variable {Dw : Wd} {n : Nat} {S : Sx} {X : Cx} {Γ : Gm} {W : WX} {v : Ev} {m : Mod} {Tb : List (Addr × Str)}
theorem FnsOk.mono {k : Nat} (F : FnsOk Dw m v Tb n) (h : n ≤ k) : FnsOk Dw m v Tb k := ⟨fun j f hf hj => by
  obtain ⟨fd, ps, F, hb, hk⟩ := F.fn j f hf hj
  exact ⟨fd, ps, F.mono h, hb, hk⟩, F.tak⟩
theorem cl_bad : Cl Dw n m Tb badEv where
  e := fun k S X Γ W i e hT C h => bad_e fun env => rfl
  t := fun k S X Γ W i e hT C h => by
    cases k with
    | zero => cases h
    | succ k =>
      have h : ckT (chkc m k) S i e = true := h
      unfold ckT at h
      split at h
      · rename_i j hp
        split at h
        · exact ⟨nt_pl C hp h, fun z => by rw [hp] at z; cases z⟩
        · cases h
      · rename_i hp
        have hb : ∀ env, tstR badEv i env = .bad := fun env => by rw [tst_none hp]; rfl
        exact ⟨⟨fun pins s σ H Q I ⟨env, Fs, ts, r, q⟩ => by rw [hb] at q; exact q.elim⟩, fun _ op a b r p _ => ⟨fun wh pins s σ H Q I ⟨env, Fs, ts, r, q⟩ => by rw [hb] at q; exact q.elim⟩⟩
  i := fun k S X Γ W t i e hT C h => ⟨fun pins s σ H R I ⟨env, Fs, ts, r, q⟩ => q.elim⟩
  s := fun k S X Γ W is l hT C h => ⟨fun pins s σ H D I ⟨env, Fs, ts, r, q⟩ => q.elim⟩
theorem cl_step (K : Cl Dw n m Tb v) (hv : Hv Dw n m Tb v) (F : FnsOk Dw m v Tb n) : Cl Dw n m Tb (step m v) := by
  have he : ∀ (k : Nat) (S : Sx) (X : Cx) (Γ : Gm) (W : WX) (i : E) (e : Expr), Γ.T = Tb → Ctx Dw n S X Γ W → (chkc m k).e S i e = true → PE X e (tE (step m v) Γ W i) := by
    intro k S X Γ W i e hT C h
    cases k with
    | zero => cases h
    | succ k => exact ckE_ok K hv F hT C h
  refine ⟨he, fun k S X Γ W i e hT C h => ?_, fun k S X Γ W t i e hT C h => ckI_ok K hT C h, fun k S X Γ W is l hT C h => ?_⟩
  · cases k with
    | zero => cases h
    | succ k => exact ckT_ok K hT C (fun i e h => he k S X Γ W i e hT C h) h
  · cases k with
    | zero => cases h
    | succ k => exact ckSs_ok K hv hT C h
theorem cl_all {f : Nat} (hF : ∀ g, g < f → FnsOk Dw m (evc m g) Tb g) : ∀ g, g ≤ f → ∀ n, g ≤ n + 1 → Cl Dw n m Tb (evc m g) := by
  intro g
  induction g using Nat.strongRecOn with
  | _ g ih =>
    intro hg n hn
    cases g with
    | zero => exact cl_bad
    | succ g =>
      refine cl_step (ih g (by omega) (by omega) n (by omega)) ?_ ((hF g (by omega)).mono (by omega))
      cases g with
      | zero => exact .inl rfl
      | succ g =>
        refine .inr ⟨evc m g, rfl, ih g (by omega) (by omega) n (by omega), ?_⟩
        cases g with
        | zero => exact .inl rfl
        | succ g =>
          obtain ⟨kk, e⟩ : ∃ kk, n = kk + 2 := ⟨n - 2, by omega⟩
          exact .inr ⟨kk, e, ih (g + 1) (by omega) (by omega) kk (by omega)⟩
/-! ### a def's body -/
theorem pss_lk {X : Cx} {e : List Stmt} {t : TS} (h : PSs X e t) : PSs X e (fun D σ H => Lk (fun H' => t D σ H') H) := ⟨fun pins s σ H D I k => by
  obtain ⟨H', I', q⟩ := k.inv I
  exact h.run pins s σ H' D I' q⟩
/-- the arguments get their slots -/
def fillS (io : List Nat) : Env → Nat → List (D × Nat) → Env
  | env, _, [] => env
  | env, j, (d, n) :: ds => fillS io (setS env j (some (d, if io.contains j then n else capN n 0))) (j + 1) ds
theorem SR.fill {io : List Nat} {ts : List Tmp} {σ : L2.St} {Q : Hp → Prop} : ∀ (tl : List Tmp) (j : Nat) {H : Hp} {env : Env} {Fs : Nat → List Addr}, SR Γ H env σ Fs (tl ++ ts) → (∀ (k : Nat) (t : Tmp), tl[k]? = some t → σ[j + k]? = some (some t.v)) →
    (∀ H' Fs', SR Γ H' (fillS io env j (tl.map fun t => (t.d, t.n))) σ Fs' ts → Q H') → Lk Q H
  | [], j, H, env, Fs, s, hσ, h => .done (h H Fs s)
  | t :: tl, j, H, env, Fs, s, hσ, h => by
    have hj : σ[j]? = some (some t.v) := by have := hσ 0 t rfl; simpa using this
    have hσ' : ∀ (k : Nat) (u : Tmp), tl[k]? = some u → σ[j + 1 + k]? = some (some u.v) := fun k u e => by
      have := hσ (k + 1) u (by simpa using e)
      rw [show j + (k + 1) = j + 1 + k by omega] at this
      exact this
    have hi := (List.getElem?_eq_some_iff.mp hj).1
    cases hc : io.contains j with
    | true =>
      have s1 := SR.back (t := t) s (i := j) hi hj
      exact SR.fill tl (j + 1) s1 hσ' fun H' Fs' s' => h H' Fs' (by
        show SR Γ H' (fillS io (setS env j (some (t.d, if io.contains j then t.n else capN t.n 0))) (j + 1) _) σ Fs' ts
        rw [hc]; exact s')
    | false =>
      obtain ⟨L, nd, mu, _, r⟩ := SR.cap (t := t) s 0 (by omega)
      refine .frz L nd mu fun ob => ?_
      obtain ⟨G, _, _, s0⟩ := r ob
      have s1 := SR.back (t := ⟨t.d, capN t.n 0, t.v, G⟩) s0 (i := j) hi hj
      exact SR.fill tl (j + 1) s1 hσ' fun H' Fs' s' => h H' Fs' (by
        show SR Γ H' (fillS io (setS env j (some (t.d, if io.contains j then t.n else capN t.n 0))) (j + 1) _) σ Fs' ts
        rw [hc]; exact s')
theorem setS_mid {a b : Env} {x y : Option (D × Nat)} : setS (a ++ x :: b) a.length y = a ++ y :: b := by
  unfold setS
  rw [List.set_append_right _ _ (Nat.le_refl _)]
  simp
theorem fill_par (f : Fn) (k : Nat) : ∀ (ds : List (D × Nat)) (pre : Env) (j : Nat), pre.length = j → fillS f.inout (pre ++ List.replicate (ds.length + k) none) j ds = pre ++ (parS f j ds ++ List.replicate k none)
  | [], pre, j, h => by simp [fillS, parS]
  | (d, n) :: ds, pre, j, h => by
    have e : List.replicate (((d, n) :: ds).length + k) (none : Option (D × Nat)) = none :: List.replicate (ds.length + k) none := by
      rw [show ((d, n) :: ds).length + k = (ds.length + k) + 1 by simp; omega, List.replicate_succ]
    show fillS f.inout (setS (pre ++ List.replicate (((d, n) :: ds).length + k) none) j _) (j + 1) ds = _
    rw [e]
    subst h
    rw [setS_mid]
    have := fill_par f k ds (pre ++ [some (d, if f.inout.contains pre.length then n else capN n 0)]) (pre.length + 1) (by simp)
    rw [List.append_assoc] at this
    rw [show pre ++ some (d, if f.inout.contains pre.length then n else capN n 0) :: List.replicate (ds.length + k) none = pre ++ ([some (d, if f.inout.contains pre.length then n else capN n 0)] ++ List.replicate (ds.length + k) none) from rfl, this, List.append_assoc]
    rfl
/-- what is known of a def's text -/
structure DefOk (Dw : Wd) (m : Mod) (g : Gs) (Tb : List (Addr × Str)) (k : Nat) (f : Fn) : Prop where
  ex : ∃ (x qual : Str) (params : Arguments) (body : List Stmt) (scope : Scope) (dvs : List V) (kws : List (Str × V)) (fd : FuncData) (N ps : List Str) (c : Nat) (lm : Bool),
    L2.FunD Dw.K x qual params body scope dvs kws (Dw.fa k) fd ∧ FnScope N ps scope ∧ L2.Binds Dw.K fd ps [] ∧ ps.length = f.npar ∧ N.length = f.nslots ∧ f.npar ≤ f.nslots ∧
    (chkc m c).s { g := g, N := N, names := scope.names, hot := false, plain := true, pins := f.inout, stm := true, exc := false, lam := lm } f.body body = true ∧
    (lm = true → ∃ cc P, fd.code = .ref cc ∧ LamX.TabB Dw.base Dw.mg cc P ∧ (P, qual ++ ".<locals>." ++ "<lambda>") ∈ Tb ∧ ∀ p ∈ Tb, p.1 = P → p.2 = qual ++ ".<locals>." ++ "<lambda>")
theorem getS_none {n i : Nat} : getS (List.replicate n none) i = none := by
  unfold getS
  rw [List.getElem?_replicate]
  split <;> rfl
theorem flat_pw : ∀ {as : List Tmp}, (as.flatMap (·.F)).Nodup → as.Pairwise fun s t => ∀ b, b ∈ s.F → b ∉ t.F
  | [], _ => .nil
  | t :: as, h => by
    have h := List.nodup_append.mp (show (t.F ++ as.flatMap (·.F)).Nodup from h)
    exact List.pairwise_cons.mpr ⟨fun u hu b hb hb' => h.2.2 b hb b (List.mem_flatMap.mpr ⟨u, hu, hb'⟩) rfl, flat_pw h.2.1⟩
theorem flat_nd : ∀ {as : List Tmp}, (as.flatMap (·.F)).Nodup → ∀ t ∈ as, t.F.Nodup
  | t :: as, h, u, hu => by
    have h := List.nodup_append.mp (show (t.F ++ as.flatMap (·.F)).Nodup from h)
    rcases List.mem_cons.mp hu with e | hu
    · subst e; exact h.1
    · exact flat_nd h.2.1 u hu
/-- the state at a def's entry -/
theorem sr_start {p : Par} {T : List (Addr × Str)} {H : Hp} {as : List Tmp} {io : List Nat} {N : List Str} (own : ∀ t ∈ as, Own p H t.n t.d t.v t.F) (nd : (as.flatMap (·.F)).Nodup) (tabs : LamX.Tabs T H) (hl : as.length ≤ N.length) :
    SR (gmOf p T H as io) H (List.replicate N.length none) (L2.start N (as.map (·.v))) (fun _ => []) as := by
  have hs : (L2.start N (as.map (·.v))).length = N.length := by
    unfold L2.start
    simp
    omega
  refine ⟨by rw [List.length_replicate, hs], fun i d n e => (by rw [getS_none] at e; cases e), fun i _ => rfl, own, fun i => .nil, flat_nd nd, (fun i j b h => by cases h), flat_pw nd, (fun i t ht b hb h => by cases h), (fun i b h => by cases h), fun t ht b hb => .inl (List.mem_flatMap.mpr ⟨t, ht, hb⟩), fun b o e n z => e, tabs, fun b ps e => ⟨ps, e⟩, fun q hq => ?_⟩
  obtain ⟨i, hi, e⟩ := List.mem_filterMap.mp hq
  obtain ⟨w, e1, e2⟩ := Option.map_eq_some_iff.mp e
  subst e2
  show (L2.start N (as.map (·.v)))[i]? = some (some w)
  unfold L2.start
  rw [List.getElem?_append_left (by have := (List.getElem?_eq_some_iff.mp e1).1; simpa using this), List.getElem?_map, e1]
  rfl
end
end Eng
end

section
set_option linter.all false
set_option maxRecDepth 100000
namespace Eng
open PySem PySem.Spec PyProof.Rows
open L2 (V HO Hp VK TE TS TA TT TI TG TGs TSet PGs PSet WX XK SqL SqT Rd upd upd_same upd_ne upd_upd Key kV Mut RelV Vals Inv Cx PE PS PT PW PA PI PG PSs PTs Takes tVar tNil tCons tOp Vis Loc Gl Room OpR R2 EP Dp DpAll TruR TruV IxR CallR FnOk Sp Ends PassesAt BlkOk DPut valV SlR MtR FnScope cxOf)
section
variable {Dw : Wd} {n : Nat} {S : Sx} {X : Cx} {Γ : Gm} {W : WX} {v : Ev} {m : Mod} {Tb : List (Addr × Str)}
theorem def_at {g : Gs} (G : GlobOk Dw g) {f : Nat} (hF : ∀ j, j < f → FnsOk Dw m (evc m j) Tb j) {k : Nat} {fn : Fn} (hf : m.fns[k]? = some fn) {x qual : Str} {params : Arguments} {body : List Stmt} {scope : Scope} {dvs : List V} {kws : List (Str × V)} {fd : FuncData} {N ps : List Str} {c : Nat} {lm : Bool}
    (F : L2.FunD Dw.K x qual params body scope dvs kws (Dw.fa k) fd) (Sc : FnScope N ps scope) (hps : ps.length = fn.npar) (hN : N.length = fn.nslots) (hle : fn.npar ≤ fn.nslots)
    (ck : (chkc m c).s { g := g, N := N, names := scope.names, hot := false, plain := true, pins := fn.inout, stm := true, exc := false, lam := lm } fn.body body = true)
    (hlm : lm = true → ∃ cc P, fd.code = .ref cc ∧ LamX.TabB Dw.base Dw.mg cc P ∧ (P, qual ++ ".<locals>." ++ "<lambda>") ∈ Tb ∧ ∀ p ∈ Tb, p.1 = P → p.2 = qual ++ ".<locals>." ++ "<lambda>") : FnOk Dw.P Dw.w Dw.K Dw.mg Dw.base (L2N.CX Dw.P Dw.w) (f + 1) (Dw.fa k) fd ps (spSim (evc m (f + 1)) Dw.p0 Tb k fn) := by
  obtain ⟨oc, od, dV, kV, doc, pm, an, cdv, ct, osl, efd, lk, hcd, _, _⟩ := F.ex
  subst efd
  refine L2.fn_of lk hcd Sc (fun vs H Q E ⟨as, e1, e2, _⟩ => by rw [← e1, List.length_map, e2, hps]) ?_
  rintro A outer s H vs Q E hr ⟨as, e1, hl, own, nd, tabs, rc⟩
  subst e1
  have C : Ctx Dw f { g := g, N := N, names := scope.names, hot := false, plain := true, pins := fn.inout, stm := true, exc := false, lam := lm } (cxOf (L2N.CX Dw.P Dw.w) Dw.P Dw.w Dw.K Dw.mg Dw.base N qual scope (Dw.fa k) cdv A outer s H E) (gmOf Dw.p0 Tb H as fn.inout) (fun cls d _ H => E cls d H) := by
    refine ⟨rfl, rfl, rfl, rfl, rfl, rfl, rfl, rfl, G, rfl, Sc.kind, Sc.nd, fun x k e => .inl e, fun _ _ => rfl, L2N.takes_of rfl rfl rfl rfl, fun _ => L2.passes_of (K := fun e s'' => L2N.CX Dw.P Dw.w outer H s E e s'') rfl, fun _ => rfl, fun q hq => ?_, ?_, fun _ => rfl, fun _ => hr, (fun z => by cases z), fun z => ?_⟩
    · obtain ⟨i, hi, e⟩ := List.mem_filterMap.mp hq
      obtain ⟨w, e1, e2⟩ := Option.map_eq_some_iff.mp e
      subst e2
      exact hi
    · have := hr.un
      show (A.deeper _).units + 70 < cLine
      omega
    · obtain ⟨cc, P, h1, h2, h3, h4⟩ := hlm z
      exact ⟨cc, P, h1, h2, h3, h4⟩
  have K := cl_all (f := f) (fun g hg => hF g hg) f (Nat.le_refl _) f (by omega)
  refine ⟨_, pss_lk (K.s c _ _ _ _ _ _ rfl C ck), ?_⟩
  have e0 : fillS fn.inout (List.replicate N.length none) 0 (as.map fun t => (t.d, t.n)) = parS fn 0 (as.map fun t => (t.d, t.n)) ++ List.replicate (fn.nslots - fn.npar) none := by
    have := fill_par fn (fn.nslots - fn.npar) (as.map fun t => (t.d, t.n)) [] 0 rfl
    rw [List.nil_append, List.nil_append, List.length_map, hl, show fn.npar + (fn.nslots - fn.npar) = N.length by omega] at this
    exact this
  refine SR.fill (io := fn.inout) (ts := []) (σ := L2.start N (as.map (·.v))) as 0 (by rw [List.append_nil]; exact sr_start own nd tabs (by omega)) (fun j t e => ?_) fun H' Fs' s' => ⟨_, Fs', [], s', ?_⟩
  · rw [Nat.zero_add]
    unfold L2.start
    rw [List.getElem?_append_left (by have := (List.getElem?_eq_some_iff.mp e).1; simpa using this), List.getElem?_map, List.getElem?_map, e]
    rfl
  · rw [e0]
    have rc : RCP Dw.p0 Tb H as fn.inout Q E (stepC m (evc m f) k (as.map fun t => (t.d, t.n))) := rc
    unfold stepC at rc
    rw [hf] at rc
    dsimp only at rc
    rw [if_neg (by rw [List.length_map, hl]; simp)] at rc
    cases hr2 : (evc m f).s fn.body (parS fn 0 (as.map fun t => (t.d, t.n)) ++ List.replicate (fn.nslots - fn.npar) none) with
    | nx env =>
      rw [hr2] at rc
      exact fun σ H2 Fs2 s2 => rc .non H2 [] env σ Fs2 (s2.pushR ⟨rfl, rfl, fun _ => rfl⟩) rfl
    | rt d k2 env => rw [hr2] at rc; exact fun u σ H2 F2 Fs2 s2 => rc u H2 F2 env σ Fs2 s2 rfl
    | bk env => rw [hr2] at rc; exact rc.elim
    | ex k2 a env => rw [hr2] at rc; exact fun cls dd σ H2 Fs2 s2 x => rc cls dd H2 env σ Fs2 s2 x
    | bad => rw [hr2] at rc; exact rc.elim
theorem def_ok {g : Gs} (G : GlobOk Dw g) {f : Nat} (hF : ∀ j, j < f → FnsOk Dw m (evc m j) Tb j) {k : Nat} {fn : Fn} (hf : m.fns[k]? = some fn) (D : DefOk Dw m g Tb k fn) : ∃ fd ps, FnOk Dw.P Dw.w Dw.K Dw.mg Dw.base (L2N.CX Dw.P Dw.w) (f + 1) (Dw.fa k) fd ps (spSim (evc m (f + 1)) Dw.p0 Tb k fn) ∧ L2.Binds Dw.K fd ps [] ∧ PySem.W.keepIn Dw.K (.ref (Dw.fa k)) = true := by
  obtain ⟨x, qual, params, body, scope, dvs, kws, fd, N, ps, c, lm, F, Sc, hb, hps, hN, hle, ck, hlm⟩ := D.ex
  exact ⟨fd, ps, def_at G hF hf F Sc hps hN hle ck hlm, hb, F.kp⟩
end
end Eng
end

section
set_option linter.all false
set_option maxRecDepth 100000
set_option maxHeartbeats 1000000
namespace Eng
open PySem PySem.Spec PyProof.Rows LamX
open L2 (V HO Hp VK TE TS TA TT TI TG TGs TSet PGs PSet WX XK SqL SqT Rd upd upd_same upd_ne upd_upd Key kV Mut RelV Vals Inv Cx PE PS PT PW PA PI PG PSs PTs tVar tNil tCons tOp Vis Loc Gl Room OpR R2 EP Dp DpAll TruR TruV IxR CallR FnOk Sp Ends PassesAt BlkOk DPut valV SlR MtR FnScope cxOf)
section
variable {Dw : Wd} {n : Nat} {S : Sx} {X : Cx} {Γ : Gm} {W : WX} {v : Ev} {m : Mod} {Tb : List (Addr × Str)}
/-- what is known of the text of the def that tells the class of a call's exception -/
structure TakDef (Dw : Wd) (m : Mod) (k : Nat) : Prop where
  ex : ∃ (g : Gs) (x a en cn : Str) (pg : Arguments) (b0 : Stmt) (st : List Stmt) (sg : Scope) (fd : FuncData) (Ng : List Str) (c j : Nat) (p1 p2 p3 p4 p5 p6 p7 p8 : Pos),
    GlobOk Dw g ∧ m.ncls ≤ g.cnames.length ∧ m.cE < g.cnames.length ∧ ((List.range m.ncls).all fun c => !m.sub c m.cE || g.subs.contains (c, m.cE)) = true ∧
    L2.FunD Dw.K x x pg [.Try [.Expr (.Call (.Name a p1) [] [] p2) p3] [.ExceptHandler (some (.Name cn p4)) (some en) (b0 :: st) p5] [] [] p6, .Return (some (.Constant (.str (Str.ofString "")) j p7)) p8] sg [] [] (Dw.fa k) fd ∧
    L2.Binds Dw.K fd [a] [] ∧ FnScope Ng [a] sg ∧ Ng[0]? = some a ∧ Ng[1]? = some en ∧ Ng.length = m.nsu ∧ Vis sg a ∧ nmOk a = true ∧ sg.names.lookup en = some .local ∧ sg.names.lookup cn = some .globalImplicit ∧ (cn == ("__debug__" : Str)) = false ∧ Dw.mg cn = some (.ref (Dw.ca m.cE)) ∧
    (chkc m c).s { g := g, N := Ng, names := sg.names, hot := true, plain := false, pins := [], stm := false, exc := true, lam := false } m.suite (b0 :: st) = true
theorem kp_of2 {Γ' : Gm} {H' : Hp} {env' : Env} {σ' : L2.St} {Fs' : Nat → List Addr} {ts' : List Tmp} (h : Γ'.L0 = []) (s : SR Γ' H' env' σ' Fs' ts') : Kp Γ'.T Γ'.H0 H' := ⟨fun b o e n => s.keep b o e (by rw [h]; simp) n, s.tabs, s.tbk⟩
theorem takesNoN {X : Cx} : L2N.Takes X (fun _ _ _ _ => False) := fun _ _ x => by
  obtain ⟨_, _, _, _, _, _, _, _, _, _, _, _, _, _, _, _, z⟩ := x
  exact z.elim
/-- what is known of the exception's field -/
def xhOf : Option D → Option Addr → List (Addr × HO)
  | some (.int i), some dx => [(dx, .xd [("limit", .int i)])]
  | _, _ => []
theorem xhOf_ok {pay : Option D} {d : Option Addr} : ∀ q ∈ xhOf pay d, ¬ Mut (some q.2) ∧ ∀ ps, q.2 ≠ .tbl ps := fun q h => by
  unfold xhOf at h
  split at h
  · rw [List.mem_singleton.mp h]
    exact ⟨fun z => z, fun ps z => by cases z⟩
  · cases h
/-- values within the suite that holds the exception a -/
def parX (p : Par) (a : Addr) (c : Nat) (pay : Option D) (d : Option Addr) : Par :=
  { K := p.K, fa := p.fa, ca := p.ca, C := p.C, X := fun a' c' x' => a' = a ∧ c' = c ∧ x' = pay, XH := xhOf pay d, xh := xhOf_ok }
theorem tak_ok (K : Cl Dw n m Tb v) {k : Nat} (D : TakDef Dw m k) : TakOk Dw m v Tb k := by
  obtain ⟨g, x, a, en, cn, pg, b0, st, sg, fd, Ng, c, j, p1, p2, p3, p4, p5, p6, p7, p8, G, hn1, hn2, hsub, F, hb, Sg, hN0, hN1, hNl, hva, hnm, hen, hcn, hcd2, hcm, ck⟩ := D.ex
  obtain ⟨oc, od, dV, kV, doc, pm, an, cdv, ct, osl, efd, lk, hcd, _, _⟩ := F.ex
  subst efd
  refine ⟨x, a, pg, _, sg, dV, kV, doc, pm, cdv, ct, oc, an, od, osl, Ng, lk, hcd, hb, Sg, hN0, hva, hnm, ?_⟩
  intro X q eP ew eK em eb f c' s H Q tl act rm hc h
  have hgl : Gl (cxOf C8.CX0 X.prog X.w X.K X.mg X.base Ng x sg (Dw.fa k) cdv X.A X.stack s H C8.E0).nox cn := hcn
  -- the suite
  have suite : ∀ (ax : Addr) (oe : Obj) (cls : Value) (d : Option Addr) (pn : List (Addr × Obj)), L2N.Zn cls d oe → (∃ vs, oe.data = .fields vs) →
      PSs ((cxOf C8.CX0 X.prog X.w X.K X.mg X.base Ng x sg (Dw.fa k) cdv X.A X.stack s H C8.E0).nox.suite ax ((ax, oe) :: pn)) (b0 :: st) (fun D σ H1 => ∃ (cc : Nat) (pay : Option Eng.D) (σ0 : L2.St), ExR Dw.p0 cc pay cls d H1 ∧ Tabs Tb H1 ∧ cc < m.ncls ∧ σ = σ0.set 1 (some (.ref ax)) ∧
        ∃ w env kk, v.s m.suite (none :: some (.exc cc pay, 9) :: List.replicate (m.nsu - 2) none) = .rt (.str w) kk env ∧ ∀ H2, Kp Tb H1 H2 → D.rt (.str w) H2) := by
    intro ax oe cls d pn hz hf
    refine ⟨fun pins s1 σ H1 D I ⟨cc, pay, σ0, ⟨ec, ep, en0⟩, tb, hcc, eσ, w, env, kk, ev, fin⟩ => ?_⟩
    subst ec
    have hlen : σ.length = Ng.length := I.len
    generalize hΓ : ({ p := parX Dw.p0 ax cc pay d, T := Tb, H0 := H1, L0 := [], pin := [] } : Gm) = Γs
    have C : Ctx Dw n { g := g, N := Ng, names := sg.names, hot := true, plain := false, pins := [], stm := false, exc := true, lam := false } ((cxOf C8.CX0 X.prog X.w X.K X.mg X.base Ng x sg (Dw.fa k) cdv X.A X.stack s H C8.E0).nox.suite ax ((ax, oe) :: pn)) Γs noX := by
      subst hΓ
      refine ⟨eP, ew, eK, em, eb, rfl, rfl, rfl, G, rfl, Sg.kind, Sg.nd, fun x k e => .inl e, fun _ _ => rfl, takesNo, (fun z => by cases z), (fun z => by cases z), fun q hq => (by cases hq), ?_, (fun z => by cases z), (fun z => by cases z), fun _ => ?_, (fun z => by cases z)⟩
      · have := rm.un
        show (X.A.deeper (envOfC x sg s.heap.objs.size (Dw.fa k) cdv)).units + 70 < cLine
        omega
      · refine ⟨_, ax, oe, pn, cc, pay, d, rfl, hz, hf, Nat.lt_of_lt_of_le hcc hn1, fun a' c' x' h => h, fun y ey => ?_, fun dx ed => ?_⟩
        · obtain ⟨i, dx, e1, e2, e3⟩ := ep y ey
          subst e1 ey e2
          exact ⟨i, dx, rfl, rfl, List.mem_singleton.mpr rfl⟩
        · cases pay with
          | none => rw [en0 rfl] at ed; cases ed
          | some y =>
            obtain ⟨i, dx', e1, e2, e3⟩ := ep y rfl
            subst e1 e2
            cases ed
            exact ⟨_, List.mem_singleton.mpr rfl⟩
    have sr : SR Γs H1 (none :: some (.exc cc pay, 9) :: List.replicate (m.nsu - 2) none) σ (fun _ => []) [] := by
      have h1 : 1 < Ng.length := (List.getElem?_eq_some_iff.mp hN1).1
      subst hΓ
      refine ⟨by simp; omega, fun i d0 n0 e => ?_, fun i _ => rfl, fun t ht => (by cases ht), fun i => .nil, fun t ht => (by cases ht), fun i j b h => (by cases h), .nil, fun i t ht => (by cases ht), fun i b h => (by cases h), fun t ht => (by cases ht), fun b o e _ _ => e, tb, fun b ps e => ⟨ps, e⟩, fun q hq => (by cases hq)⟩
      match i with
      | 0 => cases e
      | 1 =>
        have e : some (Eng.D.exc cc pay, 9) = some (d0, n0) := e
        cases e
        refine ⟨.ref ax, ?_, ⟨ax, rfl, ⟨rfl, rfl, rfl⟩, fun q hq => ?_⟩, rfl, fun _ => rfl⟩
        · subst eσ
          exact List.getElem?_set_self (by rw [List.length_set] at hlen; omega)
        · have hq : q ∈ xhOf pay d := hq
          unfold xhOf at hq
          split at hq
          · rename_i i0 dx0
            obtain ⟨i, dx, e1, e2, e3⟩ := ep _ rfl
            cases e1
            cases e2
            rw [List.mem_singleton.mp hq]
            exact e3
          · cases hq
      | i + 2 =>
        have e : getS (List.replicate (m.nsu - 2) none) i = some (d0, n0) := e
        rw [getS_none] at e
        cases e
    refine (K.s c _ _ Γs _ m.suite (b0 :: st) (by subst hΓ; rfl) C ck).run pins s1 σ H1 D I ⟨_, _, [], sr, ?_⟩
    rw [ev]
    intro u σ' H' F Fs' s'
    have kp : Kp Tb H1 H' := by
      have := kp_of2 (by subst hΓ; rfl) s'
      subst hΓ
      exact this
    have eu : u = .str w := (s'.tmp _ List.mem_cons_self).1
    subst eu
    exact fin H' kp
  refine ⟨_, L2.pss_cons (L2N.ps_try_as (X := (cxOf C8.CX0 X.prog X.w X.K X.mg X.base Ng x sg (Dw.fa k) cdv X.A X.stack s H C8.E0).nox) (c := .ref (Dw.ca m.cE)) (i := 1)
      (tb := fun W D σ H => ∃ Ech : XK, (∀ cls d σ' H', Ech cls d H' → W cls d σ' H') ∧ σ[0]? = some (some (.ref f)) ∧ H c' = some (CodeO c' q) ∧ tl Ech H fun _ H1 => D.nx σ H1)
      rfl rfl Sg.nd hN1 hen ⟨hgl, hcd2, .inl (by show X.mg cn = _; rw [em]; exact hcm)⟩ takesNoN (fun W pn xe tk _ => ?_) suite) (L2.pss_one (L2.ps_ret L2.pe_str)), ?_⟩
  · refine ⟨fun pins s' σ H' D I ⟨Ech, hW, h1, h2, h3⟩ => ?_⟩
    exact (L2.pss_one (L2.ps_expr (act W pn xe Ech p1 p2 tk hW) (by rfl))).run pins s' σ H' D I ⟨h1, h2, h3⟩
  · refine ⟨_, fun cls d σ' H' hx => ?_, rfl, hc, h⟩
    obtain ⟨cc, pay, ex, tb, hcc, hsu, w, env, kk, ev, fin⟩ := hx
    have he : PySem.W.exmOne X.K cls (.ref (Dw.ca m.cE)) = some true := by
      rw [ex.1, eK]
      have := G.exm cc m.cE (Nat.lt_of_lt_of_le hcc hn1) hn2
      rw [show Dw.p0.ca = Dw.ca from rfl, this]
      have hs := List.all_eq_true.mp hsub cc (List.mem_range.mpr hcc)
      rw [hsu] at hs
      simpa using hs
    exact ⟨true, he, fun _ ax na => ⟨cc, pay, σ', ex, tb, hcc, rfl, w, env, kk, ev, fin⟩, fun z => by cases z⟩
theorem fns_ok {g : Gs} (G : GlobOk Dw g) (hD : ∀ k f, m.fns[k]? = some f → k ∉ m.takers → DefOk Dw m g Tb k f) (hT : ∀ k, k ∈ m.takers → TakDef Dw m k) : ∀ f, FnsOk Dw m (evc m f) Tb f := by
  intro f
  induction f using Nat.strongRecOn with
  | _ f ih =>
    have K := cl_all (f := f) (fun g hg => ih g hg) f (Nat.le_refl _) f (by omega)
    refine ⟨fun k fn hf hk => ?_, fun k hk => tak_ok K (hT k hk)⟩
    cases f with
    | zero =>
      obtain ⟨x, qual, params, body, scope, dvs, kws, fd, N, ps, c, lm, F, Sc, hb, hps, hN, hle, ck, _⟩ := (hD k fn hf hk).ex
      exact ⟨fd, ps, ⟨fun vs H Q E ⟨as, e1, e2, _⟩ => by rw [← e1, List.length_map, e2, hps], fun A outer s H args us vs Q E _ _ _ _ ⟨as, _, _, _, _, _, rc⟩ => rc.elim⟩, hb, F.kp⟩
    | succ f => exact def_ok G (fun j hj => ih j (by omega)) hf (hD k fn hf hk)
end
end Eng
end

section
set_option linter.all false
set_option maxRecDepth 100000
/-! plain parameters are bound in order -/
namespace Eng
open PySem PySem.Spec PyProof.Rows LamX
theorem look_zip : ∀ {l : List Str} {us : List Value}, us.length = l.length → ∀ n ∈ l, ((l.zip us).lookup n).isNone = false
  | [], [], _, n, h => by cases h
  | x :: l, u :: us, hl, n, h => by
    show (List.lookup n ((x, u) :: l.zip us)).isNone = false
    rw [List.lookup_cons]
    cases e : (n == x) with
    | true => rfl
    | false =>
      rcases List.mem_cons.mp h with h | h
      · subst h; simp at e
      · exact look_zip (by simpa using hl) n h
theorem map_zip : ∀ {l : List Str} {us : List Value}, us.length = l.length → l.Nodup → l.filterMap (fun n => ((l.zip us).lookup n).map fun u => (n, u)) = l.zip us
  | [], [], _, _ => rfl
  | x :: l, u :: us, hl, nd => by
    have nd := List.nodup_cons.mp nd
    have ih := map_zip (l := l) (us := us) (by simpa using hl) nd.2
    show (x :: l).filterMap (fun n => (List.lookup n ((x, u) :: l.zip us)).map fun u => (n, u)) = (x, u) :: l.zip us
    have key : ∀ r : List Str, (∀ n ∈ r, n ≠ x) → r.filterMap (fun n => (List.lookup n ((x, u) :: l.zip us)).map fun u => (n, u)) = r.filterMap (fun n => (List.lookup n (l.zip us)).map fun u => (n, u)) := fun r hr => by
      induction r with
      | nil => rfl
      | cons y r ih2 =>
        have e : (y == x) = false := by simpa using hr y List.mem_cons_self
        have e2 : List.lookup y ((x, u) :: l.zip us) = List.lookup y (l.zip us) := by rw [List.lookup_cons, e]
        rw [List.filterMap_cons, List.filterMap_cons, e2, ih2 fun n hn => hr n (List.mem_cons_of_mem _ hn)]
    rw [List.filterMap_cons_some (b := (x, u)) (by rw [List.lookup_cons, beq_self_eq_true]; rfl), key l fun n hn e => nd.1 (e ▸ hn), ih]
theorem bind_plain {fd : FuncData} {l : List Arg} {us : List Value} (hp : fd.params = ⟨[], l, none, [], [], none, []⟩) (hd : fd.defaults = .none) (hl : us.length = l.length) (nd : (l.map (·.arg)).Nodup) : bindArgs fd ⟨us, []⟩ = pure ((l.map (·.arg)).zip us) := by
  have h1 := look_zip (l := l.map (·.arg)) (us := us) (by rw [List.length_map]; exact hl)
  have h2 := map_zip (l := l.map (·.arg)) (us := us) (by rw [List.length_map]; exact hl) nd
  have h3 : ((l.map (·.arg)).filter fun n => (((l.map (·.arg)).zip us).lookup n).isNone) = [] := List.filter_eq_nil_iff.mpr fun n hn => by rw [h1 n hn]; simp
  have h4 : seqItems? Value.none = pure none := rfl
  unfold bindArgs
  rw [hp, hd]
  simp only [h4, pure_bind, List.map_nil, List.nil_append, List.append_nil, List.forIn_nil, Option.getD_none, Array.toList_empty, List.length_nil, List.drop_nil, Nat.sub_zero, List.length_map, hl]
  have ht : List.take l.length (l.map (·.arg)) = l.map (·.arg) := List.take_of_length_le (by rw [List.length_map]; exact Nat.le_refl _)
  have hdr : List.drop l.length (l.map (·.arg)) = [] := List.drop_eq_nil_of_le (by rw [List.length_map]; exact Nat.le_refl _)
  have hg : (decide (l.length > l.length) && (none : Option Arg).isNone) = false := by simp
  rw [hg, ht, h3, hdr]
  show (pure (List.filterMap (fun n => Option.map (fun x => (n, x)) (List.lookup n ((l.map (·.arg)).zip us))) (l.map (·.arg))) : Sem (List (Str × Value))) = _
  rw [h2]
end Eng
end

section
set_option linter.all false
set_option maxRecDepth 100000
set_option maxHeartbeats 1000000
namespace Eng
open PySem PySem.Spec PyProof.Rows LamX
open L2 (V HO Hp VK TE TS TA TT TI TG TGs TSet PGs PSet WX XK SqL SqT Rd upd upd_same upd_ne upd_upd Key kV Mut RelV Vals Inv Cx PE PS PT PW PA PI PG PSs PTs tVar tNil tCons tOp Vis Loc Gl Room OpR R2 EP Dp DpAll TruR TruV IxR CallR FnOk Sp Ends PassesAt BlkOk DPut valV SlR MtR FnScope cxOf)
variable (p : Pk) {K : PySem.W.Frag}
def Pk.wd (P : Program) (w : World) (K : PySem.W.Frag) (mg : Str → Option Value) (base : Heap) : Wd := { P := P, w := w, K := K, mg := mg, base := base, fa := fun k => He.ga K (p.fname k), ca := fun k => He.ga K (p.cname k) }
theorem clsVE_ok {C : Addr} (h : clsVE K C = true) : ∃ nm q N bs bm sn sub ab col dd k0 k1 k2 k3 k5, K.lookup C = some (excClassObj nm q C N bs bm true sn sub ab col dd k0 k1 k2 k3 k5 "ValueError.__new__") ∧ PySem.HandSPX.refsVE bm = true := by
  unfold clsVE at h
  split at h
  · rename_i t dd cd k0 k1 k2 k3 b k5 hl
    obtain ⟨h1, h⟩ := and_ok h
    obtain ⟨h2, h⟩ := and_ok h
    obtain ⟨h3, h⟩ := and_ok h
    obtain ⟨h4, h5⟩ := and_ok h
    have h1 := of_decide_eq_true h1
    have h2 := of_decide_eq_true h2
    subst h1 h2
    obtain ⟨nm, bs, mro, ns, qn, hd, sn, sb, ab, col, del⟩ := cd
    dsimp only at h3 h4 h5
    match mro, h5, hl with
    | .ref C' :: bm, h5, hl =>
      obtain ⟨h6, h7⟩ := and_ok h5
      have h6 := of_decide_eq_true h6
      subst h6 h3
      have h4 : del = false := by simpa using h4
      subst h4
      exact ⟨nm, qn, ns, bs, bm, sn, sb, ab, col, dd, k0, k1, k2, k3, k5, hl, h7⟩
  · cases h
theorem oexB_ok {C : Addr} (h : oexB K C = true) : L2.OexC K C := by
  obtain ⟨h1, h⟩ := and_ok h
  obtain ⟨h2, h⟩ := and_ok h
  obtain ⟨h3, h⟩ := and_ok h
  obtain ⟨h4, h5⟩ := and_ok h
  exact ⟨clsVE_ok h1, of_decide_eq_true h2, of_decide_eq_true h3, of_decide_eq_true h4, h5⟩
theorem excCB_ok {D : Addr} (h : excCB K D = true) : L2.ExcC K D := by
  obtain ⟨h1, h⟩ := and_ok h
  obtain ⟨h2, h⟩ := and_ok h
  obtain ⟨h3, h⟩ := and_ok h
  obtain ⟨h4, h⟩ := and_ok h
  obtain ⟨h5, h⟩ := and_ok h
  obtain ⟨h6, h⟩ := and_ok h
  obtain ⟨h7, h8⟩ := and_ok h
  exact ⟨of_decide_eq_true h1, of_decide_eq_true h2, of_decide_eq_true h3, h4, of_decide_eq_true h5, of_decide_eq_true h6, of_decide_eq_true h7, of_decide_eq_true h8⟩
theorem supBody_ok {l : List Stmt} (h : supBody l = true) : ∃ p1 p2 p3 p4 p5 p6 p7 p8 p9 p10, l = [.Expr (.Call (.Attribute (.Call (.Name "super" p1) [] [] p2) "__init__" p3) [.Name "limit" p4] [] p5) p6, .Assign [.Attribute (.Name "self" p7) "limit" p8] (.Name "limit" p9) p10] ∧ (p3.endLine == p5.line) = true := by
  unfold supBody at h
  split at h
  · obtain ⟨h1, h⟩ := and_ok h
    obtain ⟨h2, h⟩ := and_ok h
    obtain ⟨h3, h⟩ := and_ok h
    obtain ⟨h4, h⟩ := and_ok h
    obtain ⟨h5, h⟩ := and_ok h
    obtain ⟨h6, h7⟩ := and_ok h
    have h1 := of_decide_eq_true h1
    have h2 := of_decide_eq_true h2
    have h3 := of_decide_eq_true h3
    have h4 := of_decide_eq_true h4
    have h5 := of_decide_eq_true h5
    have h6 := of_decide_eq_true h6
    subst h1 h2 h3 h4 h5 h6
    exact ⟨_, _, _, _, _, _, _, _, _, _, rfl, h7⟩
  · cases h
theorem supB_ok {P : Program} {mg : Str → Option Value} {C : Addr} (h : supB P K C = true) (hs : mg "super" = none) : ∃ fI fd, L2.SupI P K mg C fI fd := by
  unfold supB at h
  split at h
  · rename_i fI hfI
    obtain ⟨h1, h⟩ := and_ok h
    obtain ⟨h2, h⟩ := and_ok h
    obtain ⟨h3, h⟩ := and_ok h
    obtain ⟨h4, h⟩ := and_ok h
    obtain ⟨h5, h⟩ := and_ok h
    obtain ⟨h6, h⟩ := and_ok h
    obtain ⟨h7, h⟩ := and_ok h
    obtain ⟨h8, h⟩ := and_ok h
    obtain ⟨h9, h10⟩ := and_ok h
    obtain ⟨cd, hcd⟩ := Option.isSome_iff_exists.mp h5
    split at h1
    · rename_i oc od fd osl lk
      refine ⟨fI, fd, ?_⟩
      unfold supFn at h1
      split at h1
      · rename_i body cda q cc e1 e2 e3
        obtain ⟨g1, h1⟩ := and_ok h1
        obtain ⟨g2, h1⟩ := and_ok h1
        obtain ⟨g3, h1⟩ := and_ok h1
        obtain ⟨g4, h1⟩ := and_ok h1
        obtain ⟨g5, h1⟩ := and_ok h1
        obtain ⟨g6, h1⟩ := and_ok h1
        obtain ⟨g7, h1⟩ := and_ok h1
        obtain ⟨g8, h1⟩ := and_ok h1
        obtain ⟨g9, h1⟩ := and_ok h1
        obtain ⟨g10, h1⟩ := and_ok h1
        obtain ⟨g11, h1⟩ := and_ok h1
        obtain ⟨g12, g13⟩ := and_ok h1
        obtain ⟨p1, p2, p3, p4, p5, p6, p7, p8, p9, p10, eb, hline⟩ := supBody_ok g1
        have w3 := of_decide_eq_true g3
        have w4 := of_decide_eq_true g4
        have w5 := of_decide_eq_true g5
        clear g3 g4 g5 h1
        obtain ⟨nm, qn, params, bd, sc, gl, cl, df, kd, doc, pm, an, code, ct, bl⟩ := fd
        dsimp only at e1 e2 e3 g2 w4 w5 g6 g9 g10 g11 g12 g13 lk
        subst e1 e2 e3 w3 w4 w5 eb
        match params, df, g2, g13, lk, h4 with
        | ⟨[], [a, b], none, [], [], none, []⟩, .none, g2, _, lk, _ =>
          obtain ⟨k1, k2⟩ := and_ok g2
          have k1 := of_decide_eq_true k1
          have k2 := of_decide_eq_true k2
          split at g7
          · rename_i oc2 od2 C' osl2 lcc
            have g7 := of_decide_eq_true g7
            subst g7
            split at g8
            · rename_i oc3 od3 vs osl3 lca
              split at g8
              · rename_i file tf hvs
                exact ⟨⟨nm, qn, _, sc, .none, kd, doc, pm, ct, oc, an, od, osl, cc, cda, p1, p2, p3, p4, p5, p6, p7, p8, p9, p10, a, oc2, oc3, od2, od3, osl2, osl3, vs, file, tf, cd, rfl, lk, g6, lcc, lca, hvs, g8, by simpa using h10, rfl, k1, of_decide_eq_true g9, of_decide_eq_true g10, by simpa using g11, by simpa using g12, hcd, of_decide_eq_true h6, of_decide_eq_true h7, of_decide_eq_true h8, of_decide_eq_true h9, hline⟩,
                  fun s us _ hl => by
                    have e : [("self" : Str), "limit"] = [a, b].map (·.arg) := by show _ = [a.arg, b.arg]; rw [k1, k2]
                    rw [e]
                    exact .of_eq (bind_plain rfl rfl hl (by rw [← e]; decide)), hs, oexB_ok h2, of_decide_eq_true h3, hfI, of_decide_eq_true h4⟩
              · cases g8
            · cases g8
          · cases g7
      · cases h1
    · cases h1
  · cases h
end Eng
end

section
set_option linter.all false
set_option maxRecDepth 100000
set_option maxHeartbeats 1000000
namespace Eng
open PySem PySem.Spec PyProof.Rows LamX
open L2 (V HO Hp VK TE TS TA TT TI TG TGs TSet PGs PSet WX XK SqL SqT Rd upd upd_same upd_ne upd_upd Key kV Mut RelV Vals Inv Cx PE PS PT PW PA PI PG PSs PTs tVar tNil tCons tOp Vis Loc Gl Room OpR R2 EP Dp DpAll TruR TruV IxR CallR FnOk Sp Ends PassesAt BlkOk DPut valV SlR MtR FnScope cxOf)
variable (p : Pk) {K : PySem.W.Frag}
theorem getD_at {l : List Str} {k : Nat} {x : Str} (h : l[k]? = some x) : l.getD k Str.empty = x := by
  rw [List.getD_eq_getElem?_getD, h]
  rfl
theorem lookup_memD {l : List (Str × D)} {x : Str} {d : D} (h : l.lookup x = some d) : (x, d) ∈ l := PySem.mem_of_lookup h
theorem Pk.glob {P : Program} {w : World} {mg : Str → Option Value} {h base : Heap} {tf : List He.Defn} (hex : p.ex P K = true) (hs : p.gs.blts.contains "super" = true) (KX : K.In h) (G : h.Ns mainGlobals mg) (c : He.SaysD p.fa p.fn K) : GlobOk (p.wd P w K mg base) p.gs := by
  obtain ⟨x1, hex⟩ := and_ok hex
  obtain ⟨x2, hex⟩ := and_ok hex
  obtain ⟨x3, hex⟩ := and_ok hex
  obtain ⟨x4, x5⟩ := and_ok hex
  have cls : ∀ k x, p.gs.cnames[k]? = some x → mg x = some (.ref (He.ga K (p.cname k))) ∧ PySem.W.keepIn K (.ref (He.ga K (p.cname k))) = true := fun k x e => by
    have m := List.mem_of_getElem? e
    have ex : p.cname k = x := getD_at e
    rw [ex]
    refine ⟨He.glo_ok KX G (c.facts ?_), He.keep_ok (c.facts ?_)⟩
    · exact List.mem_append_right _ (List.mem_append_right _ (List.mem_append_right _ (List.mem_append_right _ (List.mem_append_left _ (List.mem_map_of_mem m)))))
    · exact List.mem_append_right _ (List.mem_append_right _ (List.mem_append_right _ (List.mem_append_right _ (List.mem_append_right _ (List.mem_append_left _ (List.mem_map_of_mem m))))))
  have blt : ∀ x, p.gs.blts.contains x = true → mg x = none := fun x e => by
    have m : x ∈ p.gs.blts := by simpa using e
    exact He.free_ok KX G (c.facts (List.mem_append_right _ (List.mem_append_right _ (List.mem_append_left _ (List.mem_map_of_mem m)))))
  refine ⟨fun k x e => ?_, cls, fun x d e => ?_, blt, fun k e => ?_, fun a b ha hb => ?_, fun a b ha hb => ?_, fun a ha => ?_, fun k e => ?_⟩
  · have m := List.mem_of_getElem? e
    have ex : p.fname k = x := getD_at e
    show mg x = some (.ref (He.ga K (p.fname k))) ∧ PySem.W.keepIn K (.ref (He.ga K (p.fname k))) = true
    rw [ex]
    exact ⟨He.glo_ok KX G (c.facts (List.mem_append_left _ (List.mem_map_of_mem m))), He.keep_ok (c.facts (List.mem_append_right _ (List.mem_append_left _ (List.mem_map_of_mem m))))⟩
  · have m : He.Fa.int x d ∈ p.gs.consts.filterMap intFa := List.mem_filterMap.mpr ⟨_, lookup_memD e, rfl⟩
    exact He.int_ok KX G (c.facts (List.mem_append_right _ (List.mem_append_right _ (List.mem_append_right _ (List.mem_append_left _ m)))))
  · have m : k ∈ p.gs.simple := by simpa using e
    obtain ⟨h1, _, h3, h4⟩ := He.exc_ok (c.facts (List.mem_append_right _ (List.mem_append_right _ (List.mem_append_right _ (List.mem_append_right _ (List.mem_append_right _ (List.mem_append_right _ (List.mem_map_of_mem (f := fun k => He.Fa.exc (p.cname k)) m))))))))
    exact ⟨_, _, _, _, h1, F.excBase_ValueError, h3, h4⟩
  · have := List.all_eq_true.mp (List.all_eq_true.mp x2 a (List.mem_range.mpr ha)) b (List.mem_range.mpr hb)
    exact of_decide_eq_true (and_ok this).1
  · have := List.all_eq_true.mp (List.all_eq_true.mp x2 a (List.mem_range.mpr ha)) b (List.mem_range.mpr hb)
    exact of_decide_eq_true (and_ok this).2
  · have := List.all_eq_true.mp x3 a (List.mem_range.mpr ha)
    exact ⟨excCB_ok (and_ok this).1, of_decide_eq_true (and_ok this).2⟩
  · have m : k ∈ p.gs.lims := by simpa using e
    exact supB_ok (List.all_eq_true.mp x4 k m) (blt _ hs)
/-! ### a def -/
def scopeB (N P : List Str) (sc : Scope) : Bool := decide (sc.kind = .function) && (!sc.isCoroutine && (!sc.isGenerator && (decide N.Nodup && (decide (N.take P.length = P) && ((P.all fun x => decide (sc.names.lookup x = some .local) || decide (sc.names.lookup x = some .cell)) && sc.names.all fun y => decide (y.2 ≠ .free))))))
theorem scopeB_ok {N P : List Str} {sc : Scope} (h : scopeB N P sc = true) : FnScope N P sc := by
  obtain ⟨h1, h⟩ := and_ok h
  obtain ⟨h2, h⟩ := and_ok h
  obtain ⟨h3, h⟩ := and_ok h
  obtain ⟨h4, h⟩ := and_ok h
  obtain ⟨h5, h⟩ := and_ok h
  obtain ⟨h6, h7⟩ := and_ok h
  refine ⟨of_decide_eq_true h1, by simpa using h2, by simpa using h3, of_decide_eq_true h4, of_decide_eq_true h5, fun x hx => ?_, fun y hy => of_decide_eq_true (List.all_eq_true.mp h7 y hy)⟩
  rcases Bool.or_eq_true_iff.mp (List.all_eq_true.mp h6 x hx) with a | a
  · exact .inl (of_decide_eq_true a)
  · exact .inr (of_decide_eq_true a)
/-- the parameters: plain ones -/
def parB : Arguments → List Str → Bool
  | ⟨[], l, none, [], [], none, []⟩, ps => decide (l.map (·.arg) = ps) && decide ps.Nodup
  | _, _ => false
theorem parB_ok {x q : Str} {params : Arguments} {body : List Stmt} {scope : Scope} {ps : List Str} {kws : List (Str × V)} {f : Addr} {fd : FuncData} (h : parB params ps = true) (F : L2.FunD K x q params body scope [] kws f fd) : L2.Binds K fd ps [] ∧ ∀ (s : Shared) (us : List Value), us.length = ps.length → BindsTo s fd ⟨us, []⟩ (ps.zip us) := by
  have key : ∀ (kV doc pm : Value) (an : Option Addr) (cdv ct : Value) (us : List Value), us.length = ps.length → bindArgs (PySem.W.fnOf x q params body scope .none kV doc pm an cdv ct) ⟨us, []⟩ = pure (ps.zip us) := by
    unfold parB at h
    split at h
    · rename_i l
      obtain ⟨h1, h2⟩ := and_ok h
      have h1 := of_decide_eq_true h1
      have h2 := of_decide_eq_true h2
      subst h1
      intro kV doc pm an cdv ct us hl
      rw [List.length_map] at hl
      exact bind_plain rfl rfl hl h2
    · cases h
  exact ⟨F.bindsN key, F.bindsA key⟩
end Eng
end

section
set_option linter.all false
set_option maxRecDepth 100000
set_option maxHeartbeats 1000000
namespace Eng
open PySem PySem.Spec PyProof.Rows LamX
open L2 (V HO Hp VK TE TS TA TT TI TG TGs TSet PGs PSet WX XK SqL SqT Rd upd upd_same upd_ne upd_upd Key kV Mut RelV Vals Inv Cx PE PS PT PW PA PI PG PSs PTs tVar tNil tCons tOp Vis Loc Gl Room OpR R2 EP Dp DpAll TruR TruV IxR CallR FnOk Sp Ends PassesAt BlkOk DPut valV SlR MtR FnScope cxOf)
/-! ### the defs' texts, by Bools -/
variable (p : Pk) {K : PySem.W.Frag}
def Pk.dck (k : Nat) : Bool := match p.md.fns[k]? with
  | some f => scopeB (p.nm k) ((p.nm k).take f.npar) (L2.defScope (p.top k)) && (parB (L2.defArgs (p.top k)) ((p.nm k).take f.npar) && (decide (((p.nm k).take f.npar).length = f.npar) && (decide ((p.nm k).length = f.nslots) && (decide (f.npar ≤ f.nslots) &&
    (chkc p.md 200).s { g := p.gs, N := p.nm k, names := (L2.defScope (p.top k)).names, hot := false, plain := true, pins := f.inout, stm := true, exc := false, lam := p.lamd.contains k } f.body (L2.defBody (p.top k))))))
  | none => false
def takS (p : Pk) (k : Nat) (a cn en : Str) (s : Str) (b0 : Stmt) (st : List Stmt) : Bool :=
  decide (s = Str.ofString "") && (scopeB (p.nm k) [a] (L2.defScope (p.top k)) && (parB (L2.defArgs (p.top k)) [a] && (decide ((p.nm k)[0]? = some a) && (decide ((p.nm k)[1]? = some en) && (decide ((p.nm k).length = p.md.nsu) && (visK ((L2.defScope (p.top k)).names.lookup a) && (nmOk a &&
    (decide ((L2.defScope (p.top k)).names.lookup en = some .local) && (decide ((L2.defScope (p.top k)).names.lookup cn = some .globalImplicit) && (nmOk cn && (decide (p.gs.cnames[p.md.cE]? = some cn) &&
    (chkc p.md 200).s { g := p.gs, N := p.nm k, names := (L2.defScope (p.top k)).names, hot := true, plain := false, pins := [], stm := false, exc := true, lam := false } p.md.suite (b0 :: st))))))))))))
def Pk.tck (k : Nat) : Bool := match L2.defBody (p.top k) with
  | [.Try [.Expr (.Call (.Name a _) [] [] _) _] [.ExceptHandler (some (.Name cn _)) (some en) (b0 :: st) _] [] [] _, .Return (some (.Constant (.str s) _ _)) _] => takS p k a cn en s b0 st
  | _ => false
def Pk.all : Bool := decide (p.md.ncls ≤ p.gs.cnames.length) && (decide (p.md.cE < p.gs.cnames.length) && (((List.range p.md.ncls).all fun c => !p.md.sub c p.md.cE || p.gs.subs.contains (c, p.md.cE)) && (decide (p.md.fns.length = p.gs.fnames.length) &&
  ((p.gs.blts.contains "super") && ((p.md.takers.all fun k => decide (k < p.gs.fnames.length) && p.tck k) && (List.range p.md.fns.length).all fun k => p.md.takers.contains k || p.dck k)))))
/-- the lambdas' tables -/
def Pk.tb (K : PySem.W.Frag) : List (Addr × Str) := p.lamd.map fun k => ((He.cT K (p.fname k, none)).2, qualL (p.fname k))
theorem Pk.tf_mem {k : Nat} (h : k ∈ p.lamd) : (p.fname k, none) ∈ p.tf := List.mem_map.mpr ⟨k, h, rfl⟩
theorem Pk.fd {fa : List He.Fa} {k : Nat} (hk : k < p.gs.fnames.length) (c : He.SaysD fa p.fn K) : ∃ fd, L2.FunD K (p.fname k) (p.fname k) (L2.defArgs (p.top k)) (L2.defBody (p.top k)) (L2.defScope (p.top k)) [] [] (He.ga K (p.fname k)) fd := by
  have m : mkD (p.fname k) (p.top k) ∈ p.fn := List.mem_map.mpr ⟨k, List.mem_range.mpr hk, rfl⟩
  exact c.defs m
theorem Pk.lam_ok {P : Program} {w : World} {mg : Str → Option Value} {base : Heap} {k : Nat} {fd : FuncData} {pa : Arguments} {bo : List Stmt} {sc : Scope} (hex : p.ex P K = true) (F : L2.FunD K (p.fname k) (p.fname k) pa bo sc [] [] (He.ga K (p.fname k)) fd)
    (hT : ∀ q ∈ p.tf.map (He.cT K), TabB base mg q.1 q.2) (h : p.lamd.contains k = true) : ∃ cc P, fd.code = .ref cc ∧ LamX.TabB base mg cc P ∧ (P, p.fname k ++ ".<locals>." ++ "<lambda>") ∈ p.tb K ∧ ∀ q ∈ p.tb K, q.1 = P → q.2 = p.fname k ++ ".<locals>." ++ "<lambda>" := by
  have hm : k ∈ p.lamd := by simpa using h
  obtain ⟨oc, od, dV, kV, doc, pm, an, cdv, ct, osl, efd, lk, hcd, _, _⟩ := F.ex
  obtain ⟨cc, ecc⟩ := He.codeIn_ref hcd
  have e1 : fd.code = .ref cc := by rw [efd]; exact ecc
  have e2 : He.codeOf K (p.fname k, none) = cc := He.codeOf_eq lk e1
  refine ⟨cc, (He.cT K (p.fname k, none)).2, e1, ?_, List.mem_map.mpr ⟨k, hm, rfl⟩, fun q hq e => ?_⟩
  · have := hT _ (List.mem_map_of_mem (p.tf_mem hm))
    rw [show (He.cT K (p.fname k, none)).1 = cc from e2] at this
    exact this
  · obtain ⟨j, hj, ej⟩ := List.mem_map.mp hq
    obtain ⟨_, hex⟩ := and_ok hex
    obtain ⟨_, hex⟩ := and_ok hex
    obtain ⟨_, hex⟩ := and_ok hex
    obtain ⟨_, x5⟩ := and_ok hex
    subst ej
    have := of_decide_eq_true (List.all_eq_true.mp (List.all_eq_true.mp x5 j hj) k hm) e
    show qualL (p.fname j) = qualL (p.fname k)
    rw [this]
theorem visK_ok {sc : Scope} {a : Str} (h : visK (sc.names.lookup a) = true) : Vis sc a := by
  cases e : sc.names.lookup a with
  | none => rw [e] at h; cases h
  | some k =>
    rw [e] at h
    cases k <;> first | exact .inl e | exact .inr (.inl e) | exact .inr (.inr e) | cases h
theorem Pk.tak {P : Program} {w : World} {mg : Str → Option Value} {base : Heap} {fa : List He.Fa} (ha : p.all = true) {k : Nat} (hk : k ∈ p.md.takers) (G : GlobOk (p.wd P w K mg base) p.gs) (c : He.SaysD fa p.fn K) : TakDef (p.wd P w K mg base) p.md k := by
  obtain ⟨a1, ha⟩ := and_ok ha
  obtain ⟨a2, ha⟩ := and_ok ha
  obtain ⟨a3, ha⟩ := and_ok ha
  obtain ⟨a4, ha⟩ := and_ok ha
  obtain ⟨a5, ha⟩ := and_ok ha
  obtain ⟨a6, a7⟩ := and_ok ha
  obtain ⟨b1, b2⟩ := and_ok (List.all_eq_true.mp a6 k hk)
  obtain ⟨fd, F⟩ := p.fd (of_decide_eq_true b1) c
  unfold Pk.tck at b2
  split at b2
  · rename_i a q1 q2 q3 cn q4 en b0 st q5 q6 s q7 q8 q9 eb
    obtain ⟨c1, d⟩ := and_ok b2
    obtain ⟨c2, d⟩ := and_ok d
    obtain ⟨c3, d⟩ := and_ok d
    obtain ⟨c4, d⟩ := and_ok d
    obtain ⟨c5, d⟩ := and_ok d
    obtain ⟨c6, d⟩ := and_ok d
    obtain ⟨c7, d⟩ := and_ok d
    obtain ⟨c8, d⟩ := and_ok d
    obtain ⟨c9, d⟩ := and_ok d
    obtain ⟨c10, d⟩ := and_ok d
    obtain ⟨c11, d⟩ := and_ok d
    obtain ⟨c12, c13⟩ := and_ok d
    rw [eb, of_decide_eq_true c1] at F
    exact ⟨p.gs, p.fname k, a, en, cn, _, b0, st, _, fd, p.nm k, 200, _, _, _, _, _, _, _, _, _, G, of_decide_eq_true a1, of_decide_eq_true a2, a3, F, (parB_ok c3 F).1, scopeB_ok c2, of_decide_eq_true c4, of_decide_eq_true c5, of_decide_eq_true c6, visK_ok c7, c8, of_decide_eq_true c9, of_decide_eq_true c10, (nmOk_ok c11).1, (G.cls _ _ (of_decide_eq_true c12)).1, c13⟩
  · cases b2
end Eng
end

section
set_option linter.all false
set_option maxRecDepth 100000
set_option maxHeartbeats 1000000
namespace Eng
open PySem PySem.Spec PyProof.Rows LamX
open L2 (V HO Hp VK TE TS TA TT TI TG TGs TSet PGs PSet WX XK SqL SqT Rd upd upd_same upd_ne upd_upd Key kV Mut RelV Vals Inv Cx PE PS PT PW PA PI PG PSs PTs tVar tNil tCons tOp Vis Loc Gl Room OpR R2 EP Dp DpAll TruR TruV IxR CallR FnOk Sp Ends PassesAt BlkOk DPut valV SlR MtR FnScope cxOf)
variable (p : Pk) {K : PySem.W.Frag}
theorem Pk.dck_of (ha : p.all = true) {k : Nat} {f : Fn} (hf : p.md.fns[k]? = some f) (hk : k ∉ p.md.takers) : k < p.gs.fnames.length ∧ scopeB (p.nm k) ((p.nm k).take f.npar) (L2.defScope (p.top k)) = true ∧ parB (L2.defArgs (p.top k)) ((p.nm k).take f.npar) = true ∧ ((p.nm k).take f.npar).length = f.npar ∧ (p.nm k).length = f.nslots ∧ f.npar ≤ f.nslots ∧
    (chkc p.md 200).s { g := p.gs, N := p.nm k, names := (L2.defScope (p.top k)).names, hot := false, plain := true, pins := f.inout, stm := true, exc := false, lam := p.lamd.contains k } f.body (L2.defBody (p.top k)) = true := by
  obtain ⟨_, ha⟩ := and_ok ha
  obtain ⟨_, ha⟩ := and_ok ha
  obtain ⟨_, ha⟩ := and_ok ha
  obtain ⟨a4, ha⟩ := and_ok ha
  obtain ⟨_, ha⟩ := and_ok ha
  obtain ⟨_, a7⟩ := and_ok ha
  have hlt : k < p.md.fns.length := (List.getElem?_eq_some_iff.mp hf).1
  have d := List.all_eq_true.mp a7 k (List.mem_range.mpr hlt)
  have d : p.dck k = true := by
    rcases Bool.or_eq_true_iff.mp d with e | e
    · exact absurd (by simpa using e) hk
    · exact e
  unfold Pk.dck at d
  rw [hf] at d
  obtain ⟨d1, d⟩ := and_ok d
  obtain ⟨d2, d⟩ := and_ok d
  obtain ⟨d3, d⟩ := and_ok d
  obtain ⟨d4, d⟩ := and_ok d
  obtain ⟨d5, d6⟩ := and_ok d
  exact ⟨by rw [← of_decide_eq_true a4]; exact hlt, d1, d2, of_decide_eq_true d3, of_decide_eq_true d4, of_decide_eq_true d5, d6⟩
theorem Pk.defOk {P : Program} {w : World} {mg : Str → Option Value} {base : Heap} (ha : p.all = true) (hex : p.ex P K = true) (hT : ∀ q ∈ p.tf.map (He.cT K), TabB base mg q.1 q.2) (c : He.SaysD p.fa p.fn K) {k : Nat} {f : Fn} (hf : p.md.fns[k]? = some f) (hk : k ∉ p.md.takers) : DefOk (p.wd P w K mg base) p.md p.gs (p.tb K) k f := by
  obtain ⟨h0, h1, h2, h3, h4, h5, h6⟩ := p.dck_of ha hf hk
  obtain ⟨fd, F⟩ := p.fd h0 c
  exact ⟨_, _, _, _, _, _, _, fd, p.nm k, _, 200, p.lamd.contains k, F, scopeB_ok h1, (parB_ok h2 F).1, h3, h4, h5, h6, fun z => p.lam_ok (w := w) hex F hT z⟩
theorem Pk.fns {P : Program} {w : World} {mg : Str → Option Value} {base : Heap} (ha : p.all = true) (hex : p.ex P K = true) (KB : K.In base) (GB : base.Ns mainGlobals mg) (hT : ∀ q ∈ p.tf.map (He.cT K), TabB base mg q.1 q.2) (c : He.SaysD p.fa p.fn K) : GlobOk (p.wd P w K mg base) p.gs ∧ ∀ f, FnsOk (p.wd P w K mg base) p.md (evc p.md f) (p.tb K) f := by
  have hs : p.gs.blts.contains "super" = true := by
    obtain ⟨_, ha⟩ := and_ok ha
    obtain ⟨_, ha⟩ := and_ok ha
    obtain ⟨_, ha⟩ := and_ok ha
    obtain ⟨_, ha⟩ := and_ok ha
    exact (and_ok ha).1
  have G : GlobOk (p.wd P w K mg base) p.gs := p.glob (tf := p.tf) hex hs KB GB c
  exact ⟨G, fns_ok G (fun k f hf hk => p.defOk ha hex hT c hf hk) fun k hk => p.tak ha hk G c⟩
theorem ownL_ints {q : Par} {H : Hp} : ∀ l : List Int, OwnL q H 0 (l.map .int) (l.map V.int) []
  | [] => ⟨rfl, rfl⟩
  | i :: l => ⟨.int i, l.map V.int, [], [], rfl, ⟨rfl, rfl, fun z => by cases z⟩, ownL_ints l, rfl⟩
theorem rep_ints {q : Par} {H : Hp} : ∀ l : List Int, RepL q H (l.map .int) (l.map V.int)
  | [] => rfl
  | i :: l => ⟨.int i, l.map V.int, rfl, rfl, rep_ints l⟩
theorem bits_log {z : Int} (h : Builtin.Int.intBits z ≤ 1048576) : z.natAbs.log2 < 3000000 := by
  unfold Builtin.Int.intBits at h
  split at h
  · rename_i e
    have : z.natAbs = 0 := by
      first
        | (have e : z = 0 := by simpa using e
           omega)
        | omega
    rw [this]
    decide
  · omega
/-- THE END: the law holds where its evaluation tells true -/
theorem Pk.law {l : PySem.W.OpenLaw} {w : World} {mg : Str → Option Value} {h : Heap} {f : Addr} {x : Str} {i : Nat} {lf : Fn} (ha : p.all = true) (hf : p.md.fns[i]? = some lf) (hk : i ∉ p.md.takers) (hio : lf.inout = []) (hx : (p.nm i).take lf.npar = [x])
    (run : ∀ (ns : List Int) (n : Nat), n = 0 ∨ n = 1 → ns.length ≤ 63 → (∀ z ∈ ns, z.natAbs.log2 < 3000000) → (evc p.md 200).cl i [(.lst (ns.map .int), n)] = .ok (.bl true) 9 [])
    (KX : K.In h) (G : h.Ns mainGlobals mg) (hm : mg (p.fname i) = some (.ref f)) (c : He.SaysX p.fa p.fn [] p.tf (p.ex l.prog) w h K) : LamX.LawAtS l w K (L2N.CX l.prog w) 200 63 x mg f h := by
  obtain ⟨h0, h1, h2, h3, h4, h5, h6⟩ := p.dck_of ha hf hk
  obtain ⟨fd, F⟩ := p.fd h0 c.t.d
  have ef : f = He.ga K (p.fname i) := by
    have e0 : p.gs.fnames[i]? = some (p.fname i) := by
      rw [List.getElem?_eq_getElem h0]
      exact congrArg some (getD_at (List.getElem?_eq_getElem h0)).symm
    have := He.glo_ok KX G (c.t.d.facts (f := .glo (p.fname i)) (List.mem_append_left _ (List.mem_map_of_mem (List.mem_of_getElem? e0))))
    rw [hm] at this
    cases this
    rfl
  subst ef
  rw [hx] at h1 h2 h3
  have hb := (parB_ok h2 F).2
  refine ⟨fd, p.tf.map (He.cT K), spSim (evc p.md 200) (p.wd l.prog w K mg h).p0 (p.tb K) i lf, fun q hq => ?_, fun q hq => ?_, fun q hq => ?_, fun s u => hb s [u] rfl, fun H a ns hn hbits hH hS => ?_, fun base KB GB hT => ?_⟩
  · obtain ⟨t, ht, e⟩ := List.mem_map.mp hq
    subst e
    exact c.empty t ht
  · obtain ⟨t, ht, e⟩ := List.mem_map.mp hq
    subst e
    exact c.out t ht
  · obtain ⟨t, ht, e⟩ := List.mem_map.mp hq
    subst e
    exact PySem.W.codeHd_of_K KX (c.hd t ht)
  · have tabs : LamX.Tabs (p.tb K) H := fun q hq => by
      obtain ⟨k, hk, e⟩ := List.mem_map.mp hq
      subst e
      exact ⟨#[], hH _ (List.mem_map_of_mem (p.tf_mem hk)), by first | exact .nil | trivial | (intro z hz; cases hz), fun pos cv hc => by cases hc⟩
    have np : lf.npar = 1 := by rw [← h3]; rfl
    have fin : ∀ (n : Nat) (F1 : List Addr), (n = 0 ∨ n = 1) → Own (p.wd l.prog w K mg h).p0 H n (.lst (ns.map .int)) (.ref a) F1 → F1.Nodup → spSim (evc p.md 200) (p.wd l.prog w K mg h).p0 (p.tb K) i lf [.ref a] H (fun v _ => v = .bl true) fun _ _ _ => False := fun n F1 hn1 ho nd => by
      refine ⟨[⟨.lst (ns.map .int), n, .ref a, F1⟩], rfl, np.symm, fun t ht => ?_, ?_, tabs, ?_⟩
      · rw [List.mem_singleton.mp ht]
        exact ho
      · show (F1 ++ []).Nodup
        rw [List.append_nil]
        exact nd
      · show RCP _ _ _ _ _ _ _ ((evc p.md 200).cl i [(.lst (ns.map .int), n)])
        rw [run ns n hn1 hn fun z hz => bits_log (hbits z hz)]
        intro u H' F' env' σ' Fs' s' _
        exact (s'.tmp _ List.mem_cons_self).1
    rcases hS with hS | hS
    · rcases hS with hS | ⟨o, hS⟩
      · exact fin 1 [a] (.inr rfl) (.inr ⟨0, a, _, [], rfl, by decide, rfl, hS, ownL_ints ns, rfl⟩) (List.nodup_cons.mpr ⟨by simp, List.nodup_nil⟩)
      · exact fin 0 [] (.inl rfl) (.inl ⟨rfl, ⟨a, _, o, rfl, hS, rep_ints ns⟩, rfl⟩) List.nodup_nil
    · obtain ⟨o, its, n, lk, e, _⟩ := hS
      have := of_decide_eq_true (List.all_eq_true.mp (and_ok c.more).1 _ (He.lookup_mem lk))
      exact absurd e this
  · obtain ⟨GO, FN⟩ := p.fns (P := l.prog) (w := w) ha c.more KB GB hT c.t.d
    exact def_at (Dw := p.wd l.prog w K mg base) (f := 199) (lm := p.lamd.contains i) GO (fun j _ => FN j) hf F (scopeB_ok h1) h3 h4 h5 h6 fun z => p.lam_ok (w := w) c.more F hT z
end Eng
end

section
set_option linter.all false
set_option maxRecDepth 100000
namespace Eng
open PySem
/-! ### the law's own part -/
theorem ops_one {v : Ev} {c : Nat} {a : E} {env env1 : Env} {d : D} {n : Nat} {k : List (D × Nat) → Env → R} (hp : isPl a = none) (h : v.e a env = .ok d n env1) : ops v c [a] env k = k [(d, capN n c)] env1 := by
  have e : evL v c [a] env = .ok [(d, capN n c)] env1 := by
    unfold evL
    rw [hp]
    dsimp only
    rw [h]
    rfl
  unfold ops
  rw [e]
  dsimp only
  have e2 : patch env1 [a] [(d, capN n c)] = some [(d, capN n c)] := by
    unfold patch
    rw [hp]
    rfl
  rw [e2]
theorem ops_two {v : Ev} {c : Nat} {a b : E} {env env1 env2 : Env} {d d2 : D} {n n2 : Nat} {k : List (D × Nat) → Env → R} (hp : isPl a = none) (hp2 : isPl b = none) (h : v.e a env = .ok d n env1) (h2 : v.e b env1 = .ok d2 n2 env2) : ops v c [a, b] env k = k [(d, capN n c), (d2, capN n2 c)] env2 := by
  have e : evL v c [a, b] env = .ok [(d, capN n c), (d2, capN n2 c)] env2 := by
    unfold evL
    rw [hp]
    dsimp only
    rw [h]
    dsimp only
    unfold evL
    rw [hp2]
    dsimp only
    rw [h2]
    rfl
  unfold ops
  rw [e]
  dsimp only
  have e2 : patch env2 [a, b] [(d, capN n c), (d2, capN n2 c)] = some [(d, capN n c), (d2, capN n2 c)] := by
    unfold patch
    rw [hp]
    dsimp only
    unfold patch
    rw [hp2]
    rfl
  rw [e2]
theorem opsF_one {v : Ev} {c : Nat} {a : E} {env env1 : Env} {d : D} {n : Nat} {k : List (D × Nat) → Env → F} (hp : isPl a = none) (h : v.e a env = .ok d n env1) : opsF v c [a] env k = k [(d, capN n c)] env1 := by
  have e : evL v c [a] env = .ok [(d, capN n c)] env1 := by
    unfold evL
    rw [hp]
    dsimp only
    rw [h]
    rfl
  unfold opsF
  rw [e]
  dsimp only
  have e2 : patch env1 [a] [(d, capN n c)] = some [(d, capN n c)] := by
    unfold patch
    rw [hp]
    rfl
  rw [e2]
theorem asg_one {v : Ev} {i : Nat} {t : T} {a : E} {l : List S} {env env1 env2 : Env} {d : D} {n : Nat} (hp : isPl a = none) (h : v.e a env = .ok d n env1) (ha : asgT t (d, capN n 7) env1 = some env2) : (step md v).s (.asg t a :: l) env = (step md v).s l env2 := by
  have e : stepS1 md v (.asg t a) env = .nx env2 := (opsF_one (c := 7) hp h).trans (by
    show nxO (asgT t (d, capN n 7) env1) = _
    rw [ha]
    rfl)
  show (match stepS1 md v (.asg t a) env with | .nx env1 => stepS md v l env1 | r => r) = _
  rw [e]
  rfl
theorem ret_one {v : Ev} {a : E} {l : List S} {env env1 : Env} {d : D} {n : Nat} (h : v.e a env = .ok d n env1) : (step md v).s (.ret a :: l) env = .rt d n env1 := by
  have e : stepS1 md v (.ret a) env = .rt d n env1 := by
    show (match v.e a env with | .ok d n env => F.rt d n env | .ex c a env => .ex c a env | .bad => .bad) = _
    rw [h]
  show (match stepS1 md v (.ret a) env with | .nx env1 => stepS md v l env1 | r => r) = _
  rw [e]
theorem cl_rt {v : Ev} {k : Nat} {fn : Fn} {ds : List (D × Nat)} {d : D} {n : Nat} {env1 : Env} (hf : md.fns[k]? = some fn) (hl : ds.length = fn.npar) (h : v.s fn.body (parS fn 0 ds ++ List.replicate (fn.nslots - fn.npar) none) = .rt d n env1) : (step md v).cl k ds = .ok d n (outsOf fn env1) := by
  show stepC md v k ds = _
  unfold stepC
  rw [hf]
  dsimp only
  rw [if_neg (by omega), h]
theorem opsF_two {v : Ev} {c : Nat} {a b : E} {env env1 env2 : Env} {d d2 : D} {n n2 : Nat} {k : List (D × Nat) → Env → F} (hp : isPl a = none) (hp2 : isPl b = none) (h : v.e a env = .ok d n env1) (h2 : v.e b env1 = .ok d2 n2 env2) : opsF v c [a, b] env k = k [(d, capN n c), (d2, capN n2 c)] env2 := by
  have e : evL v c [a, b] env = .ok [(d, capN n c), (d2, capN n2 c)] env2 := by
    unfold evL
    rw [hp]
    dsimp only
    rw [h]
    dsimp only
    unfold evL
    rw [hp2]
    dsimp only
    rw [h2]
    rfl
  unfold opsF
  rw [e]
  dsimp only
  have e2 : patch env2 [a, b] [(d, capN n c), (d2, capN n2 c)] = some [(d, capN n c), (d2, capN n2 c)] := by
    unfold patch
    rw [hp]
    dsimp only
    unfold patch
    rw [hp2]
    rfl
  rw [e2]
theorem testF_b {v : Ev} {e : E} {env env1 : Env} {b : Bool} {n : Nat} {k : Bool → Env → F} (hp : isPl e = none) (h : v.e e env = .ok (.bl b) n env1) : testF v e env k = k b env1 := by
  unfold testF
  rw [hp]
  dsimp only
  rw [h]
  rfl
theorem test_b {v : Ev} {e : E} {env env1 : Env} {b : Bool} {n : Nat} {k : Bool → Env → R} (hp : isPl e = none) (h : v.e e env = .ok (.bl b) n env1) : testE v e env k = k b env1 := by
  unfold testE
  rw [hp]
  dsimp only
  rw [h]
  rfl
def lw (f : Nat) : Ev := evc md (f + 20)
abbrev eCat : E := .bin .add (.bi .list [(.var 0)]) (.lst [(.con (.int 0))])
abbrev eAbs : E := .bi .abs [(.ix eCat (.con (.int 0)))]
abbrev eTest : E := .cmp .ge (.var 1) (.bin .pow (.con (.int 10)) (.con (.int 18)))
abbrev eA : E := .bin .fdiv (.var 1) (.con (.int 167))
abbrev eIte : E := .ite eTest eA (.con (.int 0))
abbrev eB : E := .bin .add (.bin .mod (.bi .int [(.bin .add (.bin .mul (.var 1) (.con (.int 421))) (.con (.int 6229)))]) (.con (.int 1894129633))) (.con (.int 271))
abbrev sCup : List S := [(.asg (.nm 1 0) eAbs), (.ret (.lst [eIte, eB]))]
theorem f88_body : f88.body = sCup := by kernel_rfl
theorem cat_eq (f : Nat) (ds : List D) : (lw f).e eCat [some (.lst ds, 0), none] = okO (binop .add (.lst ds) (.lst [.int 0])) [some (.lst ds, 0), none] := by kernel_rfl
theorem cat_ok (f : Nat) (ds : List D) (h : ds.length + 1 ≤ SZ) : (lw f).e eCat [some (.lst ds, 0), none] = .ok (.lst (ds ++ [.int 0])) 1 [some (.lst ds, 0), none] := by
  rw [cat_eq]
  have : binop .add (.lst ds) (.lst [.int 0]) = some (.lst (ds ++ [.int 0]), 1) := if_pos h
  rw [this]
  rfl
def absI (i : Int) : Int := if i < 0 then -i else i
theorem idx_zero (x : D) (r : List D) : getIdx (.lst (x :: r)) (.int 0) = some x := by
  simp [getIdx, pyIx]
theorem abs_ok (f : Nat) (env : Env) (i : Int) (r : List D) (h : (lw f).e eCat env = .ok (.lst (.int i :: r)) 1 env) : (lw (f + 2)).e eAbs env = .ok (.int (absI i)) 9 env := by
  have h1 : (lw (f + 1)).e (.ix eCat (.con (.int 0))) env = .ok (.int i) 9 env := by
    refine (ops_two (v := lw f) (c := 1) (a := eCat) (b := .con (.int 0)) rfl rfl h (show (lw f).e (.con (.int 0)) env = .ok (.int 0) 9 env from rfl)).trans ?_
    show (match getIdx (.lst (.int i :: r)) (.int 0) with | some d => okO (getD' (capN 1 1) d) env | none => .bad) = _
    rw [idx_zero]
    rfl
  exact (ops_one (v := lw (f + 1)) (c := 1) (a := .ix eCat (.con (.int 0))) rfl h1).trans rfl
theorem test_eq (f : Nat) (x : Option (D × Nat)) (c : Int) (n : Nat) : (lw f).e eTest [x, some (.int c, 9)] = .ok (.bl (decide (c ≥ 10 ^ 18))) 9 [x, some (.int c, 9)] := by kernel_rfl
theorem ite_ok (f : Nat) (x : Option (D × Nat)) (c : Int) : ∃ a : Int, (lw (f + 1)).e eIte [x, some (.int c, 9)] = .ok (.int a) 9 [x, some (.int c, 9)] := by
  have h := test_eq f x c 0
  generalize decide (c ≥ 10 ^ 18) = b at h
  have h2 := (show (lw (f + 1)).e eIte [x, some (.int c, 9)] = testE (lw f) eTest [x, some (.int c, 9)] (fun k env => if k then (lw f).e eA env else (lw f).e (.con (.int 0)) env) from rfl).trans (test_b rfl h)
  cases b
  · exact ⟨0, h2.trans rfl⟩
  · exact ⟨c / 167, h2.trans (by kernel_rfl)⟩
theorem bin_int {v : Ev} {o : Op} {a b : E} {env : Env} {i j k : Int} (hp : isPl a = none) (hp2 : isPl b = none) (h1 : v.e a env = .ok (.int i) 9 env) (h2 : v.e b env = .ok (.int j) 9 env) (h : binop o (.int i) (.int j) = some (.int k, 9)) : (step md v).e (.bin o a b) env = .ok (.int k) 9 env := by
  refine (ops_two (c := 1) hp hp2 h1 h2).trans ?_
  have m : mulOk o (.int i) (capN 9 1) = true := by cases o <;> rfl
  show (if shareOk (.int i) (capN 9 1) && (shareOk (.int j) (capN 9 1) && mulOk o (.int i) (capN 9 1)) then okO (binop o (.int i) (.int j)) env else .bad) = _
  rw [m, h]
  rfl
theorem int_int {v : Ev} {a : E} {env : Env} {i : Int} (hp : isPl a = none) (h1 : v.e a env = .ok (.int i) 9 env) : (step md v).e (.bi .int [a]) env = .ok (.int i) 9 env := (ops_one (c := 1) hp h1).trans rfl
theorem log_small {b : Int} (h0 : 0 ≤ b) (h1 : b < 4294967296) : b.natAbs.log2 < 32 := by
  rcases Nat.eq_zero_or_pos b.natAbs with h | h
  · rw [h]; decide
  · exact (Nat.log2_lt (Nat.ne_of_gt h)).mpr (by omega)
theorem fmod_in (x : Int) {m : Int} (h : 0 < m) : 0 ≤ x.fmod m ∧ x.fmod m < m := ⟨Int.fmod_nonneg_of_pos x h, Int.fmod_lt_of_pos x h⟩
theorem b_ok (f : Nat) (x : Option (D × Nat)) (c : Int) (h : c.natAbs.log2 < 3000000) : ∃ b : Int, (0 ≤ b ∧ b < 4294967296) ∧ (lw (f + 5)).e eB [x, some (.int c, 9)] = .ok (.int b) 9 [x, some (.int c, 9)] := by
  have h1 : (lw (f + 1)).e (.bin .mul (.var 1) (.con (.int 421))) [x, some (.int c, 9)] = .ok (.int (c * 421)) 9 [x, some (.int c, 9)] := bin_int (v := lw f) rfl rfl rfl rfl (by
    have : c.natAbs.log2 + (421 : Int).natAbs.log2 < 4000000 := by
      have : (421 : Int).natAbs.log2 = 8 := by decide
      omega
    exact if_pos this)
  have h2 : (lw (f + 2)).e (.bin .add (.bin .mul (.var 1) (.con (.int 421))) (.con (.int 6229))) [x, some (.int c, 9)] = .ok (.int (c * 421 + 6229)) 9 [x, some (.int c, 9)] := bin_int (v := lw (f + 1)) rfl rfl h1 rfl rfl
  have h3 := int_int (v := lw (f + 2)) rfl h2
  have h4 : (lw (f + 4)).e (.bin .mod (.bi .int [(.bin .add (.bin .mul (.var 1) (.con (.int 421))) (.con (.int 6229)))]) (.con (.int 1894129633))) [x, some (.int c, 9)] = .ok (.int ((c * 421 + 6229).fmod 1894129633)) 9 [x, some (.int c, 9)] := bin_int (v := lw (f + 3)) rfl rfl h3 rfl rfl
  have h5 := fmod_in (c * 421 + 6229) (m := 1894129633) (by decide)
  exact ⟨_, ⟨by omega, by omega⟩, bin_int (v := lw (f + 4)) (k := (c * 421 + 6229).fmod 1894129633 + 271) rfl rfl h4 rfl rfl⟩
theorem cup_ok (f : Nat) (l : List Int) (h : l.length ≤ 63) (hb : ∀ z ∈ l, z.natAbs.log2 < 3000000) : ∃ a b : Int, (0 ≤ b ∧ b < 4294967296) ∧ (lw (f + 10)).cl 88 [(.lst (l.map .int), 0)] = .ok (.lst [.int a, .int b]) 8 [] := by
  have hc : ∃ (i : Int) (r : List D), l.map D.int ++ [.int 0] = .int i :: r ∧ i.natAbs.log2 < 3000000 := by
    match l, hb with
    | [], _ => exact ⟨0, [], rfl, by decide⟩
    | x :: xs, hb => exact ⟨x, _, rfl, hb x List.mem_cons_self⟩
  obtain ⟨i, r, e, hi⟩ := hc
  have h1 := cat_ok (f + 6) (l.map .int) (by
    have z : 64 ≤ SZ := by decide
    rw [List.length_map]
    omega)
  rw [e] at h1
  have h2 := abs_ok (f + 6) _ i r h1
  have ha : (absI i).natAbs = i.natAbs := by unfold absI; split <;> omega
  obtain ⟨a, h3⟩ := ite_ok (f + 6) (some (.lst (l.map .int), 0)) (absI i)
  obtain ⟨b, hb2, h4⟩ := b_ok (f + 2) (some (.lst (l.map .int), 0)) (absI i) (by rw [ha]; exact hi)
  refine ⟨a, b, hb2, ?_⟩
  have h5 : (lw (f + 8)).e (.lst [eIte, eB]) [some (.lst (l.map .int), 0), some (.int (absI i), 9)] = .ok (.lst [.int a, .int b]) 8 [some (.lst (l.map .int), 0), some (.int (absI i), 9)] := (ops_two (v := lw (f + 7)) (c := 8) rfl rfl h3 h4).trans rfl
  have h6 : (lw (f + 9)).s f88.body [some (.lst (l.map .int), 0), none] = .rt (.lst [.int a, .int b]) 8 [some (.lst (l.map .int), 0), some (.int (absI i), 9)] := by
    rw [f88_body]
    exact (asg_one (v := lw (f + 8)) (i := 1) rfl h2 rfl).trans (ret_one (v := lw (f + 8)) h5)
  exact cl_rt (v := lw (f + 9)) (fn := f88) (by kernel_rfl) rfl h6
/-! roll -/
abbrev eI (i : Int) : E := .ix (.bor 0) (.con (.int i))
abbrev eR1 : E := .bin .mod (.bi .int [(.bin .add (.bin .mul (eI 1) (.con (.int 29147))) (.con (.int 9923)))]) (.con (.int 2147483543))
abbrev eR2 : E := .bin .mod (.bi .int [(.bin .mul (eI 1) (.bin .add (eI 1) (.con (.int 353))))]) (.con (.int 2147483587))
abbrev eR3 : E := .bin .mod (.bi .int [(.bin .fdiv (.var 2) (.con (.int 953)))]) (.var 1)
abbrev sR1 : List S := [(.seti 0 (.con (.int 1)) eR1), (.asg (.nm 2 0) eR2), (.ret eR3)]
abbrev eRt : E := .cmp .gt (eI 0) (.con (.int 0))
abbrev sR0 : List S := [(.asg (.nm 3 0) (.bin .mod (.bi .int [eI 0]) (.var 1))), (.seti 0 (.con (.int 0)) (.bin .fdiv (eI 0) (.var 1))), (.ret (.var 3))]
theorem f89_body : f89.body = .ite eRt sR0 [] :: sR1 := by kernel_rfl
abbrev envR (a b : Int) (x y : Option (D × Nat)) : Env := [some (.lst [.int a, .int b], 1), some (.int 3, 9), x, y]
theorem rt_eq (f : Nat) (a b : Int) : (lw f).e eRt (envR a b none none) = .ok (.bl (decide (a > 0))) 9 (envR a b none none) := by kernel_rfl
theorem r0_eq (f : Nat) (a b : Int) : (lw f).s sR0 (envR a b none none) = .rt (.int (a.fmod 3)) 9 (envR (a / 3) b none (some (.int (a.fmod 3), 9))) := by kernel_rfl
theorem i_eq (f : Nat) (a b : Int) (x y : Option (D × Nat)) : (lw f).e (eI 1) (envR a b x y) = .ok (.int b) 9 (envR a b x y) := by kernel_rfl
theorem mul_eq {i j : Int} (hi : i.natAbs.log2 < 100) (hj : j.natAbs.log2 < 100) : binop .mul (.int i) (.int j) = some (.int (i * j), 9) := if_pos (by omega)
theorem r1_ok (f : Nat) (a b : Int) (h : 0 ≤ b ∧ b < 4294967296) : ∃ r b2 : Int, (0 ≤ r ∧ r < 3) ∧ ∃ x, (lw (f + 5)).s sR1 (envR a b none none) = .rt (.int r) 9 (envR a b2 x none) := by
  have lb := log_small h.1 h.2
  have h1 : (lw (f + 1)).e (.bin .mul (eI 1) (.con (.int 29147))) (envR a b none none) = .ok (.int (b * 29147)) 9 (envR a b none none) := bin_int (v := lw f) rfl rfl (i_eq f a b none none) rfl (mul_eq (by omega) (by decide))
  have h2 : (lw (f + 2)).e (.bin .add (.bin .mul (eI 1) (.con (.int 29147))) (.con (.int 9923))) (envR a b none none) = .ok (.int (b * 29147 + 9923)) 9 (envR a b none none) := bin_int (v := lw (f + 1)) rfl rfl h1 rfl rfl
  have h3 := int_int (v := lw (f + 2)) rfl h2
  have h4 : (lw (f + 4)).e eR1 (envR a b none none) = .ok (.int ((b * 29147 + 9923).fmod 2147483543)) 9 (envR a b none none) := bin_int (v := lw (f + 3)) rfl rfl h3 rfl rfl
  have hc := fmod_in (b * 29147 + 9923) (m := 2147483543) (by decide)
  generalize (b * 29147 + 9923).fmod 2147483543 = c at h4 hc
  have lc := log_small (b := c) hc.1 (by omega)
  have lc2 := log_small (b := c + 353) (by omega) (by omega)
  have g1 : (lw (f + 1)).e (.bin .add (eI 1) (.con (.int 353))) (envR a c none none) = .ok (.int (c + 353)) 9 (envR a c none none) := bin_int (v := lw f) rfl rfl (i_eq f a c none none) rfl rfl
  have g2 : (lw (f + 2)).e (.bin .mul (eI 1) (.bin .add (eI 1) (.con (.int 353)))) (envR a c none none) = .ok (.int (c * (c + 353))) 9 (envR a c none none) := bin_int (v := lw (f + 1)) rfl rfl (i_eq (f + 1) a c none none) g1 (mul_eq (by omega) (by omega))
  have g3 := int_int (v := lw (f + 2)) rfl g2
  have g4 : (lw (f + 4)).e eR2 (envR a c none none) = .ok (.int ((c * (c + 353)).fmod 2147483587)) 9 (envR a c none none) := bin_int (v := lw (f + 3)) rfl rfl g3 rfl rfl
  generalize (c * (c + 353)).fmod 2147483587 = d at g4
  have k4 : (lw (f + 4)).e eR3 (envR a c (some (.int d, 9)) none) = .ok (.int ((d / 953).fmod 3)) 9 (envR a c (some (.int d, 9)) none) := by kernel_rfl
  have e1 : stepS1 md (lw (f + 4)) (.seti 0 (.con (.int 1)) eR1) (envR a b none none) = .nx (envR a c none none) := (opsF_two (v := lw (f + 4)) (c := 7) (k := fun ds env => match ds, getS env 0 with
    | [x, (k, _)], some (c, n) => nxO ((putK c n k x).map fun c => setS env 0 (some (c, n)))
    | _, _ => .bad) rfl rfl h4 (show (lw (f + 4)).e (.con (.int 1)) _ = .ok (.int 1) 9 _ from rfl)).trans (by kernel_rfl)
  have hr := fmod_in (d / 953) (m := 3) (by decide)
  refine ⟨_, c, hr, some (.int d, 9), ?_⟩
  have e2 : (lw (f + 5)).s sR1 (envR a b none none) = (lw (f + 5)).s [(.asg (.nm 2 0) eR2), (.ret eR3)] (envR a c none none) := by
    show (match stepS1 md (lw (f + 4)) (.seti 0 (.con (.int 1)) eR1) (envR a b none none) with | .nx env1 => stepS md (lw (f + 4)) [(.asg (.nm 2 0) eR2), (.ret eR3)] env1 | r => r) = _
    rw [e1]
    rfl
  exact e2.trans ((asg_one (v := lw (f + 4)) (i := 2) rfl g4 rfl).trans (ret_one (v := lw (f + 4)) k4))
theorem roll_ok (f : Nat) (a b : Int) (h : 0 ≤ b ∧ b < 4294967296) : ∃ r a2 b2 : Int, (0 ≤ r ∧ r < 3) ∧ (lw (f + 6)).cl 89 [(.lst [.int a, .int b], 1), (.int 3, 9)] = .ok (.int r) 9 [(0, some (.lst [.int a2, .int b2], 1))] := by
  obtain ⟨r, b2, hr, x, h1⟩ := r1_ok f a b h
  have h2 := rt_eq (f + 4) a b
  generalize decide (a > 0) = t at h2
  have e : stepS1 md (lw (f + 4)) (.ite eRt sR0 []) (envR a b none none) = (lw (f + 4)).s (if t then sR0 else []) (envR a b none none) := (show stepS1 md (lw (f + 4)) (.ite eRt sR0 []) (envR a b none none) = testF (lw (f + 4)) eRt (envR a b none none) (fun k env => (lw (f + 4)).s (if k then sR0 else []) env) from rfl).trans (testF_b (v := lw (f + 4)) rfl h2)
  have go : (lw (f + 5)).s f89.body (envR a b none none) = (match (lw (f + 4)).s (if t then sR0 else []) (envR a b none none) with | .nx env1 => (lw (f + 5)).s sR1 env1 | r => r) := by
    rw [f89_body]
    show (match stepS1 md (lw (f + 4)) (.ite eRt sR0 []) (envR a b none none) with | .nx env1 => stepS md (lw (f + 4)) sR1 env1 | r => r) = _
    rw [e]
    rfl
  cases t
  · exact ⟨r, a, b2, hr, cl_rt (v := lw (f + 5)) (fn := f89) (env1 := envR a b2 x none) (by kernel_rfl) rfl (go.trans h1)⟩
  · refine ⟨a.fmod 3, a / 3, b, fmod_in a (by decide), cl_rt (v := lw (f + 5)) (fn := f89) (env1 := envR (a / 3) b none (some (.int (a.fmod 3), 9))) (by kernel_rfl) rfl (go.trans ?_)⟩
    show (match (lw (f + 4)).s sR0 (envR a b none none) with | .nx env1 => (lw (f + 5)).s sR1 env1 | r => r) = _
    rw [r0_eq]
/-! the law -/
abbrev eParts : E := .lst [(.fn 93), (.fn 94), (.fn 95)]
abbrev eLaw : E := .cmp .eq (.lc [4] (.var 4) (.nm 4 0) (.val (.bin .add (.sl (.var 2) (some (.var 3)) none) (.sl (.var 2) none (some (.var 3))))) [(.not (.callv 4 []))]) (.lst [])
abbrev sLaw : List S := [(.asg (.nm 1 1) (.call 88 [(.var 0)])), (.asg (.nm 2 0) eParts), (.asg (.nm 3 0) (.call 89 [(.loan 1), (.con (.int 3))])), (.ret eLaw)]
theorem f96_body : f96.body = sLaw := by kernel_rfl
abbrev envL (d : D) (a b : Int) (r : Int) : Env := [some (d, 0), some (.lst [.int a, .int b], 1), some (.lst [.fn 93, .fn 94, .fn 95], 0), some (.int r, 9), none]
theorem call_one {v : Ev} {k : Nat} {a : E} {env env1 : Env} {d x : D} {n j : Nat} (hp : isPl a = none) (h : v.e a env = .ok x j env1) (hd : dropL env1 [a] = env1) (ht : takeOuts env1 [a] 0 [] = env1) (hc : v.cl k [(x, capN j 7)] = .ok d n []) : (step md v).e (.call k [a]) env = .ok d n env1 := by
  refine (ops_one (c := 7) hp h).trans ?_
  show (match v.cl k [(x, capN j 7)] with | .ok d n outs => R.ok d n (takeOuts (dropL env1 [a]) [a] 0 outs) | .ex c y => .ex c y (dropL env1 [a]) | .bad => .bad) = _
  rw [hc, hd]
  exact congrArg (R.ok d n) ht
theorem roll_call (f : Nat) (x y z : Option (D × Nat)) (a b a2 b2 r : Int) (h : (lw f).cl 89 [(.lst [.int a, .int b], 1), (.int 3, 9)] = .ok (.int r) 9 [(0, some (.lst [.int a2, .int b2], 1))]) :
    (lw (f + 1)).e (.call 89 [(.loan 1), (.con (.int 3))]) [x, some (.lst [.int a, .int b], 1), y, none, z] = .ok (.int r) 9 [x, some (.lst [.int a2, .int b2], 1), y, none, z] := by
  show (match (lw f).cl 89 [(.lst [.int a, .int b], 1), (.int 3, 9)] with | .ok d n outs => R.ok d n (takeOuts (dropL [x, some (.lst [.int a, .int b], 1), y, none, z] [(.loan 1), (.con (.int 3))]) [(.loan 1), (.con (.int 3))] 0 outs) | .ex c e => .ex c e (dropL [x, some (.lst [.int a, .int b], 1), y, none, z] [(.loan 1), (.con (.int 3))]) | .bad => .bad) = _
  rw [h]
  kernel_rfl
theorem law_run (l : List Int) (n : Nat) (hn : n = 0 ∨ n = 1) (h : l.length ≤ 63) (hb : ∀ z ∈ l, z.natAbs.log2 < 3000000)
    (run : ∀ (d : D) (a b r : Int), 0 ≤ r ∧ r < 3 → ∃ env, (lw 178).e eLaw (envL d a b r) = .ok (.bl true) 9 env) : (lw 180).cl 96 [(.lst (l.map .int), n)] = .ok (.bl true) 9 [] := by
  obtain ⟨a, b, hb2, h1⟩ := cup_ok 167 l h hb
  obtain ⟨r, a2, b2, hr, h2⟩ := roll_ok 171 a b hb2
  obtain ⟨env, h3⟩ := run (.lst (l.map .int)) a2 b2 r hr
  have c1 : (lw 178).e (.call 88 [(.var 0)]) [some (.lst (l.map .int), 0), none, none, none, none] = .ok (.lst [.int a, .int b]) 8 [some (.lst (l.map .int), 0), none, none, none, none] :=
    call_one (v := lw 177) (j := 0) (x := .lst (l.map .int)) rfl rfl rfl rfl h1
  have c2 : (lw 178).e (.call 89 [(.loan 1), (.con (.int 3))]) [some (.lst (l.map .int), 0), some (.lst [.int a, .int b], 1), some (.lst [.fn 93, .fn 94, .fn 95], 0), none, none] = .ok (.int r) 9 [some (.lst (l.map .int), 0), some (.lst [.int a2, .int b2], 1), some (.lst [.fn 93, .fn 94, .fn 95], 0), none, none] := roll_call 177 _ _ _ a b a2 b2 r h2
  have body : (lw 179).s f96.body [some (.lst (l.map .int), 0), none, none, none, none] = .rt (.bl true) 9 env := by
    rw [f96_body]
    refine (asg_one (v := lw 178) (i := 1) rfl c1 rfl).trans ?_
    refine (asg_one (v := lw 178) (i := 2) (d := .lst [.fn 93, .fn 94, .fn 95]) (n := 8) (env1 := [some (.lst (l.map .int), 0), some (.lst [.int a, .int b], 1), none, none, none]) rfl (by kernel_rfl) rfl).trans ?_
    refine (asg_one (v := lw 178) (i := 3) rfl c2 rfl).trans ?_
    exact ret_one (v := lw 178) h3
  have hs : parS f96 0 [(.lst (l.map .int), n)] ++ List.replicate (f96.nslots - f96.npar) none = [some (.lst (l.map .int), 0), none, none, none, none] := by
    rcases hn with e | e <;> subst e <;> rfl
  exact cl_rt (v := lw 179) (fn := f96) (env1 := env) (by kernel_rfl) rfl (by rw [hs]; exact body)
end Eng
end

section
set_option linter.all false
set_option maxRecDepth 100000
namespace Eng
open PySem
abbrev eTurn : E := .not (.callv 4 [])
abbrev eLc : E := .lc [4] (.var 4) (.nm 4 0) (.val (.bin .add (.sl (.var 2) (some (.var 3)) none) (.sl (.var 2) none (some (.var 3))))) [eTurn]
abbrev envP (d : D) (a b : Int) (r : Int) (k : Nat) : Env := [some (d, 0), some (.lst [.int a, .int b], 1), some (.lst [.fn 93, .fn 94, .fn 95], 0), some (.int r, 9), some (.fn k, 9)]
theorem lc_skip {v : Ev} {own : List Nat} {t : T} {c : E} {inner : List (D × Nat) → Env → RL} {x : D × Nat} {l acc : List (D × Nat)} {env env1 : Env} (ha : asgT t x (wipeS env own) = some env1) (hp : isPl c = none) (h : v.e c env1 = .ok (.bl false) 9 env1) : lcGo v own t [c] inner (x :: l) acc env = lcGo v own t [c] inner l acc env1 := by
  rw [lcGo.eq_def]
  dsimp only
  rw [ha]
  dsimp only
  have e : ifsL v [c] env1 (fun b env2 => if b then inner acc env2 else .ok acc env2) = .ok acc env1 := by
    unfold ifsL testL
    dsimp only
    rw [hp]
    dsimp only
    rw [h]
    rfl
  rw [e]
theorem turn_ok {f k : Nat} {fn : Fn} {env : Env} (hg : getS env 4 = some (.fn k, 9)) (hf : md.fns[k]? = some fn) (ht : (md.takers.contains k || fn.npar != 0) = false) (h : (lw f).cl k [] = .ok (.bl true) 9 []) : (lw (f + 2)).e eTurn env = .ok (.bl false) 9 env := by
  have e : (lw (f + 1)).e (.callv 4 []) env = .ok (.bl true) 9 env := by
    show (match getS env 4 with
      | some (.fn k, _) => (match md.fns[k]? with
        | some f1 => if md.takers.contains k || f1.npar != ([] : List E).length then R.bad else ops (lw f) 7 [] env fun ds env => (match (lw f).cl k ds with
          | .ok d n outs => .ok d n (takeOuts (dropL env []) [] 0 outs)
          | .ex c a => .ex c a (dropL env [])
          | .bad => .bad)
        | none => .bad)
      | some (.clo k cenv, _) => (match ([] : List E), md.lams[k]? with
        | [], some e => (match (lw f).e e cenv with
          | .ok d n _ => if n = 9 then .ok d 9 env else .bad
          | .ex c a _ => .ex c a env
          | .bad => .bad)
        | _, _ => .bad)
      | _ => .bad) = _
    rw [hg]
    dsimp only
    rw [hf]
    dsimp only
    rw [show (md.takers.contains k || fn.npar != ([] : List E).length) = false from ht]
    show (match (lw f).cl k [] with
          | .ok d n outs => R.ok d n (takeOuts (dropL env []) [] 0 outs)
          | .ex c a => .ex c a (dropL env [])
          | .bad => .bad) = _
    rw [h]
    rfl
  exact test_b (v := lw (f + 1)) (k := fun b env => .ok (.bl (!b)) 9 env) rfl e
theorem parts_run (f : Nat) (h3 : (lw f).cl 93 [] = .ok (.bl true) 9 []) (h4 : (lw f).cl 94 [] = .ok (.bl true) 9 []) (h5 : (lw f).cl 95 [] = .ok (.bl true) 9 []) (d : D) (a b r : Int) (hr : 0 ≤ r ∧ r < 3) : ∃ env, (lw (f + 4)).e eLaw (envL d a b r) = .ok (.bl true) 9 env := by
  have t3 : (lw (f + 2)).e eTurn (envP d a b r 93) = .ok (.bl false) 9 (envP d a b r 93) := turn_ok rfl (fn := f93) (by kernel_rfl) (by kernel_rfl) h3
  have t4 : (lw (f + 2)).e eTurn (envP d a b r 94) = .ok (.bl false) 9 (envP d a b r 94) := turn_ok rfl (fn := f94) (by kernel_rfl) (by kernel_rfl) h4
  have t5 : (lw (f + 2)).e eTurn (envP d a b r 95) = .ok (.bl false) 9 (envP d a b r 95) := turn_ok rfl (fn := f95) (by kernel_rfl) (by kernel_rfl) h5
  have key : ∃ (l : List (D × Nat)) (k : Nat), (lw (f + 2)).it (.val (.bin .add (.sl (.var 2) (some (.var 3)) none) (.sl (.var 2) none (some (.var 3))))) (envL d a b r) = .ok l (envL d a b r) ∧ lcGo (lw (f + 2)) [4] (.nm 4 0) [eTurn] (lcElt (lw (f + 2)) (.var 4)) l [] (envL d a b r) = .ok [] (envL d a b r) := by
    rcases (show r = 0 ∨ r = 1 ∨ r = 2 by omega) with e | e | e <;> subst e
    · exact ⟨[(.fn 93, 9), (.fn 94, 9), (.fn 95, 9)], 0, by kernel_rfl, (lc_skip (env1 := envP d a b 0 93) rfl rfl t3).trans ((lc_skip (env1 := envP d a b 0 94) rfl rfl t4).trans ((lc_skip (env1 := envP d a b 0 95) rfl rfl t5).trans rfl))⟩
    · exact ⟨[(.fn 94, 9), (.fn 95, 9), (.fn 93, 9)], 0, by kernel_rfl, (lc_skip (env1 := envP d a b 1 94) rfl rfl t4).trans ((lc_skip (env1 := envP d a b 1 95) rfl rfl t5).trans ((lc_skip (env1 := envP d a b 1 93) rfl rfl t3).trans rfl))⟩
    · exact ⟨[(.fn 95, 9), (.fn 93, 9), (.fn 94, 9)], 0, by kernel_rfl, (lc_skip (env1 := envP d a b 2 95) rfl rfl t5).trans ((lc_skip (env1 := envP d a b 2 93) rfl rfl t3).trans ((lc_skip (env1 := envP d a b 2 94) rfl rfl t4).trans rfl))⟩
  obtain ⟨l, k, i1, i2⟩ := key
  have e : (lw (f + 3)).e eLc (envL d a b r) = .ok (.lst []) 8 (envL d a b r) := by
    show (match (lw (f + 2)).it (.val (.bin .add (.sl (.var 2) (some (.var 3)) none) (.sl (.var 2) none (some (.var 3))))) (envL d a b r) with
      | .ok l env1 => (match lcGo (lw (f + 2)) [4] (.nm 4 0) [eTurn] (lcElt (lw (f + 2)) (.var 4)) l [] env1 with
        | .ok acc env2 => R.ok (.lst (acc.reverse.map (fun (z : D × Nat) => z.1))) (lstLv acc) (backS env1 env2 [4])
        | _ => .bad)
      | .ex c a env' => .ex c a env'
      | .bad => .bad) = _
    rw [i1]
    dsimp only
    rw [i2]
    rfl
  exact ⟨_, (ops_two (v := lw (f + 3)) (c := 1) rfl rfl e (show (lw (f + 3)).e (.lst []) (envL d a b r) = .ok (.lst []) 8 (envL d a b r) from rfl)).trans rfl⟩
theorem law_ev (h3 : (lw 174).cl 93 [] = .ok (.bl true) 9 []) (h4 : (lw 174).cl 94 [] = .ok (.bl true) 9 []) (h5 : (lw 174).cl 95 [] = .ok (.bl true) 9 []) (l : List Int) (n : Nat) (hn : n = 0 ∨ n = 1) (h : l.length ≤ 63) (hb : ∀ z ∈ l, z.natAbs.log2 < 3000000) : (evc md 200).cl 96 [(.lst (l.map .int), n)] = .ok (.bl true) 9 [] := law_run l n hn h hb fun d a b r hr => parts_run 174 h3 h4 h5 d a b r hr
end Eng
end

section
set_option maxRecDepth 100000
namespace Eng
theorem all_ok : pk.all = true := by kernel_rfl
end Eng
end

section
set_option linter.all false
set_option maxRecDepth 100000
namespace Eng
/-! the three parts of the law, run -/
theorem part93 : (lw 174).cl 93 [] = .ok (.bl true) 9 [] := by kernel_rfl
theorem part94 : (lw 174).cl 94 [] = .ok (.bl true) 9 [] := by kernel_rfl
theorem part95 : (lw 174).cl 95 [] = .ok (.bl true) 9 [] := by kernel_rfl
theorem law_tells (l : List Int) (n : Nat) (hn : n = 0 ∨ n = 1) (h : l.length ≤ 63) (hb : ∀ z ∈ l, z.natAbs.log2 < 3000000) : (evc md 200).cl 96 [(.lst (l.map .int), n)] = .ok (.bl true) 9 [] := law_ev part93 part94 part95 l n hn h hb
end Eng
end

section
set_option Elab.async false
set_option linter.all false
set_option maxRecDepth 100000
set_option maxHeartbeats 0
open PySem PySem.W PySem.Calls PyProof.Rows
theorem PySem.Challenge.cw_cordscrossed_k38_errors_of_smoothings_holds : PySem.Challenge.rw_cordscrossed_k38_errors_of_smoothings.Holds := by
  w_on; o_law
  refine HandSHeadRun.head_any (r := OpenLaw.row PySem.Challenge.rw_cordscrossed_k38_errors_of_smoothings) (q := view (OpenLaw.row PySem.Challenge.rw_cordscrossed_k38_errors_of_smoothings).prog [126]) (H := Eng.hkK) (ob := Eng.obK) (M := 40000) (loose := Eng.loose) (d := HandSHeadRun.topDef (OpenLaw.row PySem.Challenge.rw_cordscrossed_k38_errors_of_smoothings).prog 126) (kwd := []) Eng.obK_eq
    (by kernel_rfl) (fun s => by kernel_rfl) Eng.run_ok (by kernel_rfl) (by kernel_rfl) (by kernel_rfl) (by rfl) (by first | assumption | decide +kernel) (by decide +kernel) ⟨rfl, rfl, rfl, rfl, rfl, by decide +kernel⟩ ?hw ?hc
  case hw => w_witness2
  case hc =>
    refine LamX.walk_ofTsE (l := PySem.Challenge.rw_cordscrossed_k38_errors_of_smoothings) (n := 63) (k := 200) (x := "script") (CX := fun w => L2N.CX (PySem.Challenge.rw_cordscrossed_k38_errors_of_smoothings).prog w) rfl (by decide) (by kernel_rfl) ⟨rfl, by decide, by decide⟩ ?F (fun _ _ _ _ _ z => by
      obtain ⟨_, _, _, _, _, _, _, _, _, _, _, _, z⟩ := z
      exact z)
    intro w mg fa h Y G hmg0
    obtain ⟨K, KX, c⟩ := Y
    have hmg : mg (Eng.pk.fname 96) = some (.ref fa) := by
      have e : (HandSHeadRun.topDef (OpenLaw.row PySem.Challenge.rw_cordscrossed_k38_errors_of_smoothings).prog 126).name = Eng.pk.fname 96 := by kernel_rfl
      rw [← e]
      exact hmg0
    exact ⟨K, KX, Eng.pk.law (i := 96) (lf := Eng.f96) Eng.all_ok (by kernel_rfl) (by decide) rfl (by kernel_rfl) Eng.law_tells KX G hmg c⟩
end
