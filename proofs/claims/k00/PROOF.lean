import PyProof.Rows.All
import Wide.All
import OpenK.AllK
import Wide.FinOn
import KE.KExcSuper
import HandS.Base
import HandS.Call
import HandS.List
import HandS.Ends
import HandS.Exc
import HandS.ExcInit
import HandS.ExcField
import HandS.Defaults
import HandS.HeadHook1
import HandS.HeadHook2
import HandS.Words
import HandS.WordsExc
import HandS.ForMost
import HandS.Wide
import HandS.ForExc
import HandS.Codes
import HandS.Style
import HandS.ExcIs
import HandS.TryMany
import HandS.HotCalls
import PySem.Challenge.RW_pagecode_k00_errors_made_from_their_fiel
import KE.KStateDown
import HandS.More
import HandS.Head0
import HandS.Head1
import HandS.Head2
import HandS.HeadEnd
set_option Elab.async false
set_option linter.all false
set_option maxRecDepth 100000
set_option maxHeartbeats 4200000
/-! Sup: own exception classes over ValueError (with own classes between) whose __init__ begins with super().__init__(text) and then stores its parameters. -/
namespace PySem
namespace Sx
open PyProof.Rows PySem.HandSPX PySem.W PySem.Calls
/-- what the written part says of such a class at C, of its __init__ at f, of the cell and the code object -/
structure SupAt (prog : Program) (K : Frag) (C f cc cda : Addr) : Prop where
  code : ∃ ccl cdd vs ccs file tf, K.lookup cda = some ⟨ccl, cdd, .fields vs, ccs⟩ ∧ vs[2]? = some (.str file tf) ∧ ((prog.main.file : Str) == file) = true
  cell : ∃ cl cld csl, K.lookup cc = some ⟨cl, cld, .cell (some (.ref C)), csl⟩
  sup : ks_superIn K C C "__init__" = some (some (.builtin "ValueError.__init__"))
  ve : subIn K (.ref C) (.type "ValueError") = some true
  self : (mroIn K C (.ref C)) = (some true)
  any : nsIn K cStatics "thirdparty.any" = some none
  cls : ∃ nm q ns bs bm sn sub ab col dd j0 j1 j2 j3 j5, K.lookup C = some (excClassObj nm q C ns bs bm true sn sub ab col dd j0 j1 j2 j3 j5 "ValueError.__new__") ∧ refsVE bm = true
section
variable {prog : Program} {w : World} {A : Around} {E : Value → Shared → Prop} {s : Shared} {K : Frag} {mg mb m : Str → Option Value} {C f cc cda x t0 L : Addr}
variable {q : Str} {scope : Scope} {body : List Stmt} {fd : FuncData} {oc : Value} {od : Option Addr} {osl : Array (Option Value)} {ar : Arg}
/-- how the call super().__init__(text) is evaluated where its places are known -/
def SupEv (p0 p1 p2 p3 p4 : Pos) (j : Nat) (txt : Str) (q : Str) (scope : Scope) (pl : Sem Bool) : Prop := ∀ (L f : Addr) (cd : Value) (cc : Addr),
  eval (.Call (.Attribute (.Call (.Name "super" p0) [] [] p1) "__init__" p2) [.Constant (.str txt) j p3] [] p4) (ksEnv q scope L f cd cc) = (do
      let ov ← attributeBase (.Call (.Name "super" p0) [] [] p1) "__init__" (ksEnv q scope L f cd cc) (eval (.Call (.Name "super" p0) [] [] p1) (ksEnv q scope L f cd cc))
      standAt p2.atName
      let (fx, first) ← holding [ov] (getMethod ov "__init__" pl)
      callWith p4 fx first (backTo p4 (starEach [.Constant (.str txt) j p3] (ksEnv q scope L f cd cc))) [])
theorem first_stmt {p0 p1 p2 p3 p4 p5 : Pos} {j : Nat} {txt : Str} {Q : Flow → Shared → Prop}
    (X : K.In s.heap) (G : s.heap.Ns mainGlobals mg) (hmg : mg "super" = none) (B : s.heap.Ns builtinsNs mb) (hmb : mb "super" = some (.type "super"))
    (S : SupAt prog K C f cc cda) (hf : K.lookup f = some ⟨oc, od, .func fd, osl⟩) (hp : (fd.params.posonlyargs ++ fd.params.args).head? = some ar) (har : ar.arg = ("self" : Str))
    (hn : s.heap.Ns L m) (hv : m "self" = some (.ref x)) (hx : s.heap.get? x = some (excO C t0))
    (hks : scope.names.lookup ("super" : Str) = some .globalImplicit) (hkc : scope.names.lookup ("__class__" : Str) = some .free) (hka : scope.names.lookup ("self" : Str) = some .local) (hk : scope.kind = .function)
    (htop : (prog.main.scope.names.lookup ("super" : Str)).isSome = false) {pl : Sem Bool} (hev : SupEv p0 p1 p2 p3 p4 j txt q scope pl)
    (hq : ∀ h' tk t', (∀ b o, b ≠ x → s.heap.get? b = some o → h'.get? b = some o) → h'.get? x = some (excO C t') → Q .next { s with heap := h', toks := tk }) :
    _root_.PySem.wpAt (model prog w) A (.func body (ksEnv q scope L f (.ref cda) cc)) (exec (.Expr (.Call (.Attribute (.Call (.Name "super" p0) [] [] p1) "__init__" p2) [.Constant (.str txt) j p3] [] p4) p5) (ksEnv q scope L f (.ref cda) cc)) Q E s := by
  obtain ⟨ccl, cdd, vs, ccs, file, tf, hcode, hvs, hfile⟩ := S.code
  obtain ⟨cl, cld, csl, hcell⟩ := S.cell
  obtain ⟨nm, q', N, bs, bm, sn, sub, ab, col, dd, k0, k1, k2, k3, k5, hC, hbm⟩ := S.cls
  have hcl : clsIn K C = some { name := nm, bases := bs, mro := .ref C :: bm, ns := N, qualname := q', hasDict := true, slotNames := sn, subclasses := sub, abstract := ab, collection := col, hasDel := false } := by unfold clsIn; rw [hC] <;> rfl
  have I0 : InstAt s.heap x (excO C t0) C none := ⟨hx, rfl, rfl, trivial⟩
  have hne : x ≠ C := ks_ne X I0 hcl
  obtain ⟨hh, g, d, t, os⟩ := s
  refine ks_wpAt_Expr_any ?_ (by simp [interactive, hk])
  refine ks_wpAt_MethodCall ?_ (hev L f (.ref cda) cc)
  refine ks_wpAt_super_base (env := ksEnv q scope L f (.ref cda) cc) hks hkc (by decide) rfl (X _ _ hf) rfl hp rfl (X _ _ hcode) rfl hvs hfile htop ?_
  refine ks_loadName_global hk hks (loadGlobal_builtin (env := ksEnv q scope L f (.ref cda) cc) G hmg B hmb ⟨rfl, ?_⟩)
  refine wpAny_loadName_free hk hkc rfl ⟨_, X _ _ hcell, rfl⟩ ?_; rw [har]
  refine wpAny_loadName_local hk hka hn hv ?_
  have hD1 := X _ _ hC
  refine ks_wpAny_isType_cls hD1 rfl ⟨rfl, ?_⟩
  refine ks_wpAny_call_super hD1 rfl hx rfl (fun c e => by cases e) (looks_mroIn X S.self) (fun h1 e1 k1 => ?_)
  have X1 : K.In h1 := X.keeps k1
  have I1 : InstAt h1 x (excO C t0) C none := ⟨k1 _ _ hx, rfl, rfl, trivial⟩
  have hm := S.sup
  unfold ks_superIn at hm
  rw [hcl] at hm
  refine kxs_getMethod kxs_ValueError e1 (looks_opaque X1 S.any) (l₀ := .ref C :: bm) (fun A Q E s k q => wpAny_bind ((looks_clsIn X1 hcl) A _ E s k (wpAny_pure q))) rfl X1 hm (I1.type.andThen (looks_subIn X1 S.ve)) hne (by decide) ?_
  have he : starEach [Expr.Constant (.str txt) j p3] (ksEnv q scope L f (.ref cda) cc) = (false, eval (.Constant (.str txt) j p3) (ksEnv q scope L f (.ref cda) cc)) :: starEach [] (ksEnv q scope L f (.ref cda) cc) := by rfl
  rw [he]
  refine kxs_callWith (i := "ValueError.__init__") (x := x) (by rfl) (evalArgs_plain ?_)
  show wpAny _ _ (spliced ((false, eval (.Constant (.str txt) j p3) (ksEnv q scope L f (.ref cda) cc)) :: backTo p4 (starEach [] (ksEnv q scope L f (.ref cda) cc)))) _ _ _
  refine Calls.spliced_cons (Calls.Constant_str (Calls.spliced_nil ⟨Heap.get?_push_size _ rfl, ?_⟩))
  show wpAny _ _ (call (.ref h1.objs.size) [.str txt _]) _ _ _
  have k2 : ∀ b o, h1.get? b = some o → (h1.push (kxs_mw "ValueError.__init__" x)).get? b = some o := fun b o e => Heap.get?_push_of_some _ e
  have hx2 := k2 _ _ (k1 _ _ hx)
  have hC2 := k2 _ _ (k1 _ _ hD1)
  have hu : (h1.push (kxs_mw "ValueError.__init__" x)).get? h1.objs.size = some (kxs_mw "ValueError.__init__" x) := Heap.get?_push_size _ rfl
  refine wpAny_call (codeAny_of_tree ?_); show wpAny _ A.in1 (callAny (.ref h1.objs.size) ⟨[.str txt _], []⟩) _ _ _
  simp only [callAny]
  refine wpAny_bind (wpAny_load hu ?_); simp only [kxs_mw, show (Value.type "method-wrapper" == Value.type "method" || Value.type "method-wrapper" == Value.type "builtin_function_or_method" || Value.type "method-wrapper" == Value.type "method-wrapper") = true by decide, if_true]
  refine KFB.if_so (by decide) ?_; refine wpAny_bind (check_bound_init F.excBase_ValueError.toExcCallFacts hC2 hx2 rfl ?_)
  refine wpAny_bind (wpAny_pure (wpAny_pure ?_)); refine ⟨plainId_quiet F.excBase_ValueError.init.plain _, codeAny_builtin F.excBase_ValueError.initEntry ?_⟩
  rw [Around.under_plainId F.excBase_ValueError.init.plain _]
  refine exc_init_tree (cls := .ref C) (t0 := t0) (dv := none) (c2 := .none) (c3 := .none) (b4 := .bool false) hx2 (by rw [sizeLine_eq]; simp) (fun h3 k3 e3 _ => ?_)
  exact hq h3 _ _ (fun b o hb e => k3 b o hb (k2 b o (k1 b o e))) e3
end
end Sx
end PySem
namespace L2
open PyProof.Rows PySem.Spec PySem
/-- the scope of such an __init__ -/
structure FnScopeS (N P : List Str) (sc : Scope) : Prop where
  kind : sc.kind = .function
  co : sc.isCoroutine = false
  gen : sc.isGenerator = false
  nd : N.Nodup
  pre : N.take P.length = P
  par : ∀ x ∈ P, sc.names.lookup x = some .local
  nocell : ∀ nk ∈ sc.names, nk.2 ≠ .cell
  free : ∀ y ∈ sc.names, y.2 = .free → y.1 = ("__class__" : Str)
  ks : sc.names.lookup ("super" : Str) = some .globalImplicit
  kc : sc.names.lookup ("__class__" : Str) = some .free
abbrev envS (qual : Str) (scope : Scope) (L f : Addr) (cd : Value) (cc : Addr) : Env := PySem.W.ksEnv qual scope L f cd cc
/-- the context of its body behind the first statement -/
def cxOfS (CX : CXT) (P : Program) (w : World) (K : PySem.W.Frag) (mg : Str → Option Value) (base : Heap) (N : List Str) (qual : Str) (scope : Scope) (f : Addr) (cd : Value) (cc : Addr) (A : Around) (outer : List Env) (s : Shared) (H : Hp) (E : XK) : Cx where
  prog := P
  w := w
  K := K
  mg := mg
  base := base
  A := A.deeper (envS qual scope s.heap.objs.size f cd cc)
  N := N
  s_0 := s
  H_0 := H
  env := envS qual scope s.heap.objs.size f cd cc
  outer := outer
  stack := envS qual scope s.heap.objs.size f cd cc :: outer
  ex := []
  calm := true
  fn := fun x => !decide (x = ("__class__" : Str))
  pn := []
  xe := fun e s' => wpAny (model P w) (A.deeper (envS qual scope s.heap.objs.size f cd cc)) (leaving (envS qual scope s.heap.objs.size f cd cc) e) (fun _ s'' => CX outer H s E e s'') (fun e' s'' => CX outer H s E e' s'') s'
theorem lookup_sx {y : Str} {u : Value} : ∀ {l : List (Str × Value)}, (l.map (·.1)).Nodup → (y, u) ∈ l → l.lookup y = some u
  | [], _, h => by cases h
  | (n, v) :: r, nd, h => by
    rw [List.map_cons, List.nodup_cons] at nd; by_cases e : y = n
    · subst e
      rcases List.mem_cons.mp h with h | h
      · injection h with _ h2
        rw [h2]
        simp [List.lookup]
      · exact absurd (List.mem_map.mpr ⟨(y, u), h, rfl⟩) nd.1
    · rcases List.mem_cons.mp h with h | h
      · injection h with h1 _
        exact absurd h1 e
      · have q : (y == n) = false := by simpa using e
        simp only [List.lookup, q]
        exact lookup_sx nd.2 h
theorem fn_sup {CX : CXT} {P : Program} {w : World} {K : PySem.W.Frag} {mg : Str → Option Value} {base : Heap} {k : Nat} {f C cc cda : Addr} {name qual : Str} {params : Arguments} {rest : List Stmt} {scope : Scope} {dV kV doc pm ct oc : Value} {an od : Option Addr}
    {osl : Array (Option Value)} {N ps : List Str} {sp : Sp} {ar : Arg} {p0 p1 p2 p3 p4 p5 : Pos} {j : Nat} {txt : Str}
    (lk : K.lookup f = some ⟨oc, od, .func (PySem.W.ksFn name qual params (.Expr (.Call (.Attribute (.Call (.Name "super" p0) [] [] p1) "__init__" p2) [.Constant (.str txt) j p3] [] p4) p5 :: rest) scope dV kV doc pm an (.ref cda) ct cc), osl⟩)
    (hcd : PySem.W.codeIn K (.ref cda) qual = true) (S : FnScopeS N ps scope) (T : PySem.Sx.SupAt P K C f cc cda) (hmg : mg "super" = none)
    (hp : (params.posonlyargs ++ params.args).head? = some ar) (har : ar.arg = ("self" : Str)) (hps : ps.head? = some ("self" : Str)) (htop : (P.main.scope.names.lookup ("super" : Str)).isSome = false) {pl : Sem Bool} (hev : PySem.Sx.SupEv p0 p1 p2 p3 p4 j txt qual scope pl)
    (len : ∀ ws Hw Qw Ew, sp ws Hw Qw Ew → ws.length = ps.length)
    (hbody : ∀ (A : Around) (outer : List Env) (s : Shared) (H : Hp) (vs : List V) (Q : VK) (E : XK), Room k (A.deeper (envS qual scope s.heap.objs.size f (.ref cda) cc)) → sp vs H Q E →
      ∃ a ws t, vs = .ref a :: ws ∧ H a = some (exo a C none) ∧ PSs (cxOfS CX P w K mg base N qual scope f (.ref cda) cc A outer s H E) rest t ∧ t { nx := fun _ H' => Q .non H', rt := Q } (start N vs) H) :
    FnOk P w K mg base CX (k + 1) f (PySem.W.ksFn name qual params (.Expr (.Call (.Attribute (.Call (.Name "super" p0) [] [] p1) "__init__" p2) [.Constant (.str txt) j p3] [] p4) p5 :: rest) scope dV kV doc pm an (.ref cda) ct cc) ps sp := by
  refine ⟨len, fun A outer s H args us vs Q E hr e0 hb r hsp => ?_⟩; have hl := len _ _ _ _ hsp
  have KX : K.In s.heap := e0.mod.kin.keeps fun b o e => (e0.bs b o e).1; have lim : s.heap.NoLimit := e0.mod.nolimit.keeps fun b o e => (e0.bs b o e).1
  obtain ⟨a, ws, t, rfl, hHa, ht, hq⟩ := hbody A outer s H _ Q E (hr.deeper _) hsp
  obtain ⟨t0, hxa⟩ := exo_at e0.hok hHa
  have hps' : ∃ pr, ps = ("self" : Str) :: pr := by
    cases ps with
    | nil => cases hps
    | cons p pr => cases hps; exact ⟨pr, rfl⟩
  obtain ⟨pr, rfl⟩ := hps'
  cases r with
  | @cons _ u0 _ ur ra rw' =>
  obtain rfl : u0 = Value.ref a := ra; have hloc : ∀ y ∈ (("self" : Str) :: pr).zip (Value.ref a :: ur), scope.names.lookup y.1 = some .local := fun ⟨n, v⟩ hy => S.par n (List.of_mem_zip hy).1
  refine PySem.ks_codeAny_call_defAt (fd := PySem.W.ksFn name qual params (.Expr (.Call (.Attribute (.Call (.Name "super" p0) [] [] p1) "__init__" p2) [.Constant (.str txt) j p3] [] p4) p5 :: rest) scope dV kV doc pm an (.ref cda) ct cc)
    (body := .Expr (.Call (.Attribute (.Call (.Name "super" p0) [] [] p1) "__init__" p2) [.Constant (.str txt) j p3] [] p4) p5 :: rest) (binds := (("self" : Str) :: pr).zip (Value.ref a :: ur)) hr.depth (KX _ _ lk) rfl lim (PySem.W.codeRec_of KX hcd) rfl hb S.nocell hloc (fun h₁ hns hk₁ => ?_) S.co S.gen S.kind
  refine PySem.ks_wpAt_execs_cons ?_
  obtain ⟨mb, hB, hmb⟩ := e0.mod.blt
  have kb : ∀ b o, base.get? b = some o → h₁.get? b = some o := fun b o e => hk₁ b o ((e0.bs b o e).1)
  have ndP : (("self" : Str) :: pr).Nodup := by rw [← S.pre]; exact S.nd.sublist (List.take_sublist _ _)
  have hLa : s.heap.objs.size ≠ a := Nat.ne_of_gt (Heap.lt_size hxa)
  have hlu : (("self" : Str) :: pr).length = (Value.ref a :: ur).length := by
    have e1 := rw'.length
    have e2 : (V.ref a :: ws).length = (("self" : Str) :: pr).length := hl
    rw [← e2, List.length_cons, List.length_cons, e1]
  have hget : ∀ {i : Nat} {y : Str} {u : Value}, (("self" : Str) :: pr)[i]? = some y → (Value.ref a :: ur)[i]? = some u → ((("self" : Str) :: pr).zip (Value.ref a :: ur)).reverse.lookup y = some u := by
    intro i y u h1 h2
    have hm : (y, u) ∈ (("self" : Str) :: pr).zip (Value.ref a :: ur) := by
      refine List.mem_of_getElem? (i := i) ?_
      rw [List.getElem?_zip_eq_some]
      exact ⟨h1, h2⟩
    refine lookup_sx ?_ (List.mem_reverse.mpr hm)
    rw [List.map_reverse]
    refine (List.reverse_perm _).nodup_iff.mpr ?_
    rw [List.map_fst_zip (Nat.le_of_eq hlu)]
    exact ndP
  refine PySem.Sx.first_stmt (PySem.W.Frag.In.keeps KX hk₁) ((e0.mod.glob).keeps kb) hmg (hB.keeps kb) ((hmb _ (by decide)).trans (by first | boot_by_name | rfl | kernel_rfl)) T lk hp har hns (hget (i := 0) rfl rfl) (hk₁ _ _ hxa) S.ks S.kc (S.par _ List.mem_cons_self) S.kind htop hev (fun h' tk t' keep hx' => ?_)
  refine wpAt_of_wpAny ?_
  have ne_a : ∀ {b : Addr}, H b = none → b ≠ a := fun {b} n z => by rw [z, hHa] at n; cases n
  obtain ⟨clc, cld, csl, hcell⟩ := T.cell
  obtain ⟨oC, hbC⟩ : ∃ o, base.get? cc = some o := ⟨_, e0.mod.kin _ _ hcell⟩
  have ncc : H cc = none := (e0.bs _ _ hbC).2
  have hcc : h'.get? cc = some ⟨clc, cld, .cell (some (.ref C)), csl⟩ := keep _ _ (ne_a ncc) (hk₁ _ _ (KX _ _ hcell))
  have hLf : H s.heap.objs.size = none := e0.hok.fresh (Nat.le_refl _)
  have old : ∀ b o, b ≠ a → s.heap.get? b = some o → h'.get? b = some o := fun b o hb e => keep b o hb (hk₁ b o e)
  have hns' : h'.Ns s.heap.objs.size (fun x => ((("self" : Str) :: pr).zip (Value.ref a :: ur)).reverse.lookup x) := by
    obtain ⟨o, es, ep, ho, r⟩ := hns
    exact ⟨o, es, ep, keep _ _ hLa ho, r⟩
  have noA : ∀ b : Addr, b ∉ (cxOfS CX P w K mg base N qual scope f (.ref cda) cc A outer s H E).ex := fun b z => absurd (show b ∈ ([] : List Addr) from z) (by simp)
  have cellOnly : ∀ {y : Str} {c : Addr}, (cxOfS CX P w K mg base N qual scope f (.ref cda) cc A outer s H E).env.cells.lookup y = some c → y = ("__class__" : Str) ∧ c = cc := by
    intro y c h
    have h2 : List.lookup y [(("__class__" : Str), cc)] = some c := h
    by_cases e : y = ("__class__" : Str)
    · subst e
      simp [List.lookup] at h2
      exact ⟨rfl, h2.symm⟩
    · have q : (y == ("__class__" : Str)) = false := by simpa using e
      simp [List.lookup, q] at h2
  have hpl : (("self" : Str) :: pr).length ≤ N.length := by have := congrArg List.length S.pre; rw [List.length_take] at this; omega
  have ok : (cxOfS CX P w K mg base N qual scope f (.ref cda) cc A outer s H E).Ok := by
    refine ⟨e0.mod, S.kind, rfl, rfl, Nat.le_refl _, fun y z c h1 h2 => ?_, fun y hy => ?_, fun y c hf h => ?_, fun _ => hr.hd, Around.frames_deeper e0.frames, .inr ⟨rfl, rfl⟩, fun b z => absurd z (noA b), e0.bs, e0.bsz, fun b _ _ => noA b, fun b z => absurd z (noA b), e0.funs, e0.frf⟩
    · rw [(cellOnly h1).1, (cellOnly h2).1]
    · have hy : scope.names.lookup y = some .cell ∨ scope.names.lookup y = some .free := hy; rcases hy with hy | hy
      · exact (S.nocell _ (PySem.mem_of_lookup hy) rfl).elim
      · have e := S.free _ (PySem.mem_of_lookup hy) rfl
        refine ⟨cc, ?_⟩
        show List.lookup y [(("__class__" : Str), cc)] = some cc
        have e' : y = ("__class__" : Str) := e
        rw [e']
        simp [List.lookup]
    · have e := (cellOnly h).1
      have hf' : (!decide (y = ("__class__" : Str))) = true := hf
      rw [decide_eq_true e] at hf'
      cases hf'
  have I : Inv (cxOfS CX P w K mg base N qual scope f (.ref cda) cc A outer s H E) [] (start N (.ref a :: ws)) H ⟨h', s.gens, s.drawn, tk, s.os⟩ := by
    refine ⟨ok, rfl, e0.bare, ⟨fun b o q n _ _ => old b o (ne_a n) q, fun b o q n _ _ => ⟨o.slots, old b o (ne_a n) q⟩, fun _ _ _ n _ => n, fun b o q _ => ?_, fun _ _ q => q, fun _ _ _ q => q, fun b ps q => ⟨#[], ?_⟩⟩,
      ⟨_, hns', fun i y v h1 h2 h3 => ?_⟩, fun y c h => ?_, hLf, fun y c h => ?_, fun p hp => absurd (show p ∈ ([] : List (Addr × Obj)) from hp) (by simp), fun b u q => ?_, ?_⟩
    · by_cases hb : b = a
      · exact ⟨_, by rw [hb]; exact hx'⟩
      · exact ⟨o, old b o hb q⟩
    · have q' : H b = some (.tbl ps) := q
      show H b = some (.tbl (ps ++ #[]))
      rw [q']
      simp
    · have hi : i < (V.ref a :: ws).length := by
        unfold start at h2
        by_cases hi : i < (V.ref a :: ws).length
        · exact hi
        · rw [List.getElem?_append_right (by simpa using hi)] at h2; rw [List.getElem?_replicate] at h2
          split at h2 <;> cases h2
      have ha : (V.ref a :: ws)[i]? = some v := by
        unfold start at h2
        rw [List.getElem?_append_left (by simpa using hi), List.getElem?_map] at h2; cases e : (V.ref a :: ws)[i]? with
        | none => (rw [e] at h2; cases h2)
        | some b => rw [e] at h2; cases h2; rfl
      have rall : Vals (V.ref a :: ws) (Value.ref a :: ur) := Paired.cons (rfl : RelV (.ref a) (Value.ref a)) rw'
      obtain ⟨u, hu, rv⟩ := Vals.get rall ha
      have hpy : (("self" : Str) :: pr)[i]? = some y := by
        rw [← S.pre, List.getElem?_take_of_lt (by rw [hl] at hi; exact hi)]
        exact h1
      exact ⟨u, rv, .inl ⟨S.par y (List.mem_of_getElem? hpy), hget hpy hu⟩⟩
    · rw [(cellOnly h).2]
      exact ⟨_, _, hcc, rfl⟩
    · rw [(cellOnly h).2]
      exact ncc
    · by_cases hb : b = a
      · subst hb
        have q' : H b = some u := q
        rw [hHa] at q'
        cases q'
        exact exo_ok hx'
      · refine (e0.hok b u q).stay (fun c v hc z => old c v ?_ z) (fun _ z => z) fun _ _ z => z
        rcases hc with hc | hc
        · rw [hc]; exact hb
        · exact at_ne hHa hc exo_own
    · unfold start
      show _ = N.length
      rw [List.length_append, List.length_map, List.length_replicate]; have : (V.ref a :: ws).length = (("self" : Str) :: pr).length := hl
      omega
  refine wpAny_mono (ht.run [] _ (start N _) H _ I hq) (fun fl s' hs => ?_) fun e s' hs => hs
  have fin : ∀ {σ' : St} {H' : Hp} {v : V} {u : Value}, Inv (cxOfS CX P w K mg base N qual scope f (.ref cda) cc A outer s H E) [] σ' H' s' → RelV v u → Q v H' → CE outer P w H s Q u s' :=
    fun {_ Hz vz uz} J rz qz => ⟨vz, Hz, J.os, J.bare, J.base, J.hok, rz, qz⟩
  cases fl with
  | ret u =>
    obtain ⟨v, σ', H', J, rv, q⟩ := hs; exact fin J rv q
  | next =>
    obtain ⟨σ', H', J, q⟩ := hs; exact fin (v := V.non) (u := Value.none) J rfl q
  | brk =>
    obtain ⟨_, _, _, q⟩ := hs
    exact False.elim q
  | cont =>
    obtain ⟨_, _, _, q⟩ := hs
    exact False.elim q
end L2
namespace L2
open PyProof.Rows PySem.Spec PySem
/-! ### the end of C() without own fields -/
theorem mk_endN {X : Cx} {pins : List (Addr × Obj)} {σ : St} {H1 H2 : Hp} {Q : XK} {hp hp2 h2 : Heap} {g1 g2 : Array GenState} {d1 d2 : Drawn} {t1 t2 : Nat} {os1 os2 : OsState} {a C : Addr} (T : Raises X (.ref C)) (I1 : Inv X pins σ H1 ⟨hp, g1, d1, t1, os1⟩)
    (ha : hp.objs.size ≤ a) (k : ∀ x u, hp.get? x = some u → hp2.get? x = some u) (un : Un (frs X.stack) [] (upd H1 a (exo a C none)) H2 hp2 h2) (hok : HOk X.prog X.w H2 h2) (ho : os2 = os1) (hb : AllBare g2)
    (ea : H2 a = some (exo a C none)) (q : Q (.ref C) none (del H2 a)) : MkP X pins σ Q (.ref a) ⟨h2, g2, d2, t2, os2⟩ := by
  obtain ⟨t0, hoe⟩ := exo_at hok ea; have hn : H1 a = none := I1.hok.fresh ha
  obtain ⟨G, g1', g2'⟩ := restrict h2 fun b => decide (b ≠ a); have gk : ∀ b, b ≠ a → G.get? b = h2.get? b := fun b hb => g1' b (decide_eq_true hb)
  have ge : G.get? a = none := g2' a (by simp); have nha : ∀ {b : Addr} {o : Obj}, hp.get? b = some o → b ≠ a := fun {b o} z => Nat.ne_of_lt (Nat.lt_of_lt_of_le (Heap.lt_size z) ha); have up : ∀ {b : Addr}, b ≠ a → H1 b = none → upd H1 a (exo a C none) b = none := fun {b} hb n => by rw [upd_ne hb]; exact n
  have U : Un (frs X.stack) [] H1 (del H2 a) hp G := {
    keep := fun b o z n (hf) (hx) => by
      rw [gk b (nha z)]; exact un.keep b o (k b o z) (up (nha z) n) hf hx
    slot := fun b o z n (hf) (hx) => by
      rw [gk b (nha z)]; exact un.slot b o (k b o z) (up (nha z) n) hf hx
    free := fun b o z n hx => by
      rw [del_ne (nha z)]; exact un.free b o (k b o z) (up (nha z) n) hx
    there := fun b o z hx => by
      rw [gk b (nha z)]; exact un.there b o (k b o z) hx
    tups := fun b xs z => by
      rw [del_ne (ne_of_none z hn)]; exact un.tups b xs (by rw [upd_ne (ne_of_none z hn)]; exact z)
    frzs := fun b o v z => by
      rw [del_ne (ne_of_none z hn)]; exact un.frzs b o v (by rw [upd_ne (ne_of_none z hn)]; exact z)
    tbls := fun b ps z => by
      rw [del_ne (ne_of_none z hn)]; exact un.tbls b ps (by rw [upd_ne (ne_of_none z hn)]; exact z) }
  have hok3 : HOk X.prog X.w (del H2 a) G := fun b o z => by
    have hba : ¬ b = a := fun e => by
      rw [e, del_same] at z
      cases z
    rw [del_ne hba] at z
    have noa : ∀ {c : Addr}, H2 c = some (.own b) → c ≠ a := fun {c} hc => at_ne ea hc exo_own; exact (hok b o z).stay (fun c v hc y => by
        have hca : c ≠ a := by
          rcases hc with hc | hc
          · rw [hc]
            exact hba
          · exact noa hc
        rw [gk c hca]
        exact y)
      (fun c hc => by rw [del_ne (noa hc)]; exact hc) (fun c xs hc => by rw [del_ne (at_ne ea hc exo_tup)]; exact hc)
  have J : Inv X pins σ (del H2 a) ⟨G, g2, d2, t2, os2⟩ := I1.call' (ch := []) ho U hok3 hb (fun b z => absurd z (by simp))
  refine ⟨a, _, _, ⟨G, g2, d2, t2, os2⟩, _, .ref C, none, rfl, J, fun b o z => ?_, ge, hoe, ⟨rfl, rfl⟩, rfl, rfl, del_same, rfl, hb, T, q⟩
  by_cases hba : b = a
  · rw [hba, ge] at z
    cases z
  · exact ((gk b hba).symm).trans z
/-! ### promises of the __init__s -/
def spSup0 (C : Addr) : Sp := fun vs H Q _ => ∃ a, vs = [.ref a] ∧ H a = some (exo a C none) ∧ Q .non H
def spSup1 (C : Addr) (f : Str) : Sp := fun vs H Q _ => ∃ a v, vs = [.ref a, v] ∧ H a = some (exo a C none) ∧ ∀ d, H d = none → d ≠ a → Q .non (upd (upd H d (exd d [(f, v)])) a (exo a C (some d)))
def spSup3 (C : Addr) (f g h : Str) : Sp := fun vs H Q _ => ∃ a u v w, vs = [.ref a, u, v, w] ∧ H a = some (exo a C none) ∧
  ∀ d, H d = none → d ≠ a → Q .non (upd (upd (upd (upd H d (exd d [(f, u)])) a (exo a C (some d))) d (exd d [(g, v), (f, u)])) d (exd d [(h, w), (g, v), (f, u)]))
section
variable {X : Cx} {e : Expr} {es : List Expr} {te : TE} {ta : TA} {p pos : Pos}
theorem pe_mon (h : PE X e te) : PE X e (fun σ H Q => ∃ Q0 : VK, te σ H Q0 ∧ ∀ x H1, Q0 x H1 → Q x H1) :=
  ⟨fun pins s σ H Q I ⟨Q0, h0, hi⟩ => thn (h.run pins s σ H Q0 I h0) fun u s1 ⟨x, H1, I1, r1, q1⟩ => ⟨x, H1, I1, r1, hi x H1 q1⟩⟩
theorem pa_mon (h : PA X es ta) : PA X es (fun σ H Q => ∃ Q0 : List V → Hp → Prop, ta σ H Q0 ∧ ∀ x H1, Q0 x H1 → Q x H1) :=
  ⟨fun pos pins s σ H Q I ⟨Q0, h0, hi⟩ => thn (h.run pos pins s σ H Q0 I h0) fun u s1 ⟨x, H1, I1, r1, q1⟩ => ⟨x, H1, I1, r1, hi x H1 q1⟩⟩
theorem pmk_imp {t t' : St → Hp → XK → Prop} (h : PMk X e t) (hi : ∀ σ H Q, t' σ H Q → t σ H Q) : PMk X e t' := fun pins s σ H Q I q => h pins s σ H Q I (hi _ _ _ q)
/-- the facts of one error class of the program -/
structure SupC (K : PySem.W.Frag) (mg : Str → Option Value) (x : Str) (C fI : Addr) : Prop where
  oex : OexC K C
  iC : PySem.W.findIn K (.ref C) "__init__" = some (some (.ref fI))
  tI : PySem.W.typeIn K (.ref fI) = some (.type "function")
  gC : mg x = some (.ref C)
theorem del_upd2 {H : Hp} {a d : Addr} {o1 o2 : HO} {fs : List (Str × V)} (ha : H a = none) (hd : d ≠ a) : upd (del (upd (upd H d o1) a o2) a) d (.xd fs) = upd H d (.xd fs) := by
  funext b
  by_cases h1 : b = d
  · rw [h1, upd_same, upd_same]
  · rw [upd_ne h1, upd_ne h1]
    by_cases h2 : b = a
    · rw [h2, del_same, ha]
    · rw [del_ne h2, upd_ne h2, upd_ne h1]
/-- C(e) -/
theorem pmk_sup1 {CX : CXT} {x : Str} {C fI : Addr} {k : Nat} {fd : FuncData} {f pn : Str} (T : SupC X.K X.mg x C fI) (F1 : FnOk X.prog X.w X.K X.mg X.base CX k fI fd ["self", pn] (spSup1 C f)) (hr : Room (k + 1) X.A)
    (hb : Binds X.K fd ["self", pn] []) (hx : Passes CX X (fun _ _ _ => False)) (hg : Gl X x) (he : PE X e te) (hdb : (x == ("__debug__" : Str)) = false := by decide)
    (hs : starEach [e] X.env = (false, eval e X.env) :: starEach [] X.env := by rfl) (hpl : (backTo pos (starEach [] X.env)).any (·.1) = false := by rfl) :
    PMk X (.Call (.Name x p) [e] [] pos) (fun σ H Q => te σ H fun v H1 => ∀ d, H1 d = none → Q (.ref C) (some d) (upd H1 d (.xd [(f, v)]))) := by
  refine pmk_imp (pmk_oex T.oex T.iC T.tI F1 hr hb .nil hx hg T.gC (pa_cons (pe_mon he) pa_nil hs) hdb hs hpl) fun σ H Q q => ?_
  refine ⟨_, q, fun v H1 q1 => ⟨by simp, fun a ha => ?_⟩⟩
  refine ⟨a, v, rfl, upd_same, fun d hd hda => ⟨rfl, d, [(f, v)], upd_same, by rw [upd_ne hda]; exact upd_same, ?_, ?_⟩⟩
  · rw [upd_ne hda] at hd
    exact hd
  · have hd' : H1 d = none := by rw [upd_ne hda] at hd; exact hd
    have eq : upd (del (upd (upd (upd H1 a (exo a C none)) d (exd d [(f, v)])) a (exo a C (some d))) a) d (.xd [(f, v)]) = upd H1 d (.xd [(f, v)]) := by
      funext b
      by_cases h1 : b = d
      · rw [h1, upd_same, upd_same]
      · rw [upd_ne h1, upd_ne h1]
        by_cases h2 : b = a
        · rw [h2, del_same, ha]
        · rw [del_ne h2, upd_ne h2, upd_ne h1, upd_ne h2]
    rw [eq]
    exact q1 d hd'
/-- C(e1, e2, e3) -/
theorem pmk_sup3 {CX : CXT} {x : Str} {C fI : Addr} {k : Nat} {fd : FuncData} {f g h p1 p2 p3 : Str} {e2 e3 : Expr} {t2 t3 : TE} (T : SupC X.K X.mg x C fI) (F1 : FnOk X.prog X.w X.K X.mg X.base CX k fI fd ["self", p1, p2, p3] (spSup3 C f g h)) (hr : Room (k + 1) X.A)
    (hb : Binds X.K fd ["self", p1, p2, p3] []) (hx : Passes CX X (fun _ _ _ => False)) (hg : Gl X x) (he : PE X e te) (he2 : PE X e2 t2) (he3 : PE X e3 t3) (hdb : (x == ("__debug__" : Str)) = false := by decide)
    (hs : starEach [e, e2, e3] X.env = (false, eval e X.env) :: starEach [e2, e3] X.env := by rfl) (hpl : (backTo pos (starEach [e2, e3] X.env)).any (·.1) = false := by rfl)
    (hs2 : starEach [e2, e3] X.env = (false, eval e2 X.env) :: starEach [e3] X.env := by rfl) (hs3 : starEach [e3] X.env = (false, eval e3 X.env) :: starEach [] X.env := by rfl) :
    PMk X (.Call (.Name x p) [e, e2, e3] [] pos) (fun σ H Q => te σ H fun u H1 => t2 σ H1 fun v H2 => t3 σ H2 fun w H3 => ∀ d, H3 d = none → Q (.ref C) (some d) (upd H3 d (.xd [(h, w), (g, v), (f, u)]))) := by
  refine pmk_imp (pmk_oex T.oex T.iC T.tI F1 hr hb .nil hx hg T.gC (pa_cons (pe_mon he) (pa_cons (pe_mon he2) (pa_cons (pe_mon he3) pa_nil hs3) hs2) hs) hdb hs hpl) fun σ H Q q => ?_
  refine ⟨_, q, fun u H1 q1 => ⟨_, q1, fun v H2 q2 => ⟨_, q2, fun w H3 q3 => ⟨by simp, fun a ha => ?_⟩⟩⟩⟩
  refine ⟨a, u, v, w, rfl, upd_same, fun d hd hda => ⟨rfl, d, [(h, w), (g, v), (f, u)], ?_, upd_same, ?_, ?_⟩⟩
  · rw [upd_ne (Ne.symm hda), upd_ne (Ne.symm hda)]
    exact upd_same
  · rw [upd_ne hda] at hd
    exact hd
  · have hd' : H3 d = none := by rw [upd_ne hda] at hd; exact hd
    have eq : upd (del (upd (upd (upd (upd (upd H3 a (exo a C none)) d (exd d [(f, u)])) a (exo a C (some d))) d (exd d [(g, v), (f, u)])) d (exd d [(h, w), (g, v), (f, u)])) a) d (.xd [(h, w), (g, v), (f, u)]) = upd H3 d (.xd [(h, w), (g, v), (f, u)]) := by
      funext b
      by_cases h1 : b = d
      · rw [h1, upd_same, upd_same]
      · rw [upd_ne h1, upd_ne h1]
        by_cases h2 : b = a
        · rw [h2, del_same, ha]
        · rw [del_ne h2, upd_ne h1, upd_ne h1, upd_ne h2, upd_ne h1, upd_ne h2]
    rw [eq]
    exact q3 d hd'
/-- C() -/
theorem pmk_sup0 {CX : CXT} {x : Str} {C fI : Addr} {k : Nat} {fd : FuncData} (T : SupC X.K X.mg x C fI) (F1 : FnOk X.prog X.w X.K X.mg X.base CX k fI fd ["self"] (spSup0 C)) (hr : Room (k + 1) X.A)
    (hb : Binds X.K fd ["self"] []) (hx : Passes CX X (fun _ _ _ => False)) (hg : Gl X x) (hdb : (x == ("__debug__" : Str)) = false := by decide) :
    PMk X (.Call (.Name x p) [] [] pos) (fun σ H Q => Q (.ref C) none H) := by
  intro pins s σ H Q I h
  obtain ⟨nm, q, N, bs, bm, sn, sub, ab, col, dd, k0, k1, k2, k3, k5, hC, hbm⟩ := T.oex.cls
  refine wpAny_Call_Name_kw (ld_glob I hg T.gC ?_ hdb)
  refine PySem.W.callWith_K0 I.kIn T.oex.kC ?_
  obtain ⟨hp, g, dr, tk, os⟩ := s; have hsz : hp.objs.size ≤ hp.objs.size + 1 := Nat.le_succ _
  have hn : H (hp.objs.size + 1) = none := I.hok.fresh hsz
  have kk : ∀ b o, hp.get? b = some o → ((hp.push (PySem.W.kdv_tup [])).push (PySem.HandSPX.excO C hp.objs.size)).get? b = some o := fun b o e => Heap.get?_push_of_some _ (Heap.get?_push_of_some _ e)
  have hget : ((hp.push (PySem.W.kdv_tup [])).push (PySem.HandSPX.excO C hp.objs.size)).get? (hp.objs.size + 1) = some (PySem.HandSPX.excO C hp.objs.size) := by heap_get
  have I2 : Inv X pins σ (upd H (hp.objs.size + 1) (exo (hp.objs.size + 1) C none)) ⟨(hp.push (PySem.W.kdv_tup [])).push (PySem.HandSPX.excO C hp.objs.size), g, dr, tk, os⟩ :=
    I.laid (t' := tk) (a := hp.objs.size + 1) (o := exo (hp.objs.size + 1) C none) (h' := (hp.push (PySem.W.kdv_tup [])).push (PySem.HandSPX.excO C hp.objs.size)) kk hsz (exo_ok hget)
  have r2 : Vals [V.ref (hp.objs.size + 1)] [Value.ref (hp.objs.size + 1)] := .cons rfl .nil
  refine wpAny_call (PySem.HandSPX.call_own F.excBase_ValueError (fun Y => PySem.HandSPX.refsVE_contains Y bm hbm) (I.kIn _ _ hC) (PySem.W.looks_findIn I.kIn T.iC) (fun self => PySem.W.bind_fn I.kIn self T.tI) (by rw [sizeLine_eq]; simp)
    (codeAny_mono (F1.run _ X.stack _ _ ⟨[Value.ref (hp.objs.size + 1)], []⟩ [Value.ref (hp.objs.size + 1)] _ (fun v H2 => v = .non ∧ H2 (hp.objs.size + 1) = some (exo (hp.objs.size + 1) C none) ∧ Q (.ref C) none (del H2 (hp.objs.size + 1))) (fun _ _ _ => False) (hr.make C [] []) (I2.env0.make C [] []) (hb _ [Value.ref (hp.objs.size + 1)] I2.kIn rfl) r2
      ⟨hp.objs.size + 1, rfl, upd_same, rfl, upd_same, ?_⟩) fun r s' hq' => ?_))
  · have eq : del (upd H (hp.objs.size + 1) (exo (hp.objs.size + 1) C none)) (hp.objs.size + 1) = H := by
      funext b
      by_cases h1 : b = hp.objs.size + 1
      · rw [h1, del_same, hn]
      · rw [del_ne h1, upd_ne h1]
    rw [eq]
    exact h
  · cases r with
    | error er => exact (hx pins σ _ _ er s' I2 hq')
    | ok fl =>
      cases fl with
      | ret u =>
        obtain ⟨v, H2, os2, bare2, un2, hok2, rv, ev, ea, q2⟩ := hq'
        subst ev
        obtain ⟨h2, g2, d2, t2, os'⟩ := s'; exact ⟨rv, mk_endN (raises_own T.oex.exC T.oex.tyC) I hsz kk un2 hok2 os2 bare2 ea q2⟩
      | next => exact hq'.elim
      | brk => exact False.elim hq'
      | cont => exact hq'.elim
end
end L2
namespace Hx
open PySem PySem.Spec PyProof.Rows L2 He
/-! ### the head's facts: defs with the names of their closures, facts by names, facts of one's own -/
abbrev FnE : Type := Option (Str × Str × Arguments × FuncBody × Scope × Addr × List Str × Addr)
def fnE (K : PySem.W.Frag) (p : Str × Option Str) : FnE := match K.lookup (fAd K p) with
  | some ⟨_, _, .func fd, _⟩ => some (fd.name, fd.qualname, fd.params, fd.body, fd.scope, fd.globals, fd.closure.map (·.1), fd.builtins)
  | _ => none
structure DefE where
  at_ : Str × Option Str
  name : Str
  qual : Str
  st : Stmt
  cl : List Str := []
  dfl : List Dv := []
def DefE.val (d : DefE) : FnE := some (d.name, d.qual, defArgs d.st, .stmts (defBody d.st), defScope d.st, mainGlobals, d.cl, builtinsNs)
def DefE.dvs (K : PySem.W.Frag) (d : DefE) : List V := d.dfl.map (Dv.v K)
def DefE.ok (K : PySem.W.Frag) (d : DefE) : Bool := PySem.W.keepIn K (.ref (fAd K d.at_)) && (match K.lookup (fAd K d.at_) with
  | some ⟨_, _, .func fd, _⟩ => PySem.W.codeIn K fd.code d.qual && dflB K fd.defaults (d.dvs K)
  | _ => false)
/-- a def without closure -/
theorem DefE.funD {K : PySem.W.Frag} {d : DefE} (e : fnE K d.at_ = d.val) (c : d.ok K = true) (hc : d.cl = []) : ∃ fd, FunD K d.name d.qual (defArgs d.st) (defBody d.st) (defScope d.st) (d.dvs K) [] (fAd K d.at_) fd := by
  obtain ⟨kp, c2⟩ := ba c
  unfold fnE at e; cases q : K.lookup (fAd K d.at_) with
  | none =>
    rw [q] at c2
    cases c2
  | some o =>
    obtain ⟨oc, od, dt, osl⟩ := o
    rw [q] at c2 e
    cases dt with
    | func fd =>
      obtain ⟨n1, n2, n3, n4, n5, n6, n7, n8, n9, n10, n11, n12, n13, n14, n15⟩ := fd; have e2 : (some (n1, n2, n3, n4, n5, n6, n7.map (·.1), n15) : FnE) = some (d.name, d.qual, defArgs d.st, .stmts (defBody d.st), defScope d.st, mainGlobals, d.cl, builtinsNs) := e
      simp only [Option.some.injEq, Prod.mk.injEq] at e2; obtain ⟨h1, h2, h3, h4, h5, h6, h7, h8⟩ := e2
      rw [hc] at h7
      have h7' : n7 = [] := List.map_eq_nil_iff.mp h7
      subst h1 h2 h3 h4 h5 h6 h7' h8
      have c3 : (PySem.W.codeIn K n13 d.qual && dflB K n8 (d.dvs K)) = true := c2
      obtain ⟨k1, k3⟩ := ba c3
      exact ⟨_, ⟨oc, od, n8, n9, n10, n11, n12, n13, n14, osl, rfl, q, k1, dflB_ok k3, .inl rfl⟩, kp⟩
    | _ => cases c2
/-- an __init__ that says super() -/
theorem DefE.supD {K : PySem.W.Frag} {d : DefE} (e : fnE K d.at_ = d.val) (c : d.ok K = true) (hc : d.cl = [("__class__" : Str)]) :
    ∃ oc od osl dV kV doc pm an cdv ct cc, K.lookup (fAd K d.at_) = some ⟨oc, od, .func (PySem.W.ksFn d.name d.qual (defArgs d.st) (defBody d.st) (defScope d.st) dV kV doc pm an cdv ct cc), osl⟩ ∧ PySem.W.codeIn K cdv d.qual = true ∧ PySem.W.keepIn K (.ref (fAd K d.at_)) = true ∧ dflB K dV (d.dvs K) = true := by
  obtain ⟨kp, c2⟩ := ba c
  unfold fnE at e; cases q : K.lookup (fAd K d.at_) with
  | none =>
    rw [q] at c2
    cases c2
  | some o =>
    obtain ⟨oc, od, dt, osl⟩ := o
    rw [q] at c2 e
    cases dt with
    | func fd =>
      obtain ⟨n1, n2, n3, n4, n5, n6, n7, n8, n9, n10, n11, n12, n13, n14, n15⟩ := fd; have e2 : (some (n1, n2, n3, n4, n5, n6, n7.map (·.1), n15) : FnE) = some (d.name, d.qual, defArgs d.st, .stmts (defBody d.st), defScope d.st, mainGlobals, d.cl, builtinsNs) := e
      simp only [Option.some.injEq, Prod.mk.injEq] at e2; obtain ⟨h1, h2, h3, h4, h5, h6, h7, h8⟩ := e2
      rw [hc] at h7
      have h7' : ∃ cc, n7 = [(("__class__" : Str), cc)] := by
        cases n7 with
        | nil => cases h7
        | cons p r =>
          obtain ⟨x, cc⟩ := p
          cases r with
          | nil =>
            have h9 : [x] = [("__class__" : Str)] := h7
            injection h9 with h9 _
            exact ⟨cc, by rw [h9]⟩
          | cons _ _ => cases h7
      obtain ⟨cc, h7'⟩ := h7'
      subst h1 h2 h3 h4 h5 h6 h7' h8
      have c3 : (PySem.W.codeIn K n13 d.qual && dflB K n8 (d.dvs K)) = true := c2
      exact ⟨oc, od, osl, n8, n9, n10, n11, n12, n13, n14, cc, rfl, (ba c3).1, kp, (ba c3).2⟩
    | _ => cases c2
/-! ### the error classes -/
def clsB (K : PySem.W.Frag) (C : Addr) : Bool := match K.lookup C with
  | some ⟨.type t, _, .cls cd, sl⟩ => decide (t = "type") && ((match cd.mro with
    | .ref C' :: bm => decide (C' = C) && PySem.HandSPX.refsVE bm
    | _ => false) && (cd.hasDict && (!cd.hasDel && (match sl.toList with
    | [_, _, _, _, some (.builtin n), _] => decide (n = "ValueError.__new__")
    | _ => false))))
  | _ => false
theorem clsB_ok {K : PySem.W.Frag} {C : Addr} (h : clsB K C = true) : ∃ nm q N bs bm sn sub ab col dd k0 k1 k2 k3 k5, K.lookup C = some (excClassObj nm q C N bs bm true sn sub ab col dd k0 k1 k2 k3 k5 "ValueError.__new__") ∧ PySem.HandSPX.refsVE bm = true := by
  unfold clsB at h
  split at h
  · rename_i t dd cd sl e
    obtain ⟨h1, h⟩ := ba h
    obtain ⟨h2, h⟩ := ba h
    obtain ⟨h3, h⟩ := ba h
    obtain ⟨h4, h5⟩ := ba h
    obtain ⟨nm, bs, mro, ns, qn, hd, sn, sub, ab, col, del⟩ := cd; dsimp only at h2 h3 h4
    cases mro with
    | nil => cases h2
    | cons c0 bm =>
      cases c0 with
      | ref C' =>
        obtain ⟨h6, h7⟩ := ba (show (decide (C' = C) && PySem.HandSPX.refsVE bm) = true from h2)
        have e1 := of_decide_eq_true h6
        have e2 := of_decide_eq_true h1
        subst e1 e2
        have e3 : del = false := by simpa using h4
        subst h3 e3
        split at h5
        · rename_i k0 k1 k2 k3 n k5 e4
          have e5 := of_decide_eq_true h5; subst e5
          have e6 : sl = #[k0, k1, k2, k3, some (.builtin "ValueError.__new__"), k5] := by
            have : sl.toList.toArray = [k0, k1, k2, k3, some (.builtin "ValueError.__new__"), k5].toArray := by rw [e4]
            simpa using this
          subst e6
          exact ⟨nm, qn, ns, bs, bm, sn, sub, ab, col, dd, k0, k1, k2, k3, k5, e, h7⟩
        · cases h5
      | _ => cases h2
  · cases h
def cellB (K : PySem.W.Frag) (f C : Addr) : Bool := match K.lookup f with
  | some ⟨_, _, .func fd, _⟩ => (match fd.closure with
    | [(_, cc)] => (match K.lookup cc with
      | some ⟨_, _, .cell (some (.ref D)), _⟩ => decide (D = C)
      | _ => false)
    | _ => false)
  | _ => false
def fileB (P : Program) (K : PySem.W.Frag) (f : Addr) : Bool := match K.lookup f with
  | some ⟨_, _, .func fdt, _⟩ => (match fdt.code with
    | .ref cde => (match K.lookup cde with
      | some ⟨_, _, .fields vs, _⟩ => (match (vs[2]? : Option Value) with
        | some (Value.str file _) => ((P.main.file : Str) == file)
        | _ => false)
      | _ => false)
    | _ => false)
  | _ => false
/-- all that the written part must say of the error class x (its own fields: fs) -/
def supB (P : Program) (K : PySem.W.Frag) (x : Str) (fs : List Str) : Bool :=
  eqO (PySem.W.nsIn K mainGlobals x) (some (some (.ref (ga K x)))) && (clsB K (ga K x) && (cellB K (ma K (ga K x) "__init__") (ga K x) && (fileB P K (ma K (ga K x) "__init__") && (eqO (PySem.W.ks_superIn K (ga K x) (ga K x) "__init__") (some (some (.builtin "ValueError.__init__"))) &&
  (decide (PySem.W.subIn K (.ref (ga K x)) (.type "ValueError") = some true) && (decide (PySem.W.mroIn K (ga K x) (.ref (ga K x)) = some true) && (eqO (PySem.W.nsIn K PySem.cStatics "thirdparty.any") (some none) &&
  (eqO (PySem.W.findIn K (.ref (ga K x)) "__setattr__") (some (some (.builtin "object.__setattr__"))) && (decide (PySem.W.subIn K (.ref (ga K x)) (.type "BaseException") = some true) && (decide (PySem.W.typeIn K (.ref (ga K x)) = some (.type "type")) && (PySem.W.keepIn K (.ref (ga K x)) &&
  (eqO (PySem.W.findIn K (.ref (ga K x)) "__init__") (some (some (.ref (ma K (ga K x) "__init__")))) && (decide (PySem.W.typeIn K (.ref (ma K (ga K x) "__init__")) = some (.type "function")) && (xfB K (ga K x) && (fs.all fun f => eqO (PySem.W.findIn K (.ref (ga K x)) f) (some none))))))))))))))))
structure SupF (P : Program) (K : PySem.W.Frag) (x : Str) (fs : List Str) : Prop where
  glo : PySem.W.nsIn K mainGlobals x = some (some (.ref (ga K x)))
  cls : ∃ nm q N bs bm sn sub ab col dd k0 k1 k2 k3 k5, K.lookup (ga K x) = some (excClassObj nm q (ga K x) N bs bm true sn sub ab col dd k0 k1 k2 k3 k5 "ValueError.__new__") ∧ PySem.HandSPX.refsVE bm = true
  cell : cellB K (ma K (ga K x) "__init__") (ga K x) = true
  file : fileB P K (ma K (ga K x) "__init__") = true
  sup : PySem.W.ks_superIn K (ga K x) (ga K x) "__init__" = some (some (.builtin "ValueError.__init__"))
  ve : PySem.W.subIn K (.ref (ga K x)) (.type "ValueError") = some true
  self : PySem.W.mroIn K (ga K x) (.ref (ga K x)) = some true
  any : PySem.W.nsIn K PySem.cStatics "thirdparty.any" = some none
  sa : PySem.W.findIn K (.ref (ga K x)) "__setattr__" = some (some (.builtin "object.__setattr__"))
  exC : PySem.W.subIn K (.ref (ga K x)) (.type "BaseException") = some true
  tyC : PySem.W.typeIn K (.ref (ga K x)) = some (.type "type")
  kC : PySem.W.keepIn K (.ref (ga K x)) = true
  iC : PySem.W.findIn K (.ref (ga K x)) "__init__" = some (some (.ref (ma K (ga K x) "__init__")))
  tI : PySem.W.typeIn K (.ref (ma K (ga K x) "__init__")) = some (.type "function")
  xf : XfC K (ga K x)
  no : ∀ f ∈ fs, PySem.W.findIn K (.ref (ga K x)) f = some none
theorem supB_ok {P : Program} {K : PySem.W.Frag} {x : Str} {fs : List Str} (h : supB P K x fs = true) : SupF P K x fs := by
  unfold supB at h
  obtain ⟨h1, h⟩ := ba h
  obtain ⟨h2, h⟩ := ba h
  obtain ⟨h3, h⟩ := ba h
  obtain ⟨h4, h⟩ := ba h
  obtain ⟨h5, h⟩ := ba h
  obtain ⟨h6, h⟩ := ba h
  obtain ⟨h7, h⟩ := ba h
  obtain ⟨h8, h⟩ := ba h
  obtain ⟨h9, h⟩ := ba h
  obtain ⟨h10, h⟩ := ba h
  obtain ⟨h11, h⟩ := ba h
  obtain ⟨h12, h⟩ := ba h
  obtain ⟨h13, h⟩ := ba h
  obtain ⟨h14, h⟩ := ba h
  obtain ⟨h15, h16⟩ := ba h
  exact ⟨eqO_ok h1, clsB_ok h2, h3, h4, eqO_ok h5, of_decide_eq_true h6, of_decide_eq_true h7, eqO_ok h8, eqO_ok h9, of_decide_eq_true h10, of_decide_eq_true h11, h12, eqO_ok h13, of_decide_eq_true h14, xfB_ok h15, fun f hf => eqO_ok (List.all_eq_true.mp h16 f hf)⟩
theorem SupF.oex {P : Program} {K : PySem.W.Frag} {x : Str} {fs : List Str} (s : SupF P K x fs) : OexC K (ga K x) := ⟨s.cls, s.sa, s.exC, s.tyC, s.kC⟩
theorem SupF.supC {P : Program} {K : PySem.W.Frag} {h : Heap} {mg : Str → Option Value} {x : Str} {fs : List Str} (s : SupF P K x fs) (X : K.In h) (G : h.Ns mainGlobals mg) : SupC K mg x (ga K x) (ma K (ga K x) "__init__") :=
  ⟨s.oex, s.iC, s.tI, PySem.W.mg_of X G s.glo⟩
theorem SupF.at_ {P : Program} {K : PySem.W.Frag} {x : Str} {fs : List Str} (s : SupF P K x fs) {oc od osl} {name qual : Str} {params : Arguments} {body : List Stmt} {scope : Scope} {dV kV doc pm ct : Value} {an : Option Addr} {cc cda : Addr}
    (lk : K.lookup (ma K (ga K x) "__init__") = some ⟨oc, od, .func (PySem.W.ksFn name qual params body scope dV kV doc pm an (.ref cda) ct cc), osl⟩) : PySem.Sx.SupAt P K (ga K x) (ma K (ga K x) "__init__") cc cda := by
  have hc := s.cell
  have hf := s.file
  unfold cellB at hc
  unfold fileB at hf
  rw [lk] at hc hf
  dsimp only at hc hf
  refine ⟨?_, ?_, s.sup, s.ve, s.self, s.any, s.cls⟩
  · split at hf
    · rename_i a b vs c e
      split at hf
      · rename_i file tf e2
        exact ⟨_, _, _, _, _, _, e, e2, hf⟩
      · cases hf
    · cases hf
  · split at hc
    · rename_i a b D c e
      have e1 := of_decide_eq_true hc
      subst e1
      exact ⟨_, _, _, e⟩
    · cases hc
/-! ### the Hook -/
def asX (g : Addr → Option Obj) : Nat → List Addr
  | 0 => [mainGlobals, PySem.cStatics]
  | n + 1 => growD g (asX g n)
abbrev AlX : Type := Bool × List FnE
def obsX (fa : List Fa) (fb : List (PySem.W.Frag → Bool)) (fn : List DefE) (K : PySem.W.Frag) : AlX := ((fa.all fun f => f.ok K) && ((fb.all fun f => f K) && fn.all fun d => d.ok K), fn.map fun d => fnE K d.at_)
def valX (fn : List DefE) : AlX := (true, fn.map DefE.val)
def SaysX (fa : List Fa) (fb : List (PySem.W.Frag → Bool)) (fn : List DefE) (K : PySem.W.Frag) : Prop := obsX fa fb fn K = valX fn
def obsXG (n : Nat) (fa : List Fa) (fb : List (PySem.W.Frag → Bool)) (fn : List DefE) (g : Addr → Option Obj) : AlX := obsX fa fb fn (frG g (asX g n))
def hookX (n : Nat) (fa : List Fa) (fb : List (PySem.W.Frag → Bool)) (fn : List DefE) : PySem.W.Hook where
  α := AlX
  obs := fun s => obsXG n fa fb fn s.heap.get?
  val := fun _ => valX fn
  says := fun _ h => ∃ K : PySem.W.Frag, K.In h ∧ SaysX fa fb fn K
  of := fun _ _ eq => ⟨_, frG_in, eq⟩
  keeps := fun _ _ _ ⟨K, inK, say⟩ kp => ⟨K, PySem.W.Frag.In.keeps inK kp, say⟩
theorem obsXG_eq {n : Nat} {fa : List Fa} {fb : List (PySem.W.Frag → Bool)} {fn : List DefE} {g : Addr → Option Obj} {s : Shared} (h : ∀ a, g a = s.heap.get? a) : obsXG n fa fb fn g = (hookX n fa fb fn).obs s := by
  have e : g = s.heap.get? := funext h; rw [e] <;> rfl
section
variable {fa : List Fa} {fb : List (PySem.W.Frag → Bool)} {fn : List DefE} {K : PySem.W.Frag}
theorem SaysX.fact (c : SaysX fa fb fn K) (i : Nat) {f : Fa} (h : fa[i]? = some f := by rfl) : f.ok K = true := by
  have c1 := (ba (show ((fa.all fun f => f.ok K) && ((fb.all fun f => f K) && fn.all fun d => d.ok K)) = true from congrArg (fun z : AlX => z.1) c)).1; exact List.all_eq_true.mp c1 f (List.mem_of_getElem? h)
theorem SaysX.own (c : SaysX fa fb fn K) (i : Nat) {f : PySem.W.Frag → Bool} (h : fb[i]? = some f := by rfl) : f K = true := by
  have c1 := (ba (ba (show ((fa.all fun f => f.ok K) && ((fb.all fun f => f K) && fn.all fun d => d.ok K)) = true from congrArg (fun z : AlX => z.1) c)).2).1; exact List.all_eq_true.mp c1 f (List.mem_of_getElem? h)
theorem SaysX.okD (c : SaysX fa fb fn K) (i : Nat) {d : DefE} (h : fn[i]? = some d := by rfl) : fnE K d.at_ = d.val ∧ d.ok K = true := by
  have c2 := (ba (ba (show ((fa.all fun f => f.ok K) && ((fb.all fun f => f K) && fn.all fun d => d.ok K)) = true from congrArg (fun z : AlX => z.1) c)).2).2
  have e : fn.map (fun d => fnE K d.at_) = fn.map DefE.val := congrArg (fun z : AlX => z.2) c
  have e2 : (fn.map fun d => fnE K d.at_)[i]? = (fn.map DefE.val)[i]? := by rw [e]
  rw [List.getElem?_map, List.getElem?_map, h] at e2; exact ⟨Option.some.inj e2, List.all_eq_true.mp c2 d (List.mem_of_getElem? h)⟩
end
end Hx
namespace L2
open PyProof.Rows PySem.Spec PySem
/-! ### deep data that stand still -/
/-- what is tracked but at b is as it was -/
def KeepB (b : Addr) (H H' : Hp) : Prop := ∀ a o, a ≠ b → H a = some o → H' a = some o
theorem KeepB.refl {b : Addr} {H : Hp} : KeepB b H H := fun _ _ _ h => h
theorem KeepB.trans {b : Addr} {H H1 H2 : Hp} (x : KeepB b H H1) (y : KeepB b H1 H2) : KeepB b H H2 := fun a o n h => y a o n (x a o n h)
theorem KeepB.upd {b : Addr} {H : Hp} {o : HO} : KeepB b H (L2.upd H b o) := fun a u n h => by rw [upd_ne n]; exact h
theorem Same.keepB {b : Addr} {H H' : Hp} (h : Same H H') : KeepB b H H' := fun a o _ e => h a o e
theorem same_new {H : Hp} {p : Addr} {o : HO} (h : H p = none) : Same H (upd H p o) := fun b u e => by rw [upd_ne (ne_of_none e h)]; exact e
/-- a list or a tuple is tracked as it was -/
def Stands (H H' : Hp) : Prop := ∀ a xs, (Rd H a (.lst xs) → Rd H' a (.lst xs)) ∧ (Rd H a (.tup xs) → Rd H' a (.tup xs))
theorem Same.stands {H H' : Hp} (h : Same H H') : Stands H H' := fun a xs => ⟨fun r => r.elim (fun e => .inl (h _ _ e)) (fun ⟨o, e⟩ => .inr ⟨o, h _ _ e⟩), fun r => r.elim (fun e => .inl (h _ _ e)) (fun ⟨o, e⟩ => .inr ⟨o, h _ _ e⟩)⟩
theorem KeepB.stands {b : Addr} {H H' : Hp} {kvs : List (Key × V)} (h : KeepB b H H') (hb : H b = some (.dK kvs)) : Stands H H' := by
  intro a xs
  refine ⟨fun r => ?_, fun r => ?_⟩
  · rcases r with e | ⟨o, e⟩
    · exact .inl (h _ _ (ne_of e hb (by intro z; cases z)) e)
    · exact .inr ⟨o, h _ _ (ne_of e hb (by intro z; cases z)) e⟩
  · rcases r with e | ⟨o, e⟩
    · exact .inl (h _ _ (ne_of e hb (by intro z; cases z)) e)
    · exact .inr ⟨o, h _ _ (ne_of e hb (by intro z; cases z)) e⟩
theorem Stands.l {K : PySem.W.Frag} {H H' : Hp} {a : Addr} {xs : List V} (s : Stands H H') (h : SqL K H a xs) : SqL K H' a xs := h.elim (fun r => .inl ((s a xs).1 r)) .inr
theorem Stands.t {K : PySem.W.Frag} {H H' : Hp} {a : Addr} {xs : List V} (s : Stands H H') (h : SqT K H a xs) : SqT K H' a xs := h.elim (fun r => .inl ((s a xs).2 r)) .inr
mutual
theorem Dp.mono {K : PySem.W.Frag} {H H' : Hp} (s : Stands H H') : ∀ {v : V} {d : PyData}, Dp K H v d → Dp K H' v d
  | _, _, .non => .non
  | _, _, .bl b => .bl b
  | _, _, .int i => .int i
  | _, _, .str x => .str x
  | _, _, .lst h r => .lst (s.l h) (DpAll.mono s r)
  | _, _, .tup h r => .tup (s.t h) (DpAll.mono s r)
theorem DpAll.mono {K : PySem.W.Frag} {H H' : Hp} (s : Stands H H') : ∀ {vs : List V} {ds : List PyData}, DpAll K H vs ds → DpAll K H' vs ds
  | _, _, .nil => .nil
  | _, _, .cons h r => .cons (Dp.mono s h) (DpAll.mono s r)
end
mutual
theorem eqv_self : ∀ d : PyData, d.canLay0 = true → PyData.eqv d d = true
  | .none, _ => (by simp [PyData.eqv])
  | .bool _, _ => (by simp [PyData.eqv])
  | .int _, _ => (by simp [PyData.eqv])
  | .str _, _ => (by simp [PyData.eqv])
  | .list xs, h => by simp only [PyData.eqv]; exact eqvAll_self xs (by simpa [PyData.canLay0] using h)
  | .tuple xs, h => by simp only [PyData.eqv]; exact eqvAll_self xs (by simpa [PyData.canLay0] using h)
  | .dict _, h => by simp [PyData.canLay0] at h
theorem eqvAll_self : ∀ ds : List PyData, PyData.canLayAll0 ds = true → PyData.eqvAll ds ds = true
  | [], _ => (by simp [PyData.eqvAll])
  | d :: ds, h => by
    have h' : (d.canLay0 && PyData.canLayAll0 ds) = true := by simpa [PyData.canLayAll0] using h
    simp only [PyData.eqvAll, eqv_self d (Bool.and_eq_true_iff.mp h').1, eqvAll_self ds (Bool.and_eq_true_iff.mp h').2, Bool.and_self]
end
end L2
namespace Hx
open PySem PySem.Spec PyProof.Rows L2 He
/-- an error class of the program with its __init__, as the top has left them -/
structure InitF (P : Program) (K : PySem.W.Frag) (mg : Str → Option Value) (x qual : Str) (st : Stmt) (fs : List Str) (C fI : Addr) (fd : FuncData) : Prop where
  sup : SupC K mg x C fI
  xf : XfC K C
  no : ∀ f ∈ fs, PySem.W.findIn K (.ref C) f = some none
  fn : ∃ oc od osl kV doc pm an cda ct cc, fd = PySem.W.ksFn "__init__" qual (defArgs st) (defBody st) (defScope st) .none kV doc pm an (.ref cda) ct cc ∧ K.lookup fI = some ⟨oc, od, .func fd, osl⟩ ∧ PySem.W.codeIn K (.ref cda) qual = true ∧ PySem.Sx.SupAt P K C fI cc cda
theorem codeIn_refX {K : PySem.W.Frag} {cd : Value} {q : Str} (h : PySem.W.codeIn K cd q = true) : ∃ c, cd = .ref c := by
  cases cd with
  | ref c => exact ⟨c, rfl⟩
  | _ => cases h
section
variable {P : Program} {K : PySem.W.Frag} {h : Heap} {mg : Str → Option Value} {fa : List Fa} {fb : List (PySem.W.Frag → Bool)} {fn : List DefE}
theorem SaysX.init (c : SaysX fa fb fn K) (X : K.In h) (G : h.Ns mainGlobals mg) (i j : Nat) {x qual : Str} {st : Stmt} {fs : List Str} (hd : fn[i]? = some ⟨(x, some "__init__"), "__init__", qual, st, [("__class__" : Str)], []⟩ := by rfl)
    (hb : fb[j]? = some (fun K => supB P K x fs) := by rfl) : ∃ fd, InitF P K mg x qual st fs (ga K x) (ma K (ga K x) "__init__") fd := by
  obtain ⟨e, ok⟩ := c.okD i hd
  have s : SupF P K x fs := supB_ok (c.own j hb)
  obtain ⟨oc, od, osl, dV, kV, doc, pm, an, cdv, ct, cc, lk, hcd, _, hdf⟩ := DefE.supD e ok rfl
  obtain ⟨cda, rfl⟩ := codeIn_refX hcd
  have hdV : dV = .none := by
    cases dV with
    | none => rfl
    | _ => cases hdf
  subst hdV
  exact ⟨_, s.supC X G, s.xf, s.no, oc, od, osl, kV, doc, pm, an, cda, ct, cc, rfl, lk, hcd, s.at_ lk⟩
theorem SaysX.def_ (c : SaysX fa fb fn K) (i : Nat) {x : Str} {p : Str × Option Str} {qual : Str} {st : Stmt} {dfl : List Dv} (hd : fn[i]? = some ⟨p, x, qual, st, [], dfl⟩ := by rfl) : ∃ fd, FunD K x qual (defArgs st) (defBody st) (defScope st) (dfl.map (Dv.v K)) [] (fAd K p) fd := by
  obtain ⟨e, ok⟩ := c.okD i hd
  exact DefE.funD e ok rfl
end
end Hx
namespace PySem.W
open PyProof.Rows PySem.Calls PySem.Spec PySem
section
variable {prog : Program} {w : World} {A : Around} {E : Value → Shared → Prop} {s : Shared} {K : Frag} {x D : Addr} {ox : Obj} {od : Option Obj}
theorem sx_findObj {C : Addr} {name : Str} {a g : Value} (hc : (clsIn K C).isSome = true) (ha : findIn K (.ref C) name = some (some a)) (hg : specialIn K a "__get__" = some (some g)) (ht : takesIn K a = some true) : findObj K C od name = some (.bind g a) := by
  obtain ⟨cd, hc⟩ := Option.isSome_iff_exists.mp hc; unfold findObj
  rw [hc, Option.bind_some, ha, Option.bind_some]; simp [hg, ht]
theorem sx_classE {Q : Option Value → Shared → Prop} (T : L2.ExcC K D) (X : K.In s.heap) (I : InstAt s.heap x ox D od) (h : Q (some (.ref D)) { s with toks := s.toks + 1 }) : wpAny (model prog w) A (getAttr? (.ref x) "__class__") Q E s := by
  obtain ⟨hga, hgt, hsub, hdct, ha, hn, htk, hm⟩ := T
  have hf : findObj K D od "__class__" = some (.bind (.builtin "getset_descriptor.__get__") (.builtin "object.__class__")) := sx_findObj (by obtain ⟨cd, hc, _⟩ := any_some hdct; rw [hc]; rfl) ha hn htk
  obtain ⟨hp, g, d, t, os⟩ := s
  have l0 := I.type (M := model prog w)
  have l1 := looks_findIn (M := model prog w) X hga
  have l2 := looks_findIn (M := model prog w) X hgt
  have l3 := looks_find (M := model prog w) X I hf
  have sub : Looks (model prog w) hp (isInstance (.ref x) (.type "BaseException")) true := l0.andThen (looks_subIn X hsub)
  have e2 : (Value.builtin "BaseException.__getattribute__" == Value.builtin "object.__getattribute__") = false := by decide +kernel
  have e1 : (onTheHeap (Value.ref D) && Value.builtin "BaseException.__getattribute__" == Value.builtin "object.__getattribute__") = false := by rw [e2]; rfl
  unfold getAttr? getAttrBy? getAttrBy; refine wpAny_bind (wpAny_mkText (wpAny_bind (wpAny_attempt (wpAny_holding (wpAny_bind (l0.at (wpAny_bind (l1.at ?_))))))))
  show wpAny _ _ (if (onTheHeap (Value.ref D) && Value.builtin "BaseException.__getattribute__" == Value.builtin "object.__getattribute__") = true then _ else _) _ _ _; rw [e1, if_neg Bool.false_ne_true]
  unfold getAttrByItsOwn hookBefore; refine wpAny_bind ?_
  rw [if_pos (show onTheHeap (Value.ref D) = true from rfl)]; refine l2.at ?_
  refine wpAny_bind (wpAny_attempt (wpAny_holding ?_)); unfold callGetattribute
  rw [show (false && onTheHeap (Value.builtin "BaseException.__getattribute__")) = false from rfl, if_neg Bool.false_ne_true]
  unfold boundAndCalled
  rw [PySem.F.excAttr_ValueError.ga.bind (.ref x)]; refine wpAny_bind (wpAny_pure ?_)
  show wpAny _ _ (call (.builtin "BaseException.__getattribute__") [.ref x, .str "__class__" t]) _ _ _; refine wpAny_call (codeAny_call_builtin PySem.F.excAttr_ValueError.ga.plain PySem.F.entry_bexc_ga ?_)
  refine @check_slot (model prog w) _ _ ⟨hp, g, d, t + 1, os⟩ "BaseException.__getattribute__" "BaseException" "__getattribute__" (.ref x) [.str "__class__" t] [] _ (by decide +kernel) (by decide +kernel) sub (PySem.F.args_bexc_ga (.ref x) (.str "__class__" t)) ?_; unfold Builtin.«object.__getattribute__»
  refine wpAny_bind (wpAny_of_eq (a := ((Value.ref x : Value), [Value.str "__class__" t])) (by first | rfl | (simp only [slotArgs]; rfl)) ?_); refine wpAny_bind (wpAny_pure (wpAny_bind (l0.at (wpAny_bind (l3.at ?_)))))
  show wpAny _ _ (holding [Value.builtin "object.__class__"] (call (.builtin "getset_descriptor.__get__") [.builtin "object.__class__", .ref x, .ref D]) >>= ret) _ _ _; refine wpAny_bind (wpAny_holding (wpAny_call (class_get (s := ⟨hp, g, d, t + 1, os⟩) (ox := ox) (od := od) X I hm ?_)))
  refine wpAny_pure ?_
  show wpAny _ _ (handedOut (.ref D)) _ _ _; rw [handedOut_of (v := .ref D) rfl]
  first
    | exact wpAny_pure <| wpAny_pure h
    | exact wpAny_pure h
    | exact wpAny_pure <| wpAny_bind <| wpAny_pure <| wpAny_pure h
theorem sx_kitx (T : L2.ExcC K D) : KitX K (.ref x) (.ref D) (fun h => InstAt h x ox D od) where
  ty := fun _ _ _ I => I.type
  it := fun _ _ X _ => by
    obtain ⟨cdD, hcD, _⟩ := any_some T.hd
    unfold clsIn at hcD
    split at hcD
    · rename_i c' d' cd' sl' ho
      intro A' Q' E' s' k q
      unfold isType loadHead; exact wpAny_bind (wpAny_loadPart (k _ _ (X _ _ ho)) (wpAny_pure q))
    · cases hcD
  ne := fun hp tp dd its n sl X htp => by
    obtain ⟨cdD, hcD, _⟩ := any_some T.hd
    refine Bool.eq_false_iff.mpr fun q => ?_; have e : D = tp := Value.ref.inj (beq_iff_eq.mp q)
    subst e
    unfold clsIn at hcD
    split at hcD
    · rename_i c' d' cd' sl' ho
      have z := (X _ _ ho).symm.trans htp; cases z
    · cases hcD
  ca := fun X I k => sx_classE T X I k
end
end PySem.W
namespace L2
open PyProof.Rows PySem.Spec PySem
/-! ### a caught exception, tracked -/
/-- at a: an exception of the class cls, its dict at d -/
def excE (a : Addr) (cls : Value) (d : Option Addr) : HO := .ext fun h => ∃ oe vs, h.get? a = some oe ∧ Zc cls d oe ∧ oe.data = .fields vs
theorem excE_ok {P : Program} {w : World} {H : Hp} {h : Heap} {a : Addr} {cls : Value} {d : Option Addr} {oe : Obj} {vs : Array Value} (he : h.get? a = some oe) (hz : Zc cls d oe) (hd : oe.data = .fields vs) : ObjOk P w H h a (excE a cls d) :=
  ⟨⟨oe, vs, he, hz, hd⟩, ⟨_, he⟩, fun h1 h2 z k => by
    obtain ⟨o, v, q1, q2, q3⟩ := z
    exact ⟨o, v, k _ q1, q2, q3⟩⟩
theorem excE_at {P : Program} {w : World} {H : Hp} {h : Heap} {a : Addr} {cls : Value} {d : Option Addr} (hok : HOk P w H h) (he : H a = some (excE a cls d)) : ∃ oe vs, h.get? a = some oe ∧ Zc cls d oe ∧ oe.data = .fields vs := by
  have x : ObjOk P w H h a (.ext fun h => ∃ oe vs, h.get? a = some oe ∧ Zc cls d oe ∧ oe.data = .fields vs) := hok a _ he
  exact x.1
theorem Inv.track {X : Cx} {pins : List (Addr × Obj)} {σ : St} {H : Hp} {s : Shared} {a : Addr} {o : HO} (I : Inv X pins σ H s) (na : H a = none) (ha0 : X.s_0.heap.get? a = none) (nL : a ≠ X.env.locals) (nC : ∀ x c, X.env.cells.lookup x = some c → c ≠ a) (nP : ∀ p ∈ X.pn ++ pins, p.1 ≠ a)
    (new : ObjOk X.prog X.w (upd H a o) s.heap a o) : Inv X pins σ (upd H a o) s := by
  have n0 : ∀ b u, X.s_0.heap.get? b = some u → b ≠ a := fun b u e z => by rw [z, ha0] at e; cases e
  have nh : ∀ b u, H b = some u → b ≠ a := fun b u e z => by rw [z, na] at e; cases e
  refine ⟨I.ok, I.os, I.bare, ⟨I.base.keep, I.base.slot, fun b u e n hx => ?_, I.base.there, fun b xs e => ?_, fun b u v e => ?_, fun b ps e => ?_⟩, I.loc, I.cell, ?_, fun y c e => ?_, fun p hp => ?_, fun b u e => ?_, I.len⟩
  · rw [upd_ne (n0 b u e)]
    exact I.base.free b u e n hx
  · have q := I.base.tups b xs e; rw [upd_ne (nh b _ q)]
    exact q
  · have q := I.base.frzs b u v e
    rw [upd_ne (nh b _ q)]
    exact q
  · obtain ⟨m, q⟩ := I.base.tbls b ps e; exact ⟨m, by rw [upd_ne (nh b _ q)]; exact q⟩
  · rw [upd_ne (Ne.symm nL)]
    exact I.free
  · rw [upd_ne (nC y c e)]
    exact I.freeC y c e
  · obtain ⟨p1, p2, p3, p4, p5⟩ := I.pin p hp
    exact ⟨p1, by rw [upd_ne (nP p hp)]; exact p2, p3, p4, p5⟩
  · by_cases hb : b = a
    · subst hb
      rw [upd_same] at e
      cases e
      exact new
    · rw [upd_ne hb] at e
      exact (I.hok b u e).stay (fun _ _ _ q => q) (fun c q => by rw [upd_ne (nh c _ q)]; exact q) fun c xs q => by rw [upd_ne (nh c _ q)]; exact q
/-- the context of a suite that holds the exception at a, tracked -/
abbrev Cx.suiteT (X : Cx) (a : Addr) (pn : List (Addr × Obj)) : Cx := { X with A := X.A.mark (some (.ref a)), calm := false, pn := pn, xe := fun _ _ => False }
theorem Inv.suiteT {X : Cx} {pins : List (Addr × Obj)} {σ : St} {H : Hp} {s : Shared} (I : Inv X pins σ H s) (a : Addr) : Inv (X.suiteT a (X.pn ++ pins)) [] σ H s :=
  ⟨I.ok.suite a (X.pn ++ pins), I.os, I.bare, I.base, I.loc, I.cell, I.free, I.freeC, fun p hp => I.pin p (by rw [List.append_nil] at hp; exact hp), I.hok, I.len⟩
theorem Inv.unsuiteT {X : Cx} {pins pn' : List (Addr × Obj)} {σ : St} {H : Hp} {s : Shared} {a : Addr} (I : Inv (X.suiteT a (X.pn ++ pins)) pn' σ H s) (ok : X.Ok) : Inv X pins σ H s :=
  ⟨ok, I.os, I.bare, I.base, I.loc, I.cell, I.free, I.freeC, fun pq hq => I.pin pq (List.mem_append_left _ hq), I.hok, I.len⟩
abbrev Clause := Value × Option Nat × (Addr → TS)
def wAll (K : PySem.W.Frag) (Wout : WX) (D : Ends) : List Clause → WX
  | [] => Wout
  | (c, some i, ts) :: r => fun cls d σ H => ∃ b, PySem.W.exmOne K cls c = some b ∧
      (b = true → ∀ a, H a = none → ts a { nx := fun σ' H' => D.nx (σ'.set i none) H', rt := D.rt, bk := fun σ' H' => D.bk (σ'.set i none) H', ct := fun σ' H' => D.ct (σ'.set i none) H' } (σ.set i (some (.ref a))) (upd H a (excE a cls d))) ∧ (b = false → wAll K Wout D r cls d σ H)
  | (c, none, ts) :: r => fun cls d σ H => ∃ b, PySem.W.exmOne K cls c = some b ∧ (b = true → ∀ a, H a = none → ts a D σ (upd H a (excE a cls d))) ∧ (b = false → wAll K Wout D r cls d σ H)
inductive HdsA (X : Cx) : List ExceptHandler → List Clause → Prop
  | nil : HdsA X [] []
  | only {x : Str} {c : Value} {ts : Addr → TS} {b₀ : Stmt} {suite : List Stmt} {np pos' : Pos} {hds : List ExceptHandler} {l : List Clause} (hc : Names X x c)
      (hsu : ∀ (a : Addr) (pn : List (Addr × Obj)), PSs (X.suiteT a pn) (b₀ :: suite) (ts a)) (r : HdsA X hds l) :
      HdsA X (.ExceptHandler (some (.Name x np)) none (b₀ :: suite) pos' :: hds) ((c, none, ts) :: l)
  | as_ {x n : Str} {c : Value} {i : Nat} {ts : Addr → TS} {b₀ : Stmt} {suite : List Stmt} {np pos' : Pos} {hds : List ExceptHandler} {l : List Clause} (hc : Names X x c) (hi : X.N[i]? = some n) (hln : X.env.kindOf n = some .local)
      (hsu : ∀ (a : Addr) (pn : List (Addr × Obj)), PSs (X.suiteT a pn) (b₀ :: suite) (ts a)) (r : HdsA X hds l) :
      HdsA X (.ExceptHandler (some (.Name x np)) (some n) (b₀ :: suite) pos' :: hds) ((c, some i, ts) :: l)
section
variable {X : Cx} {body : List Stmt} {h₀ : ExceptHandler} {hds : List ExceptHandler} {l : List Clause} {pos : Pos} {tb : WX → TS} {Wout : WX}
theorem ps_try_all (hs : X.stack = X.env :: X.outer) (hf : X.env.frame = some X.env.locals) (hN : X.N.Nodup) (hex : X.ex = []) (tk : Takes X Wout)
    (hb : ∀ (W : WX) (pq : List (Addr × Obj)) (xe : Value → Shared → Prop), Takes (X.tr pq xe) W → PassesOwn (model X.prog X.w) X.A X.env xe → PSs (X.tr pq xe) body (tb W))
    (hh : HdsA X (h₀ :: hds) l) : PS X (.Try body (h₀ :: hds) [] [] pos) (fun D σ H => tb (wAll X.K Wout D l) D σ H) := by
  refine ⟨fun pins s σ H D I h => ?_⟩; have ok := I.ok; have hfr : X.A.frames = some (X.env :: X.outer) := by rw [ok.frames, hs]
  refine wpAny_Try_except ?_
  refine wpAny_mono ((hb (wAll X.K Wout D l) (X.pn ++ pins) (fun e s₁ => wpAny (model X.prog X.w) X.A (noteFrame e X.env) (fun _ s₂ => wpAny (model X.prog X.w) X.A (setFlight e none) (fun _ s₃ =>
    wpAny (model X.prog X.w) X.A (handleBy e X.env (h₀ :: hds)) (SP X pins D) X.xe s₃) X.xe s₂) X.xe s₁) (fun u s' xx => ?_) PassesOwn.looking).run [] s σ H D (I.toTry _) h) (fun f s1 hsp => ?_) (fun _ _ he => he)
  · -- the catch
    obtain ⟨a, B, sI, pins', σ', H', cls, d, rfl, J', nb, up, sky, na, os, ag, w⟩ := xx; have J : Inv X pins σ' H' sI := J'.ofTry ok; have sky' : Sky B (X.env :: X.outer) a (Zc cls d) X.env.locals s'.heap := by rw [← hs]; exact sky
    show wpAny (model X.prog X.w) X.A (noteFrame (.ref a) X.env) _ _ _; refine Sky.land Zc.steady hfr hf sky' fun h3 fl3 up3 => ?_
    have J3 : Inv X pins σ' H' { s' with heap := h3 } := J.landed nb fl3.1 (up.trans up3) os ag; obtain ⟨oe3, vs3, he3, hz3, hd3⟩ := fl3.there; have notFr : ∀ {h : Heap} {o : Obj} {vs : Array Value}, h.FunFrames B (X.env :: X.outer) → h.get? a = some o → o.data = .fields vs → a ∉ frs (X.env :: X.outer) := fun {h o vs} ff e dd hm => by
      obtain ⟨_, o', e', hnf⟩ := ff.mem hm; rw [e] at e'; cases e'
      exact hnf _ dd
    have nfr := notFr fl3.2.2.1 he3 hd3; have nL : a ≠ X.env.locals := fun z => nfr (List.mem_filterMap.mpr ⟨X.env, List.mem_cons_self, by rw [hf, z]⟩)
    have nF : a ∉ X.fs := fun (hm) => by
      obtain ⟨e, he, q⟩ := List.mem_filterMap.mp hm; exact nfr (List.mem_filterMap.mpr ⟨e, List.mem_cons_of_mem _ he, q⟩)
    have S3 := J3.suite he3 hd3 na nL nF; have baN : B.get? a = none := fl3.2.1
    have sIn : sI.heap.get? a = none := by
      cases q : sI.heap.get? a with
      | none => rfl
      | some o =>
        have z := nb a o q (by rw [hs]; exact nfr)
        rw [baN] at z
        cases z
    have ha0 : X.s_0.heap.get? a = none := by
      cases q : X.s_0.heap.get? a with
      | none => rfl
      | some o =>
        obtain ⟨o', q'⟩ := J.base.there a o q (by rw [hex]; simp)
        rw [sIn] at q'
        cases q'
    have nP : ∀ p ∈ X.pn ++ pins, p.1 ≠ a := fun p hp z => by
      obtain ⟨q, _⟩ := J.pin p hp
      rw [z, sIn] at q
      cases q
    have nC : ∀ x c, X.env.cells.lookup x = some c → c ≠ a := fun x c e z => by
      obtain ⟨v, o, q, _⟩ := J.cell x c e
      rw [z, sIn] at q
      cases q
    have LT : PySem.W.Looks (model X.prog X.w) h3 (typeOf (.ref a)) cls := fun A Q E s k q => wpAny_typeOf_ref (k _ _ he3) (by rw [hz3.1]; exact q); have testOf : ∀ {x : Str} {c : Value} {np : Pos}, Names X x c → ∀ {Q : Value → Shared → Prop} {E : Value → Shared → Prop}, Q c { s' with heap := h3 } → wpAny (model X.prog X.w) (X.A.mark (some (.ref a))) (eval (.Name x np) X.env) Q E { s' with heap := h3 } := by
      intro x c np hc Q E q; obtain ⟨hg, hdbg, hm | ⟨hm, hv, hnn⟩⟩ := hc
      · exact (ld_glob (X := X.suite a ((a, oe3) :: (X.pn ++ pins))) S3 hg hm q hdbg)
      · exact (ld_blt (X := X.suite a ((a, oe3) :: (X.pn ++ pins))) S3 hg hm hv q hnn hdbg)
    have go : ∀ {hds' : List ExceptHandler} {l' : List Clause}, HdsA X hds' l' → wAll X.K Wout D l' cls d σ' H' →
        (wpAny (model X.prog X.w) X.A (handleBy (.ref a) X.env hds') (SP X pins D) X.xe { s' with heap := h3 }) := by
      intro hds' l' hk
      induction hk with
      | nil =>
        intro w
        refine wpAny_handleBy_nil ?_
        obtain ⟨k1, k2, k3, oe, vs, T, oT, ts', he, hz, hd, h1, hr⟩ := id fl3; unfold PySem.passOn
        refine wpAny_bind (wpAny_field he hd h1 ?_); rw [if_neg (show ¬ ((Value.ref T == Value.none) = true) from by simp)]
        have fin : (wpAny (model X.prog X.w) X.A (setFlight (.ref a) X.env.frame) (fun _ s4 => wpAny (model X.prog X.w) X.A (throw (.ref a) : Sem Flow) (SP X pins D) X.xe s4) X.xe { s' with heap := h3 }) := by
          rw [hf]
          refine HandSPX.setFlight_upZ fl3 fun h4 hh4 up4 => wpAny_throw (tk _ _ ?_); exact ⟨a, B, sI, pins, σ', H', cls, d, rfl, J, nb, (up.trans up3).trans up4, .inr (.inr (by rw [hs]; exact hh4)), na, os, ag, w⟩
        first
          | exact wpAny_bind <| wpAny_pure <| wpAny_bind fin
          | exact wpAny_bind fin
      | @only x c ts b₀ suite np pos' hds2 l2 hc hsu r ih =>
        intro w
        obtain ⟨b, hb1, hyes, hno⟩ := w; refine wpAny_handleBy_cons (codeAny_handlers_test ?_) (by intro q; cases q)
        have LM := PySem.W.exm_one (M := model X.prog X.w) (J3.kIn) LT hb1; refine testOf hc (LM.here ?_)
        cases b with
        | true =>
          refine codeAny_handlers_suite ?_; refine HandSPX.lands_againZ fl3 fun h4 fl4 up4 => ?_
          have J4 : Inv X pins σ' H' { s' with heap := h4 } := J.landed nb fl4.1 ((up.trans up3).trans up4) os ag; obtain ⟨oe4, vs4, he4, hz4, hd4⟩ := fl4.there
          have S4 := (J4.track na ha0 nL nC nP (excE_ok he4 hz4 hd4)).suiteT a
          refine wpAny_mono ((hsu a (X.pn ++ pins)).run [] _ _ _ _ S4 (hyes rfl a na)) (fun f s6 hsp => ?_) (fun _ _ z => False.elim z)
          cases f with
          | next =>
            obtain ⟨σ6, H6, S6, q6⟩ := hsp; exact ⟨_, _, S6.unsuiteT ok, q6⟩
          | brk =>
            obtain ⟨σ6, H6, S6, q6⟩ := hsp; exact ⟨_, _, S6.unsuiteT ok, q6⟩
          | cont =>
            obtain ⟨σ6, H6, S6, q6⟩ := hsp; exact ⟨_, _, S6.unsuiteT ok, q6⟩
          | ret u =>
            obtain ⟨v6, σ6, H6, S6, r6, q6⟩ := hsp; exact ⟨_, _, _, S6.unsuiteT ok, r6, q6⟩
        | false =>
          show wpAny _ X.A (handleBy (.ref a) X.env hds2) _ _ _; exact ih (hno rfl)
      | @as_ x n c i ts b₀ suite np pos' hds2 l2 hc hi hln hsu r ih =>
        intro w
        obtain ⟨b, hb1, hyes, hno⟩ := w; have hloc : Loc X.env.scope n := .inl hln
        refine wpAny_handleBy_cons (codeAny_handlers_test ?_) (by intro q; cases q); have LM := PySem.W.exm_one (M := model X.prog X.w) (J3.kIn) LT hb1
        refine testOf hc (LM.here ?_)
        cases b with
        | true =>
          refine codeAny_handlers_suite_as ?_; refine HandSPX.lands_againZ fl3 fun h4 fl4 up4 => ?_
          have J4 : Inv X pins σ' H' { s' with heap := h4 } := J.landed nb fl4.1 ((up.trans up3).trans up4) os ag; obtain ⟨oe4, vs4, he4, hz4, hd4⟩ := fl4.there
          have S4 := (J4.track na ha0 nL nC nP (excE_ok he4 hz4 hd4)).suiteT a
          refine store_ok (X := X.suiteT a (X.pn ++ pins)) (v := .ref a) S4 hN hi hloc rfl (fun s5 S5 => ?_) (.inr hln)
          refine wpAny_mono ((hsu a (X.pn ++ pins)).run [] s5 _ _ _ S5 (hyes rfl a na)) (fun f s6 hsp => ?_) (fun _ _ z => False.elim z)
          have end_ : ∀ {σ6 : St} {H6 : Hp} {Q : Shared → Prop}, Inv (X.suiteT a (X.pn ++ pins)) [] σ6 H6 s6 → (∀ s7, Inv X pins (σ6.set i none) H6 s7 → Q s7) →
              wpAny (model X.prog X.w) X.A (do bindName X.env n .none; unbindBehindTheSuite X.env n pos') (fun _ s7 => Q s7) X.xe s6 := fun {σ6 H6 Q} S6 hq => gone_ok (S6.unsuiteT ok) hN hi hln hq
          cases f with
          | next =>
            obtain ⟨σ6, H6, S6, q6⟩ := hsp; exact end_ S6 fun s7 J7 => ⟨_, _, J7, q6⟩
          | brk =>
            obtain ⟨σ6, H6, S6, q6⟩ := hsp; exact end_ S6 fun s7 J7 => ⟨_, _, J7, q6⟩
          | cont =>
            obtain ⟨σ6, H6, S6, q6⟩ := hsp; exact end_ S6 fun s7 J7 => ⟨_, _, J7, q6⟩
          | ret u =>
            obtain ⟨v6, σ6, H6, S6, r6, q6⟩ := hsp; exact end_ S6 fun s7 J7 => ⟨_, _, _, J7, r6, q6⟩
        | false =>
          show wpAny _ X.A (handleBy (.ref a) X.env hds2) _ _ _; exact ih (hno rfl)
    exact go hh w
  · cases f with
    | next =>
      obtain ⟨σ', H', J', q⟩ := hsp; exact wpAny_execs_nil ⟨σ', H', J'.ofTry ok, q⟩
    | brk =>
      obtain ⟨σ', H', J', q⟩ := hsp; exact ⟨σ', H', J'.ofTry ok, q⟩
    | cont =>
      obtain ⟨σ', H', J', q⟩ := hsp; exact ⟨σ', H', J'.ofTry ok, q⟩
    | ret u =>
      obtain ⟨v, σ', H', J', r, q⟩ := hsp; exact ⟨v, σ', H', J'.ofTry ok, r, q⟩
end
theorem takes_noX {X : Cx} : Takes X (fun _ _ _ _ => False) := fun _ _ ⟨_, _, _, _, _, _, _, _, _, _, _, _, _, _, _, _, w⟩ => w.elim
/-! ### in a suite, and wherever such an exception is held -/
/-- e.f -/
def tXfT (K : PySem.W.Frag) (f : Str) (te : TE) : TE := fun σ H Q => te σ H fun x H1 => ∃ (a C d : Addr) (fs : List (Str × V)) (v : V), x = .ref a ∧ H1 a = some (excE a (.ref C) (some d)) ∧ H1 d = some (.xd fs) ∧ XfC K C ∧ PySem.W.findIn K (.ref C) f = some none ∧ fs.lookup f = some v ∧ Q v H1
theorem pe_xfT {X : Cx} {e : Expr} {te : TE} {pos : Pos} {n : Str} (he : PE X e te) (hb : attributeBase e n X.env (eval e X.env) = eval e X.env := by rfl) : PE X (.Attribute e n pos) (tXfT X.K n te) := by
  refine ⟨fun pins s σ H Q I h => ?_⟩; refine attr_of hb (thn (he.run pins s σ H _ I h) fun u s1 hh => ?_)
  obtain ⟨x, H1, I1, rx, a, C, dd, fs, v, ex, ea, ed, T, hno, l, q⟩ := hh
  subst ex
  obtain rfl : u = Value.ref a := rx; obtain ⟨oe, vs, ha, hz, hd⟩ := excE_at I1.hok ea
  have hx : ObjOk X.prog X.w H1 s1.heap dd (.xd fs) := I1.hok dd _ ed
  obtain ⟨mA, hns, hr⟩ := hx
  obtain ⟨od, ho, hl⟩ := lookIn_ns hns; obtain ⟨u, hu, ru⟩ := RelO.some_of (v := v) (o := mA n) (by rw [← l]; exact hr n); have J : PySem.W.InstAt s1.heap a oe C (some od) := ⟨ha, hz.1, by unfold PySem.W.notCls; rw [hd] <;> rfl, by rw [hz.2]; exact ho⟩
  exact HandSPX.exc_get I1.kIn J T.ga T.gg T.exC (PySem.W.findObj_own T.hdC hno rfl (by rw [hl, hu])) (handed_of ru) (⟨v, H1, I1.tok _, ru, q⟩)
/-- isinstance(e, c) -/
def rIsT (K : PySem.W.Frag) : List V → Hp → VK → Prop := fun xs H Q => ∃ (a D : Addr) (d : Option Addr) (c : V) (cv : Value) (b : Bool), xs = [.ref a, c] ∧ H a = some (excE a (.ref D) d) ∧ (∀ dd, d = some dd → ∃ fs, H dd = some (.xd fs)) ∧ ExcC K D ∧ (∀ u, RelV c u → u = cv) ∧ PySem.W.kitOne K (.ref D) cv = some b ∧ Q (.bl b) H
theorem call_isT {X : Cx} : CallR X (.builtin "isinstance") (rIsT X.K) := by
  intro pins s σ H xs us Q I r h; obtain ⟨a, D, d, c, cv, b, rfl, ha, hd, C, hcv, e, q⟩ := h
  cases r with
  | cons rx rr =>
    cases rr with
    | cons rt rr =>
      cases rr
      cases rx
      have ec := hcv _ rt
      subst ec
      obtain ⟨oe, vs, hget, hz, hv⟩ := excE_at I.hok ha
      have J : ∃ od, PySem.W.InstAt s.heap a oe D od := by
        cases d with
        | none => exact ⟨none, hget, hz.1, by unfold PySem.W.notCls; rw [hv] <;> rfl, by rw [hz.2]; trivial⟩
        | some dd =>
          obtain ⟨fs, hx⟩ := hd dd rfl
          have hx' : ObjOk X.prog X.w H s.heap dd (.xd fs) := I.hok dd _ hx
          obtain ⟨mA, hns, hr⟩ := hx'
          obtain ⟨od, ho, hl⟩ := lookIn_ns hns; exact ⟨some od, hget, hz.1, by unfold PySem.W.notCls; rw [hv] <;> rfl, by rw [hz.2]; exact ho⟩
      obtain ⟨od, J⟩ := J
      exact PySem.W.kia_one (PySem.W.sx_kitx C) I.kIn J e (fun z => nomatch z) fun tk => ⟨.bl b, H, I.kept (t' := tk) fun _ _ z => z, rfl, q⟩
end L2
namespace L2
open PyProof.Rows PySem.Spec PySem
/-! ### defs that are called while an exception is handled -/
/-- such a def's body's context: not calm -/
def cxW (CX : CXT) (P : Program) (w : World) (K : PySem.W.Frag) (mg : Str → Option Value) (base : Heap) (N : List Str) (qual : Str) (scope : Scope) (f : Addr) (cd : Value) (A : Around) (outer : List Env) (s : Shared) (H : Hp) (E : XK) : Cx :=
  { cxOf CX P w K mg base N qual scope f cd A outer s H E with calm := false }
structure FnW (P : Program) (w : World) (K : PySem.W.Frag) (mg : Str → Option Value) (base : Heap) (CX : CXT) (k : Nat) (f : Addr) (fd : FuncData) (ps : List Str) (sp : Sp) : Prop where
  arity : ∀ vs H Q E, sp vs H Q E → vs.length = ps.length
  goes : ∀ (A : Around) (outer : List Env) (s : Shared) (H : Hp) (args : Args) (us : List Value) (vs : List V) (Q : VK) (E : XK), L2H.RoomH k A → Env0 P w K mg base A outer s H → BindsTo s fd args (ps.zip us) → Vals vs us → sp vs H Q E →
    (codeAny (model P w) A (.call (.ref f) args) (CR CX outer P w H s Q E) s)
theorem env0_unmark {P : Program} {w : World} {K : PySem.W.Frag} {mg : Str → Option Value} {base : Heap} {A : Around} {outer : List Env} {s : Shared} {H : Hp} (e : Env0 P w K mg base A outer s H) : Env0 P w K mg base { A with handled := none } outer s H :=
  ⟨e.frames, e.mod, e.bs, e.bsz, e.funs, e.frf, e.hok, e.bare⟩
theorem warm_start {CX : CXT} {P : Program} {w : World} {K : PySem.W.Frag} {mg : Str → Option Value} {base : Heap} {N ps : List Str} {qual : Str} {scope : Scope} {f : Addr} {cd : Value} {A : Around} {outer : List Env} {s s1 : Shared} {H : Hp} {E : XK} {us : List Value} {vs : List V}
    (S : FnScope N ps scope) (e0 : Env0 P w K mg base A outer s H) (hl : vs.length = ps.length) (r : Vals vs us)
    (x : InCallC s s.heap.objs.size (bindL (envOfC qual scope s.heap.objs.size f cd).kindOf (ps.zip us) (fun _ => none)) (cellsFrom (s.heap.objs.size + 1) scope.names []) (bindC (envOfC qual scope s.heap.objs.size f cd).kindOf (ps.zip us) (fun _ => none)) s1) :
    Inv (cxW CX P w K mg base N qual scope f cd A outer s H E) [] (L2.start N vs) H s1 := by
  have J := inv_start (CX := CX) (E := E) (qual := qual) (f := f) (cd := cd) (A := { A with handled := none }) S rfl (env0_unmark e0) hl r x
  obtain ⟨o, j1, j2, j3, j4, j5, j6, j7, j8, j9, j10⟩ := J
  exact ⟨⟨o.mod, o.kind, o.glob, o.blt, o.above, o.inj, o.has, o.cab, (fun z => nomatch z), Around.frames_deeper e0.frames, .inr ⟨rfl, rfl⟩, o.exf, o.bs, o.bsz, o.noex, o.exfs, o.funs, o.frf⟩, j1, j2, j3, j4, j5, j6, j7, j8, j9, j10⟩
theorem FunD.warm {P : Program} {w : World} {K : PySem.W.Frag} {mg : Str → Option Value} {base : Heap} {CX : CXT} {k : Nat} {f : Addr} {fd : FuncData} {name qual : Str} {params : Arguments} {body : List Stmt} {scope : Scope} {ds : List V} {ks : List (Str × V)} {N ps : List Str} {sp : Sp}
    (F : FunD K name qual params body scope ds ks f fd) (S : FnScope N ps scope) (len : ∀ vs H Q E, sp vs H Q E → vs.length = ps.length)
    (hbody : ∀ (cdv : Value) (A : Around) (outer : List Env) (s : Shared) (H : Hp) (vs : List V) (Q : VK) (E : XK), L2H.RoomH k (A.deeper (envOfC qual scope s.heap.objs.size f cdv)) → sp vs H Q E →
      ∃ t, PSs (cxW CX P w K mg base N qual scope f cdv A outer s H E) body t ∧ t { nx := fun _ H' => Q .non H', rt := Q } (L2.start N vs) H) : FnW P w K mg base CX (k + 1) f fd ps sp := by
  obtain ⟨⟨oc, od, dV, kV, doc, pm, an, cdv, ct, osl, rfl, lk, hcd, _⟩, _⟩ := F
  refine ⟨len, fun A outer s H args us vs Q E hr e0 hb r hsp => ?_⟩; have lv := len vs H Q E hsp
  have KX : K.In s.heap := e0.mod.kin.keeps fun b o e => (e0.bs b o e).1; have noL : s.heap.NoLimit := e0.mod.nolimit.keeps fun b o e => (e0.bs b o e).1
  have kinds : ∀ y ∈ ps.zip us, scope.names.lookup y.1 = some .local ∨ (scope.names.lookup y.1 = some .cell ∧ ((cellsFrom (s.heap.objs.size + 1) scope.names []).lookup y.1).isSome = true) := fun ⟨n, v⟩ hy => (S.par n (List.of_mem_zip hy).1).imp id fun q => ⟨q, PySem.W.cellsFrom_some _ _ _ (.inl q)⟩
  refine codeAny_call_function hr.depth (KX _ _ lk) rfl S.co S.gen rfl (PySem.W.codeRec_of KX hcd) (hb _ _ _ _ (wpAny_newFunctionEnv_cells S.kind kinds fun env he s1 x => ?_))
  subst he
  obtain ⟨t, ht, hq⟩ := hbody cdv A outer s H vs Q E (hr.deeper _) hsp
  refine ⟨noL.keeps x.toInCall.keep, codeAny_func (wpAny_mono (ht.run [] s1 (L2.start N vs) H _ (warm_start S e0 lv r x) hq) (fun fl s' hs => ?_) fun e s' hs => hs)⟩
  cases fl with
  | ret u =>
    obtain ⟨v, _, H', J, rv, q⟩ := hs
    exact ⟨v, H', J.os, J.bare, J.base, J.hok, rv, q⟩
  | next =>
    obtain ⟨_, H', J, q⟩ := hs
    exact ⟨V.non, H', J.os, J.bare, J.base, J.hok, rfl, q⟩
  | brk =>
    obtain ⟨_, _, _, q⟩ := hs
    exact q.elim
  | cont =>
    obtain ⟨_, _, _, q⟩ := hs
    exact q.elim
section
variable {X : Cx} {CX : CXT} {k : Nat} {f : Addr} {fd : FuncData} {ps : List Str} {sp : Sp} {x : Str} {q pos : Pos} {e : Expr} {es : List Expr} {t : TA} {E : XK}
theorem pe_callW (F : FnW X.prog X.w X.K X.mg X.base CX k f fd ps sp) (hr : L2H.RoomH k X.A) (hg : Gl X x) (hm : X.mg x = some (.ref f)) (hk : PySem.W.keepIn X.K (.ref f) = true) (hb : Binds X.K fd ps []) (hx : Passes CX X E) (ha : PA X (e :: es) t) (hdb : (x == ("__debug__" : Str)) = false := by decide)
    (he : starEach (e :: es) X.env = (false, eval e X.env) :: starEach es X.env := by rfl) (hpl : (backTo pos (starEach es X.env)).any (·.1) = false := by rfl) : PE X (.Call (.Name x q) (e :: es) [] pos) (fun σ H Q => t σ H fun vs H1 => sp vs H1 Q E) := by
  refine ⟨fun pins s σ H Q I h => wpAny_Call_Name_kw (ld_glob I hg hm (PySem.W.callWith_K (h₀ := X.base) I.ok.mod.kin hk (thn (ha.run pos pins s σ H _ I h) fun us s1 z => ?_) he hpl) hdb)⟩
  obtain ⟨vs, H1, I1, r, hq⟩ := z
  refine ⟨I1.kIn, wpAny_call (codeAny_mono (F.goes X.A X.stack s1 H1 ⟨us, []⟩ us vs Q E hr I1.env0 ?_ r hq) fun a s' ho => ?_)⟩
  · have b := hb s1 us I1.kIn (by rw [List.append_nil, ← r.length]; exact F.arity _ _ _ _ hq)
    rw [List.append_nil] at b
    exact b
  · cases a with
    | error e => exact hx pins σ H1 s1 e s' I1 ho
    | ok fl =>
      cases fl with
      | ret u => exact I1.after ho
      | next => exact ho.elim
      | brk => exact ho.elim
      | cont => exact ho.elim
end
theorem Room.warm {j k : Nat} {A : Around} {h : Option Value} (r : Room k A) (l : j ≤ k := by decide) : L2H.RoomH j (A.mark h) :=
  have q := L2H.roomH_of (r.mono l)
  ⟨q.dp, q.un⟩
theorem call_isTK {X : Cx} (K : PySem.W.Frag) (e : X.K = K) : CallR X (.builtin "isinstance") (rIsT K) := by
  subst e
  exact call_isT
theorem pe_xfTK {X : Cx} {o : Expr} {te : TE} {pos : Pos} {n : Str} (K : PySem.W.Frag) (e : X.K = K) (he : PE X o te) (hb : attributeBase o n X.env (eval o X.env) = eval o X.env := by rfl) : PE X (.Attribute o n pos) (tXfT K n te) := by
  subst e
  exact pe_xfT he hb
end L2
namespace Pk
open L2 PyProof.Rows PySem.Spec PySem
def top (i : Nat) : Stmt := PySem.Challenge.pw_pagecode_k00_errors_made_from_their_fiel.main.body.getD i (.Pass ⟨0, 0, 0, 0⟩)
abbrev sBag : Stmt := top 19
abbrev sDraw : Stmt := top 20
/-! ### the bag -/
def bagD (c : Addr) (i : Nat) (dg n f : Int) : List (Key × V) := [(.inr "cells", .ref c), (.inr "at", .int i), (.inr "digits", .int dg), (.inr "count", .int n), (.inr "fold", .int f)]
theorem bag_cells {c i dg n f} : valV (bagD c i dg n f) (.inr "cells") = some (.ref c) := by rfl
theorem bag_at {c i dg n f} : valV (bagD c i dg n f) (.inr "at") = some (.int (i : Nat)) := by rfl
theorem bag_digits {c i dg n f} : valV (bagD c i dg n f) (.inr "digits") = some (.int dg) := by rfl
theorem bag_count {c i dg n f} : valV (bagD c i dg n f) (.inr "count") = some (.int n) := by rfl
theorem bag_fold {c i dg n f} : valV (bagD c i dg n f) (.inr "fold") = some (.int f) := by rfl
theorem bag_put_at {c i dg n f} : putK (bagD c i dg n f) (.inr "at") (.int (i + 1)) = bagD c (i + 1) dg n f := by rfl
theorem bag_put_digits {c i dg n f} {z : Int} : putK (bagD c i dg n f) (.inr "digits") (.int z) = bagD c i z n f := by rfl
theorem bag_put_count {c i dg n f} {z : Int} : putK (bagD c i dg n f) (.inr "count") (.int z) = bagD c i dg z f := by rfl
theorem bag_put_fold {c i dg n f} {z : Int} : putK (bagD c i dg n f) (.inr "fold") (.int z) = bagD c i dg n z := by rfl
end Pk
namespace Pk
open L2 PyProof.Rows PySem.Spec PySem
def BagO (c : Addr) (m : Nat) (n : Int) (o : HO) : Prop := ∃ i dg f, o = .dK (bagD c i dg n f) ∧ i ≤ m ∧ 0 ≤ dg ∧ 0 ≤ f ∧ f < 2147483648 ∧ 0 ≤ n
theorem dgS {H : Hp} {a : Addr} {kvs : List (Key × V)} {x : Str} {r : Option V} (e : H a = some (.dK kvs)) (h : valV kvs (.inr x) = r) : DGet H a (.str x) r := .inl ⟨kvs, .inr x, .inl e, rfl, h.symm⟩
theorem bag_len {c i dg n f} : (bagD c i dg n f).length < sizeLine := by show 5 < sizeLine; decide
def spDraw : Sp := fun vs H Q _ => ∃ (b c : Addr) (ns : List Int) (lim n : Int) (o : HO), vs = [.ref b, .int lim] ∧ 1 ≤ lim ∧ lim ≤ 10 ^ 50 ∧ H b = some o ∧ BagO c ns.length n o ∧ n ≤ 1000000 ∧ H c = some (.lst (ns.map V.int)) ∧
  ∀ (r : Int) (o' : HO), 0 ≤ r → r < lim → BagO c ns.length (n + 1) o' → Q (.int r) (upd H b o')
def spBag (K : PySem.W.Frag) : Sp := fun vs H Q _ => ∃ (a : Addr) (ns : List Int), vs = [.ref a] ∧ SqL K H a (ns.map V.int) ∧ ns.length ≤ 63 ∧
  ∀ (b c : Addr) (o : HO), H b = none → H c = none → c ≠ b → BagO c ns.length 0 o → Q (.ref b) (upd (upd (upd H b (.dK [])) c (.lst (ns.map V.int))) b o)
section
variable {K : PySem.W.Frag} {P : Program} {w : World} {base : Heap} {mg : Str → Option Value}
theorem sc_law_draw : FnScope ["_law_bag_here", "_law_limit", "_law_cell", "_law_digit", "_law_base"] ["_law_bag_here", "_law_limit"] (defScope sDraw) := ⟨rfl, rfl, rfl, by decide +kernel, rfl, by decide +kernel, by decide +kernel⟩
theorem ok_draw {f : Addr} {fd : FuncData} (F : FunD K "_law_draw" "_law_draw" (defArgs sDraw) (defBody sDraw) (defScope sDraw) [] [] f fd) (mInt : mg "int" = none) (mLen : mg "len" = none) : FnOk P w K mg base CX0 1 f fd ["_law_bag_here", "_law_limit"] spDraw := by
  refine F.ok sc_law_draw (fun vs H Q E h => ?_) (fun cdv A outer s H vs Q E hr h => ?_)
  · obtain ⟨b, c, ns, lim, n, o, rfl, _⟩ := h
    rfl
  · obtain ⟨b, c, ns, lim, n, o, rfl, l1, l2, hb, ⟨i, dg, f0, rfl, hi, hdg, hf1, hf2, hn0⟩, hn, hc, k⟩ := h
    have hu := hu_of hr
    refine ⟨_, PSs.nox (pss_cons (by exact (ps_dput hu (pv 0) pe_str (pe_op op_add (pe_dget hu (pv 0) pe_str (fun _ _ => rfl)) pe_int) rfl)) (C8.pss_cut (by exact (ps_if (PW.pt (pw_and (pt_cmpR op_eq (pe_dget hu (pv 0) pe_str (fun _ _ => rfl)) pe_int (nomark _)) (pw_and1 (pt_cmpR op_lt (pe_dget hu (pv 0) pe_str (fun _ _ => rfl)) (pe_callB call_len_seq (by rfl) mLen PySem.boot_len (pa_cons (pe_dget hu (pv 0) pe_str (fun _ _ => rfl)) pa_nil)) (nomark _))))) (pss_cons (by exact (ps_set (i := 2) sc_law_draw.nd rfl (Or.inl rfl) (pe_ix ix_list (pe_dget hu (pv 0) pe_str (fun _ _ => rfl)) (pe_dget hu (pv 0) pe_str (fun _ _ => rfl)) (fun _ _ => rfl)))) (pss_cons (by exact (ps_dput hu (pv 0) pe_str (pe_op op_add (pe_dget hu (pv 0) pe_str (fun _ _ => rfl)) pe_int) rfl)) (pss_one (by exact (ps_if (pt_cmpR op_ge (pv 2) (pe_op op_pow pe_int pe_int) (nomark _)) (pss_one (by exact (ps_dput hu (pv 0) pe_str (pe_op op_sub (pv 2) (pe_op op_pow pe_int pe_int)) rfl))) (pss_one (by exact (ps_dput hu (pv 0) pe_str (pe_op op_mod (pe_callTy call_int1 (by rfl) mInt (by decide +kernel) (pa_cons (pe_op op_add (pe_op op_mul (pe_dget hu (pv 0) pe_str (fun _ _ => rfl)) pe_int) (pv 2)) pa_nil)) pe_int) rfl)))))))) pss_nil)) (pss_cons (by exact (ps_if (pt_cmpR op_gt (pe_dget hu (pv 0) pe_str (fun _ _ => rfl)) pe_int (nomark _)) (pss_cons (by exact (ps_set (i := 3) sc_law_draw.nd rfl (Or.inl rfl) (pe_op op_mod (pe_callTy call_int1 (by rfl) mInt (by decide +kernel) (pa_cons (pe_dget hu (pv 0) pe_str (fun _ _ => rfl)) pa_nil)) (pv 1)))) (pss_cons (by exact (ps_dput hu (pv 0) pe_str (pe_op op_fdivW (pe_dget hu (pv 0) pe_str (fun _ _ => rfl)) (pv 1)) rfl)) (pss_one (by exact (ps_ret (pv 3)))))) pss_nil)) (pss_cons (by exact (ps_set (i := 4) sc_law_draw.nd rfl (Or.inl rfl) (pe_op op_add (pe_op op_add (pe_dget hu (pv 0) pe_str (fun _ _ => rfl)) (pe_op op_mul (pe_dget hu (pv 0) pe_str (fun _ _ => rfl)) pe_int)) pe_int))) (pss_one (by exact (ps_ret (pe_op op_mod (pe_op op_fdivW (pe_callTy call_int1 (by rfl) mInt (by decide +kernel) (pa_cons (pe_op op_mod (pe_op op_pow (pv 4) pe_int) pe_int) pa_nil)) pe_int) (pv 1))))))))), ?_⟩
    -- count
    refine ⟨_, rfl, _, _, rfl, dgS hb bag_count, _, _, rfl, rfl, _, rfl, b, _, rfl, DPut.k (k := .inr "count") hb bag_len, ?_⟩
    rw [bag_put_count]
    have ncb : c ≠ b := ne_of hc hb (by intro z; cases z)
    have hc1 : ∀ o, upd H b o c = some (.lst (ns.map V.int)) := fun o => by rw [upd_ne ncb]; exact hc
    -- the if: some bag stands behind it
    refine ⟨fun σ H1 => ∃ (i : Nat) (dg f0 : Int) (v : Option V), σ = [some (.ref b), some (.int lim), v, none, none] ∧ H1 = upd H b (.dK (bagD c i dg (n + 1) f0)) ∧ i ≤ ns.length ∧ 0 ≤ dg ∧ 0 ≤ f0 ∧ f0 < 2147483648, ?_, ?_⟩
    · refine ⟨_, rfl, _, _, rfl, dgS upd_same bag_digits, rfl, _, rfl, ?_⟩
      refine ite2 (fun hz => ?_) (fun _ => ⟨i, dg, f0, _, rfl, rfl, hi, hdg, hf1, hf2⟩)
      refine ⟨_, rfl, _, _, rfl, dgS upd_same bag_at, _, rfl, _, _, rfl, dgS upd_same bag_cells, c, _, rfl, .inl (SqL.of (hc1 _)), _, _, rfl, rfl, _, rfl, ?_⟩
      refine ite2 (fun hlt => ?_) (fun _ => ⟨i, dg, f0, _, rfl, rfl, hi, hdg, hf1, hf2⟩)
      have hil : i < ns.length := by
        have z := of_decide_eq_true hlt
        rw [List.length_map] at z
        omega
      -- cell
      refine ⟨_, rfl, _, _, rfl, dgS upd_same bag_cells, _, rfl, _, _, rfl, dgS upd_same bag_at, c, _, _, .int (ns[i]), rfl, rfl, SqL.of (hc1 _), atI_nat (by simp [hil]), ?_⟩
      -- at
      refine ⟨_, rfl, _, _, rfl, dgS upd_same bag_at, _, _, rfl, rfl, _, rfl, b, _, rfl, DPut.k (k := .inr "at") upd_same bag_len, ?_⟩
      rw [upd_upd, bag_put_at]
      refine ⟨_, rfl, _, _, rfl, rfl, ⟨by decide, by decide, by decide⟩, _, _, rfl, rfl, _, rfl, ?_⟩
      refine ite2 (fun hge => ?_) (fun _ => ?_)
      · have hge' := of_decide_eq_true hge
        refine ⟨_, rfl, _, _, rfl, rfl, ⟨by decide, by decide, by decide⟩, _, _, rfl, rfl, _, rfl, b, _, rfl, DPut.k (k := .inr "digits") upd_same bag_len, ?_⟩
        rw [upd_upd, bag_put_digits]
        exact ⟨i + 1, _, f0, _, rfl, rfl, hil, by omega, hf1, hf2⟩
      · refine ⟨_, rfl, _, _, rfl, dgS upd_same bag_fold, _, _, rfl, rfl, .inr ⟨by decide, by decide⟩, _, rfl, _, _, rfl, rfl, .inl ⟨_, rfl, _, _, rfl, rfl, (by show (0 : Int) < 2147483587; decide), _, rfl, b, _, rfl, DPut.k (k := .inr "fold") upd_same bag_len, ?_⟩⟩
        rw [upd_upd, bag_put_fold]
        exact ⟨i + 1, dg, _, _, rfl, rfl, hil, hdg, Int.emod_nonneg _ (by decide), Int.lt_trans (Int.emod_lt_of_pos _ (by decide)) (by decide)⟩
    · rintro σ H1 ⟨i, dg, f0, v, rfl, rfl, hi, hdg, hf1, hf2⟩
      refine ⟨_, rfl, _, _, rfl, dgS upd_same bag_digits, _, _, rfl, rfl, _, rfl, ?_⟩
      refine ite2 (fun hz => ?_) (fun _ => ?_)
      · refine ⟨_, rfl, _, _, rfl, dgS upd_same bag_digits, .inl ⟨_, rfl, _, rfl, _, _, rfl, rfl, (by omega), ?_⟩⟩
        refine ⟨_, rfl, _, _, rfl, dgS upd_same bag_digits, _, rfl, _, _, rfl, rfl, wide_div (b := 200) (by omega) ?_ (by decide) (by decide), _, rfl, b, _, rfl, DPut.k (k := .inr "digits") upd_same bag_len, ?_⟩
        · have : (10 : Int) ^ 50 < 2 ^ 200 := by decide
          omega
        · rw [upd_upd, bag_put_digits]
          refine ⟨_, rfl, k _ _ (Int.emod_nonneg _ (by omega)) (Int.emod_lt_of_pos _ (by omega)) ⟨i, _, f0, rfl, hi, Int.ediv_nonneg hdg (by omega), hf1, hf2, by omega⟩⟩
      · refine ⟨_, rfl, _, _, rfl, dgS upd_same bag_fold, _, rfl, _, _, rfl, dgS upd_same bag_count, _, _, rfl, rfl, .inr ⟨by decide, by decide⟩, _, _, rfl, rfl, _, _, rfl, rfl, ?_⟩
        refine ⟨_, rfl, _, _, rfl, rfl, ⟨by decide, by decide, ?_⟩, _, _, rfl, rfl, (by show (0 : Int) < 2305843009213693951; decide), .inl ⟨_, rfl, _, _, rfl, rfl, wide_div (b := 10) (by decide) (by decide) (by decide) (by decide), _, rfl, _, _, rfl, rfl, (by omega), ?_⟩⟩
        · have h1 : (n + 1) * 7907 ≤ 1000001 * 7907 := by omega
          have h2 : 0 ≤ (n + 1) * 7907 := by omega
          omega
        · exact k _ _ (Int.emod_nonneg _ (by omega)) (Int.emod_lt_of_pos _ (by omega)) ⟨i, dg, f0, rfl, hi, hdg, hf1, hf2, by omega⟩
end
end Pk
namespace Pk
open L2 PyProof.Rows PySem.Spec PySem
theorem int_item {ns : List Int} {i : Nat} {y : V} (h : (ns.map V.int)[i]? = some y) : ∃ z, ns[i]? = some z ∧ y = .int z := by
  rw [List.getElem?_map] at h
  cases e : ns[i]? with
  | none => (rw [e] at h; cases h)
  | some z => rw [e] at h; exact ⟨z, rfl, (Option.some.inj h).symm⟩
section
variable {K : PySem.W.Frag} {P : Program} {w : World} {base : Heap} {mg : Str → Option Value}
theorem sc_law_bag : FnScope ["_law_script", "_law_fold", "_law_cell"] ["_law_script"] (defScope sBag) := ⟨rfl, rfl, rfl, by decide +kernel, rfl, by decide +kernel, by decide +kernel⟩
theorem ok_bag {f : Addr} {fd : FuncData} (F : FunD K "_law_bag" "_law_bag" (defArgs sBag) (defBody sBag) (defScope sBag) [] [] f fd) (mInt : mg "int" = none) (mList : mg "list" = none) : FnOk P w K mg base CX0 1 f fd ["_law_script"] (spBag K) := by
  refine F.ok sc_law_bag (fun vs H Q E h => ?_) (fun cdv A outer s H vs Q E hr h => ?_)
  · obtain ⟨a, ns, rfl, _⟩ := h
    rfl
  · obtain ⟨a, ns, rfl, hS, hl, k⟩ := h
    have hu := hu_of hr
    refine ⟨_, PSs.nox (pss_cons (by exact (ps_set (i := 1) sc_law_bag.nd rfl (Or.inl rfl) pe_int)) (pss_cons (by exact (ps_for PassesOwn.never rfl (pi_list (pv 0)) (pg_name (i := 2) sc_law_bag.nd rfl (Or.inl rfl)) (pss_one (by exact (ps_set (i := 1) sc_law_bag.nd rfl (Or.inl rfl) (pe_op op_mod (pe_callTy call_int1 (by rfl) mInt (by decide +kernel) (pa_cons (pe_op op_add (pe_op op_mul (pv 1) pe_int) (pv 2)) pa_nil)) pe_int)))))) (pss_one (by exact (ps_ret (pe_disp (pps_cons pe_str (pe_callTy call_list_of (by rfl) mList (by decide +kernel) (pa_cons (pv 0) pa_nil)) (pps_cons pe_str pe_int (pps_cons pe_str pe_int (pps_cons pe_str pe_int (pps_cons pe_str (pv 1) pps_nil))))) (by rfl) (by rfl) (fun z => by cases z) (by decide))))))), ?_⟩
    refine ⟨_, rfl, a, rfl, ⟨_, hS⟩, for_list (K := K) (a := a) (xs := ns.map V.int) (fun i σ H' => ∃ (f : Int) (v : Option V), σ = [some (.ref a), some (.int f), v] ∧ H' = H ∧ 0 ≤ f ∧ f < 2147483648)
      ⟨0, none, rfl, rfl, by decide, by decide⟩ (fun i σ H' _ ⟨_, _, _, e, _⟩ => by rw [e]; exact hS) ?_ ?_⟩
    · rintro i y σ H' hi ⟨f, v, rfl, rfl, h1, h2⟩
      obtain ⟨z, hz, rfl⟩ := int_item hi
      refine ⟨_, rfl, _, _, rfl, rfl, .inr ⟨by decide, by decide⟩, _, rfl, _, _, rfl, rfl, .inl ⟨_, rfl, _, _, rfl, rfl, (by show (0 : Int) < 1000000009; decide), ?_⟩⟩
      exact ⟨_, _, rfl, rfl, Int.emod_nonneg _ (by decide), Int.lt_trans (Int.emod_lt_of_pos _ (by decide)) (by decide)⟩
    · rintro σ H' ⟨f, v, rfl, rfl, h1, h2⟩
      intro b hb
      refine ⟨_, rfl, a, _, rfl, .inl ((same_new hb).seq hS), fun c hc => ⟨_, rfl, ?_⟩⟩
      have hcb : c ≠ b := fun z => by rw [z, upd_same] at hc; cases hc
      have hc' : H' c = none := by rw [upd_ne hcb] at hc; exact hc
      refine ⟨by rw [upd_ne (Ne.symm hcb)]; exact upd_same, bagD c 0 0 0 f, rfl, by show 5 ≤ 15; decide, ?_⟩
      have e : mergeK [] (bagD c 0 0 0 f) = bagD c 0 0 0 f := by rfl
      rw [e]
      exact k b c _ hb hc' hcb ⟨0, 0, f, rfl, Nat.zero_le _, by decide, h1, h2, by decide⟩
end
end Pk
namespace Pk
open L2 PyProof.Rows PySem.Spec PySem
abbrev sThing : Stmt := top 21
def spThing (K : PySem.W.Frag) : Sp := fun vs H Q _ => ∃ (b c : Addr) (ns : List Int) (n : Int) (o : HO), vs = [.ref b] ∧ H b = some o ∧ BagO c ns.length n o ∧ n ≤ 999000 ∧ H c = some (.lst (ns.map V.int)) ∧
  ∀ (v : V) (d : PyData) (o' : HO) (H' : Hp), Dp K H' v d → d.canLay0 = true → d.depth ≤ 3 → KeepB b H H' → H' b = some o' → BagO c ns.length (n + 2) o' → Q v H'
theorem BagO.dict {c m n o} (h : BagO c m n o) : ∃ kvs, o = .dK kvs := let ⟨_, _, _, e, _⟩ := h; ⟨_, e⟩
section
variable {K : PySem.W.Frag} {P : Program} {w : World} {base : Heap} {mg : Str → Option Value}
theorem sc_law_thing : FnScope ["_law_bag_here"] ["_law_bag_here"] (defScope sThing) := ⟨rfl, rfl, rfl, by decide +kernel, rfl, by decide +kernel, by decide +kernel⟩
theorem ok_thing {f fD : Addr} {fd fdD : FuncData} (F : FunD K "_law_thing" "_law_thing" (defArgs sThing) (defBody sThing) (defScope sThing) [] [] f fd) (FD : FunD K "_law_draw" "_law_draw" (defArgs sDraw) (defBody sDraw) (defScope sDraw) [] [] fD fdD)
    (GD : FnOk P w K mg base CX0 1 fD fdD ["_law_bag_here", "_law_limit"] spDraw) (gD : mg "_law_draw" = some (.ref fD)) (bD : Binds K fdD ["_law_bag_here", "_law_limit"] []) : FnOk P w K mg base CX0 2 f fd ["_law_bag_here"] (spThing K) := by
  refine F.ok sc_law_thing (fun vs H Q E h => ?_) (fun cdv A outer s H vs Q E hr1 h => ?_)
  · obtain ⟨b, c, ns, n, o, rfl, _⟩ := h
    rfl
  · obtain ⟨b, c, ns, n, o, rfl, hb, hB, hn, hc, k⟩ := h
    refine ⟨_, PSs.nox (pss_one (by exact (ps_ret (pe_ix ix_list (pe_lst (pa_cons (pe_op op_sub (pe_call GD hr1 rfl gD FD.kp bD .nil pass0 (pa_cons (pv 0) (pa_cons (pe_op op_pow pe_int pe_int) pa_nil))) (pe_op op_pow pe_int pe_int)) (pa_cons pe_str (pa_cons pe_str (pa_cons pe_non (pa_cons pe_bl (pa_cons (pe_tup (pa_cons pe_int (pa_cons pe_str pa_nil))) (pa_cons (pe_lst pa_nil) (pa_cons (pe_lst (pa_cons pe_int pa_nil)) (pa_cons pe_int pa_nil)))))))))) (pe_call GD hr1 rfl gD FD.kp bD .nil pass0 (pa_cons (pv 0) (pa_cons pe_int pa_nil))) (fun _ _ => rfl))))), ?_⟩
    obtain ⟨kvs, rfl⟩ := hB.dict
    have ncb : c ≠ b := ne_of hc hb (by intro z; cases z)
    refine ⟨_, rfl, _, _, rfl, rfl, ⟨by decide, by decide, by decide⟩, b, c, ns, _, n, _, rfl, by decide, by decide, hb, hB, by omega, hc, fun r1 o1 h0 h1 hB1 => ?_⟩
    obtain ⟨kvs1, rfl⟩ := hB1.dict
    refine ⟨_, _, rfl, rfl, ⟨by decide, by decide, by decide⟩, _, _, rfl, rfl, ?_⟩
    refine ⟨by show 2 ≤ sizeLine; decide, fun t ht => ⟨by show 0 ≤ sizeLine; decide, fun l1 hl1 => ⟨by show 1 ≤ sizeLine; decide, fun l2 hl2 => ⟨by show 9 ≤ sizeLine; decide, fun p hp => ?_⟩⟩⟩⟩
    have hb1 : upd H b (.dK kvs1) b = some (.dK kvs1) := upd_same
    have s1 : Same (upd H b (.dK kvs1)) (upd (upd H b (.dK kvs1)) t (.tup [.int 1, .str "a"])) := same_new ht
    have s2 := same_new (o := .lst []) hl1
    have s3 := same_new (o := .lst [.int 3]) hl2
    have s4 := same_new (o := .lst [.int (r1 - (10 : Int) ^ (19 : Int).toNat), .str "", .str "p1", .non, .bl true, .ref t, .ref l1, .ref l2, .int 0]) hp
    have sA := (s1.trans s2).trans (s3.trans s4)
    have hbA := sA _ _ hb1
    have hcA := sA _ _ (show upd H b (.dK kvs1) c = _ by rw [upd_ne ncb]; exact hc)
    refine ⟨_, rfl, b, c, ns, _, n + 1, _, rfl, by decide, by decide, hbA, hB1, by omega, hcA, fun r2 o2 g0 g1 hB2 => ?_⟩
    obtain ⟨kvs2, rfl⟩ := hB2.dict
    have kB : KeepB b H (upd (upd (upd (upd (upd (upd H b (.dK kvs1)) t (.tup [.int 1, .str "a"])) l1 (.lst [])) l2 (.lst [.int 3])) p (.lst [.int (r1 - (10 : Int) ^ (19 : Int).toNat), .str "", .str "p1", .non, .bl true, .ref t, .ref l1, .ref l2, .int 0])) b (.dK kvs2)) :=
      (KeepB.upd.trans sA.keepB).trans KeepB.upd
    have st2 : Stands _ _ := KeepB.stands (KeepB.upd (o := .dK kvs2)) hbA
    have hpA : SqL K (upd (upd (upd (upd (upd (upd H b (.dK kvs1)) t (.tup [.int 1, .str "a"])) l1 (.lst [])) l2 (.lst [.int 3])) p (.lst [.int (r1 - (10 : Int) ^ (19 : Int).toNat), .str "", .str "p1", .non, .bl true, .ref t, .ref l1, .ref l2, .int 0])) b (.dK kvs2)) p
      [.int (r1 - (10 : Int) ^ (19 : Int).toNat), .str "", .str "p1", .non, .bl true, .ref t, .ref l1, .ref l2, .int 0] := st2.l (SqL.of upd_same)
    have fin : ∀ (j : Nat) (v : V) (d : PyData), r2 = (j : Int) → [V.int (r1 - (10 : Int) ^ (19 : Int).toNat), .str "", .str "p1", .non, .bl true, .ref t, .ref l1, .ref l2, .int 0][j]? = some v →
        Dp K (upd (upd (upd (upd (upd (upd H b (.dK kvs1)) t (.tup [.int 1, .str "a"])) l1 (.lst [])) l2 (.lst [.int 3])) p (.lst [.int (r1 - (10 : Int) ^ (19 : Int).toNat), .str "", .str "p1", .non, .bl true, .ref t, .ref l1, .ref l2, .int 0])) b (.dK kvs2)) v d → d.canLay0 = true → d.depth ≤ 3 →
        rIxL K (.ref p) (.int r2) (upd (upd (upd (upd (upd (upd H b (.dK kvs1)) t (.tup [.int 1, .str "a"])) l1 (.lst [])) l2 (.lst [.int 3])) p (.lst [.int (r1 - (10 : Int) ^ (19 : Int).toNat), .str "", .str "p1", .non, .bl true, .ref t, .ref l1, .ref l2, .int 0])) b (.dK kvs2)) Q := by
      intro j v d e hj hd h5 h6
      subst e
      refine ⟨p, _, _, v, rfl, rfl, hpA, atI_nat hj, ?_⟩
      refine k v d _ _ hd h5 h6 kB upd_same ?_
      have e2 : n + 1 + 1 = n + 2 := by omega
      rw [e2] at hB2
      exact hB2
    have cases9 : r2 = 0 ∨ r2 = 1 ∨ r2 = 2 ∨ r2 = 3 ∨ r2 = 4 ∨ r2 = 5 ∨ r2 = 6 ∨ r2 = 7 ∨ r2 = 8 := by omega
    rcases cases9 with e | e | e | e | e | e | e | e | e
    · exact fin 0 _ _ e rfl (.int _) rfl (Nat.zero_le 3)
    · exact fin 1 _ _ e rfl (.str _) (by decide +kernel) (by decide)
    · exact fin 2 _ _ e rfl (.str _) (by decide +kernel) (by decide)
    · exact fin 3 _ _ e rfl .non (by decide +kernel) (by decide)
    · exact fin 4 _ _ e rfl (.bl _) (by decide +kernel) (by decide)
    · exact fin 5 _ _ e rfl (Dp.mono st2 (.tup (SqT.of (s4 _ _ (s3 _ _ (s2 _ _ upd_same)))) (.cons (.int 1) (.cons (.str "a") .nil)))) (by decide +kernel) (by decide +kernel)
    · exact fin 6 _ _ e rfl (Dp.mono st2 (.lst (SqL.of (s4 _ _ (s3 _ _ upd_same))) .nil)) (by decide +kernel) (by decide +kernel)
    · exact fin 7 _ _ e rfl (Dp.mono st2 (.lst (SqL.of (s4 _ _ upd_same)) (.cons (.int 3) .nil))) (by decide +kernel) (by decide +kernel)
    · exact fin 8 _ _ e rfl (.int _) rfl (Nat.zero_le 3)
end
end Pk
namespace Pk
open L2 PyProof.Rows PySem.Spec PySem
abbrev progOf : Program := PySem.Challenge.pw_pagecode_k00_errors_made_from_their_fiel
section
variable {K : PySem.W.Frag} {P : Program} {w : World} {base : Heap} {mg : Str → Option Value}
abbrev sIBadStyle : Stmt := inClass (top 2) 0
theorem scIBadStyle : FnScopeS ["self", "style"] ["self", "style"] (defScope sIBadStyle) := ⟨rfl, rfl, rfl, by decide +kernel, rfl, by decide +kernel, by decide +kernel, by decide +kernel, rfl, rfl⟩
theorem bIBadStyle {C fI : Addr} {fd : FuncData} (I : Hx.InitF P K mg "BadStyle" "BadStyle.__init__" sIBadStyle ["style"] C fI fd) : Binds K fd ["self", "style"] [] := by
  obtain ⟨oc, od, osl, kV, doc, pm, an, cda, ct, cc, rfl, lk, hcd, T⟩ := I.fn
  exact .all fun us hl => match us, hl with | [_, _], _ => rfl
theorem okIBadStyle {C fI : Addr} {fd : FuncData} (I : Hx.InitF P K mg "BadStyle" "BadStyle.__init__" sIBadStyle ["style"] C fI fd) (mS : mg "super" = none) (hP : P.main.scope = (progOf).main.scope) : FnOk P w K mg base CX0 1 fI fd ["self", "style"] (spSup1 C "style") := by
  obtain ⟨oc, od, osl, kV, doc, pm, an, cda, ct, cc, rfl, lk, hcd, T⟩ := I.fn
  refine fn_sup (ps := ["self", "style"]) (N := ["self", "style"]) (sp := spSup1 C "style") (CX := CX0) (k := 0) lk hcd scIBadStyle T mS rfl rfl rfl (by rw [hP]; rfl) (by intro _ _ _ _; rfl) ?_ ?_
  · rintro vs H Q E ⟨a, v, rfl, _⟩
    rfl
  · rintro A outer s H vs Q E hr ⟨a, v, rfl, ha, q⟩
    exact ⟨a, [v], _, rfl, ha, pss_one (ps_ost (pv 0) (pv 1)), ⟨_, rfl, _, rfl, a, C, rfl, I.sup.oex, I.no _ (by decide +kernel), .inl ⟨ha, fun d hd hda => q d hd hda⟩⟩⟩
abbrev sIBadSum : Stmt := inClass (top 3) 0
theorem scIBadSum : FnScopeS ["self", "text"] ["self", "text"] (defScope sIBadSum) := ⟨rfl, rfl, rfl, by decide +kernel, rfl, by decide +kernel, by decide +kernel, by decide +kernel, rfl, rfl⟩
theorem bIBadSum {C fI : Addr} {fd : FuncData} (I : Hx.InitF P K mg "BadSum" "BadSum.__init__" sIBadSum ["text"] C fI fd) : Binds K fd ["self", "text"] [] := by
  obtain ⟨oc, od, osl, kV, doc, pm, an, cda, ct, cc, rfl, lk, hcd, T⟩ := I.fn
  exact .all fun us hl => match us, hl with | [_, _], _ => rfl
theorem okIBadSum {C fI : Addr} {fd : FuncData} (I : Hx.InitF P K mg "BadSum" "BadSum.__init__" sIBadSum ["text"] C fI fd) (mS : mg "super" = none) (hP : P.main.scope = (progOf).main.scope) : FnOk P w K mg base CX0 1 fI fd ["self", "text"] (spSup1 C "text") := by
  obtain ⟨oc, od, osl, kV, doc, pm, an, cda, ct, cc, rfl, lk, hcd, T⟩ := I.fn
  refine fn_sup (ps := ["self", "text"]) (N := ["self", "text"]) (sp := spSup1 C "text") (CX := CX0) (k := 0) lk hcd scIBadSum T mS rfl rfl rfl (by rw [hP]; rfl) (by intro _ _ _ _; rfl) ?_ ?_
  · rintro vs H Q E ⟨a, v, rfl, _⟩
    rfl
  · rintro A outer s H vs Q E hr ⟨a, v, rfl, ha, q⟩
    exact ⟨a, [v], _, rfl, ha, pss_one (ps_ost (pv 0) (pv 1)), ⟨_, rfl, _, rfl, a, C, rfl, I.sup.oex, I.no _ (by decide +kernel), .inl ⟨ha, fun d hd hda => q d hd hda⟩⟩⟩
abbrev sIBadKind : Stmt := inClass (top 4) 0
theorem scIBadKind : FnScopeS ["self", "kind"] ["self", "kind"] (defScope sIBadKind) := ⟨rfl, rfl, rfl, by decide +kernel, rfl, by decide +kernel, by decide +kernel, by decide +kernel, rfl, rfl⟩
theorem bIBadKind {C fI : Addr} {fd : FuncData} (I : Hx.InitF P K mg "BadKind" "BadKind.__init__" sIBadKind ["kind"] C fI fd) : Binds K fd ["self", "kind"] [] := by
  obtain ⟨oc, od, osl, kV, doc, pm, an, cda, ct, cc, rfl, lk, hcd, T⟩ := I.fn
  exact .all fun us hl => match us, hl with | [_, _], _ => rfl
theorem okIBadKind {C fI : Addr} {fd : FuncData} (I : Hx.InitF P K mg "BadKind" "BadKind.__init__" sIBadKind ["kind"] C fI fd) (mS : mg "super" = none) (hP : P.main.scope = (progOf).main.scope) : FnOk P w K mg base CX0 1 fI fd ["self", "kind"] (spSup1 C "kind") := by
  obtain ⟨oc, od, osl, kV, doc, pm, an, cda, ct, cc, rfl, lk, hcd, T⟩ := I.fn
  refine fn_sup (ps := ["self", "kind"]) (N := ["self", "kind"]) (sp := spSup1 C "kind") (CX := CX0) (k := 0) lk hcd scIBadKind T mS rfl rfl rfl (by rw [hP]; rfl) (by intro _ _ _ _; rfl) ?_ ?_
  · rintro vs H Q E ⟨a, v, rfl, _⟩
    rfl
  · rintro A outer s H vs Q E hr ⟨a, v, rfl, ha, q⟩
    exact ⟨a, [v], _, rfl, ha, pss_one (ps_ost (pv 0) (pv 1)), ⟨_, rfl, _, rfl, a, C, rfl, I.sup.oex, I.no _ (by decide +kernel), .inl ⟨ha, fun d hd hda => q d hd hda⟩⟩⟩
abbrev sIBadLine : Stmt := inClass (top 5) 0
theorem scIBadLine : FnScopeS ["self", "line"] ["self", "line"] (defScope sIBadLine) := ⟨rfl, rfl, rfl, by decide +kernel, rfl, by decide +kernel, by decide +kernel, by decide +kernel, rfl, rfl⟩
theorem bIBadLine {C fI : Addr} {fd : FuncData} (I : Hx.InitF P K mg "BadLine" "BadLine.__init__" sIBadLine ["line"] C fI fd) : Binds K fd ["self", "line"] [] := by
  obtain ⟨oc, od, osl, kV, doc, pm, an, cda, ct, cc, rfl, lk, hcd, T⟩ := I.fn
  exact .all fun us hl => match us, hl with | [_, _], _ => rfl
theorem okIBadLine {C fI : Addr} {fd : FuncData} (I : Hx.InitF P K mg "BadLine" "BadLine.__init__" sIBadLine ["line"] C fI fd) (mS : mg "super" = none) (hP : P.main.scope = (progOf).main.scope) : FnOk P w K mg base CX0 1 fI fd ["self", "line"] (spSup1 C "line") := by
  obtain ⟨oc, od, osl, kV, doc, pm, an, cda, ct, cc, rfl, lk, hcd, T⟩ := I.fn
  refine fn_sup (ps := ["self", "line"]) (N := ["self", "line"]) (sp := spSup1 C "line") (CX := CX0) (k := 0) lk hcd scIBadLine T mS rfl rfl rfl (by rw [hP]; rfl) (by intro _ _ _ _; rfl) ?_ ?_
  · rintro vs H Q E ⟨a, v, rfl, _⟩
    rfl
  · rintro A outer s H vs Q E hr ⟨a, v, rfl, ha, q⟩
    exact ⟨a, [v], _, rfl, ha, pss_one (ps_ost (pv 0) (pv 1)), ⟨_, rfl, _, rfl, a, C, rfl, I.sup.oex, I.no _ (by decide +kernel), .inl ⟨ha, fun d hd hda => q d hd hda⟩⟩⟩
abbrev sIRefused : Stmt := inClass (top 6) 0
theorem scIRefused : FnScopeS ["self", "line"] ["self", "line"] (defScope sIRefused) := ⟨rfl, rfl, rfl, by decide +kernel, rfl, by decide +kernel, by decide +kernel, by decide +kernel, rfl, rfl⟩
theorem bIRefused {C fI : Addr} {fd : FuncData} (I : Hx.InitF P K mg "Refused" "Refused.__init__" sIRefused ["line"] C fI fd) : Binds K fd ["self", "line"] [] := by
  obtain ⟨oc, od, osl, kV, doc, pm, an, cda, ct, cc, rfl, lk, hcd, T⟩ := I.fn
  exact .all fun us hl => match us, hl with | [_, _], _ => rfl
theorem okIRefused {C fI : Addr} {fd : FuncData} (I : Hx.InitF P K mg "Refused" "Refused.__init__" sIRefused ["line"] C fI fd) (mS : mg "super" = none) (hP : P.main.scope = (progOf).main.scope) : FnOk P w K mg base CX0 1 fI fd ["self", "line"] (spSup1 C "line") := by
  obtain ⟨oc, od, osl, kV, doc, pm, an, cda, ct, cc, rfl, lk, hcd, T⟩ := I.fn
  refine fn_sup (ps := ["self", "line"]) (N := ["self", "line"]) (sp := spSup1 C "line") (CX := CX0) (k := 0) lk hcd scIRefused T mS rfl rfl rfl (by rw [hP]; rfl) (by intro _ _ _ _; rfl) ?_ ?_
  · rintro vs H Q E ⟨a, v, rfl, _⟩
    rfl
  · rintro A outer s H vs Q E hr ⟨a, v, rfl, ha, q⟩
    exact ⟨a, [v], _, rfl, ha, pss_one (ps_ost (pv 0) (pv 1)), ⟨_, rfl, _, rfl, a, C, rfl, I.sup.oex, I.no _ (by decide +kernel), .inl ⟨ha, fun d hd hda => q d hd hda⟩⟩⟩
abbrev sIBadCapacity : Stmt := inClass (top 7) 0
theorem scIBadCapacity : FnScopeS ["self", "k"] ["self", "k"] (defScope sIBadCapacity) := ⟨rfl, rfl, rfl, by decide +kernel, rfl, by decide +kernel, by decide +kernel, by decide +kernel, rfl, rfl⟩
theorem bIBadCapacity {C fI : Addr} {fd : FuncData} (I : Hx.InitF P K mg "BadCapacity" "BadCapacity.__init__" sIBadCapacity ["k"] C fI fd) : Binds K fd ["self", "k"] [] := by
  obtain ⟨oc, od, osl, kV, doc, pm, an, cda, ct, cc, rfl, lk, hcd, T⟩ := I.fn
  exact .all fun us hl => match us, hl with | [_, _], _ => rfl
theorem okIBadCapacity {C fI : Addr} {fd : FuncData} (I : Hx.InitF P K mg "BadCapacity" "BadCapacity.__init__" sIBadCapacity ["k"] C fI fd) (mS : mg "super" = none) (hP : P.main.scope = (progOf).main.scope) : FnOk P w K mg base CX0 1 fI fd ["self", "k"] (spSup1 C "k") := by
  obtain ⟨oc, od, osl, kV, doc, pm, an, cda, ct, cc, rfl, lk, hcd, T⟩ := I.fn
  refine fn_sup (ps := ["self", "k"]) (N := ["self", "k"]) (sp := spSup1 C "k") (CX := CX0) (k := 0) lk hcd scIBadCapacity T mS rfl rfl rfl (by rw [hP]; rfl) (by intro _ _ _ _; rfl) ?_ ?_
  · rintro vs H Q E ⟨a, v, rfl, _⟩
    rfl
  · rintro A outer s H vs Q E hr ⟨a, v, rfl, ha, q⟩
    exact ⟨a, [v], _, rfl, ha, pss_one (ps_ost (pv 0) (pv 1)), ⟨_, rfl, _, rfl, a, C, rfl, I.sup.oex, I.no _ (by decide +kernel), .inl ⟨ha, fun d hd hda => q d hd hda⟩⟩⟩
abbrev sIBadCase : Stmt := inClass (top 8) 0
theorem scIBadCase : FnScopeS ["self", "case"] ["self", "case"] (defScope sIBadCase) := ⟨rfl, rfl, rfl, by decide +kernel, rfl, by decide +kernel, by decide +kernel, by decide +kernel, rfl, rfl⟩
theorem bIBadCase {C fI : Addr} {fd : FuncData} (I : Hx.InitF P K mg "BadCase" "BadCase.__init__" sIBadCase ["case"] C fI fd) : Binds K fd ["self", "case"] [] := by
  obtain ⟨oc, od, osl, kV, doc, pm, an, cda, ct, cc, rfl, lk, hcd, T⟩ := I.fn
  exact .all fun us hl => match us, hl with | [_, _], _ => rfl
theorem okIBadCase {C fI : Addr} {fd : FuncData} (I : Hx.InitF P K mg "BadCase" "BadCase.__init__" sIBadCase ["case"] C fI fd) (mS : mg "super" = none) (hP : P.main.scope = (progOf).main.scope) : FnOk P w K mg base CX0 1 fI fd ["self", "case"] (spSup1 C "case") := by
  obtain ⟨oc, od, osl, kV, doc, pm, an, cda, ct, cc, rfl, lk, hcd, T⟩ := I.fn
  refine fn_sup (ps := ["self", "case"]) (N := ["self", "case"]) (sp := spSup1 C "case") (CX := CX0) (k := 0) lk hcd scIBadCase T mS rfl rfl rfl (by rw [hP]; rfl) (by intro _ _ _ _; rfl) ?_ ?_
  · rintro vs H Q E ⟨a, v, rfl, _⟩
    rfl
  · rintro A outer s H vs Q E hr ⟨a, v, rfl, ha, q⟩
    exact ⟨a, [v], _, rfl, ha, pss_one (ps_ost (pv 0) (pv 1)), ⟨_, rfl, _, rfl, a, C, rfl, I.sup.oex, I.no _ (by decide +kernel), .inl ⟨ha, fun d hd hda => q d hd hda⟩⟩⟩
abbrev sIBadPromise : Stmt := inClass (top 9) 0
theorem scIBadPromise : FnScopeS ["self", "promise"] ["self", "promise"] (defScope sIBadPromise) := ⟨rfl, rfl, rfl, by decide +kernel, rfl, by decide +kernel, by decide +kernel, by decide +kernel, rfl, rfl⟩
theorem bIBadPromise {C fI : Addr} {fd : FuncData} (I : Hx.InitF P K mg "BadPromise" "BadPromise.__init__" sIBadPromise ["promise"] C fI fd) : Binds K fd ["self", "promise"] [] := by
  obtain ⟨oc, od, osl, kV, doc, pm, an, cda, ct, cc, rfl, lk, hcd, T⟩ := I.fn
  exact .all fun us hl => match us, hl with | [_, _], _ => rfl
theorem okIBadPromise {C fI : Addr} {fd : FuncData} (I : Hx.InitF P K mg "BadPromise" "BadPromise.__init__" sIBadPromise ["promise"] C fI fd) (mS : mg "super" = none) (hP : P.main.scope = (progOf).main.scope) : FnOk P w K mg base CX0 1 fI fd ["self", "promise"] (spSup1 C "promise") := by
  obtain ⟨oc, od, osl, kV, doc, pm, an, cda, ct, cc, rfl, lk, hcd, T⟩ := I.fn
  refine fn_sup (ps := ["self", "promise"]) (N := ["self", "promise"]) (sp := spSup1 C "promise") (CX := CX0) (k := 0) lk hcd scIBadPromise T mS rfl rfl rfl (by rw [hP]; rfl) (by intro _ _ _ _; rfl) ?_ ?_
  · rintro vs H Q E ⟨a, v, rfl, _⟩
    rfl
  · rintro A outer s H vs Q E hr ⟨a, v, rfl, ha, q⟩
    exact ⟨a, [v], _, rfl, ha, pss_one (ps_ost (pv 0) (pv 1)), ⟨_, rfl, _, rfl, a, C, rfl, I.sup.oex, I.no _ (by decide +kernel), .inl ⟨ha, fun d hd hda => q d hd hda⟩⟩⟩
abbrev sINoLine : Stmt := inClass (top 10) 0
theorem scINoLine : FnScopeS ["self", "line"] ["self", "line"] (defScope sINoLine) := ⟨rfl, rfl, rfl, by decide +kernel, rfl, by decide +kernel, by decide +kernel, by decide +kernel, rfl, rfl⟩
theorem bINoLine {C fI : Addr} {fd : FuncData} (I : Hx.InitF P K mg "NoLine" "NoLine.__init__" sINoLine ["line"] C fI fd) : Binds K fd ["self", "line"] [] := by
  obtain ⟨oc, od, osl, kV, doc, pm, an, cda, ct, cc, rfl, lk, hcd, T⟩ := I.fn
  exact .all fun us hl => match us, hl with | [_, _], _ => rfl
theorem okINoLine {C fI : Addr} {fd : FuncData} (I : Hx.InitF P K mg "NoLine" "NoLine.__init__" sINoLine ["line"] C fI fd) (mS : mg "super" = none) (hP : P.main.scope = (progOf).main.scope) : FnOk P w K mg base CX0 1 fI fd ["self", "line"] (spSup1 C "line") := by
  obtain ⟨oc, od, osl, kV, doc, pm, an, cda, ct, cc, rfl, lk, hcd, T⟩ := I.fn
  refine fn_sup (ps := ["self", "line"]) (N := ["self", "line"]) (sp := spSup1 C "line") (CX := CX0) (k := 0) lk hcd scINoLine T mS rfl rfl rfl (by rw [hP]; rfl) (by intro _ _ _ _; rfl) ?_ ?_
  · rintro vs H Q E ⟨a, v, rfl, _⟩
    rfl
  · rintro A outer s H vs Q E hr ⟨a, v, rfl, ha, q⟩
    exact ⟨a, [v], _, rfl, ha, pss_one (ps_ost (pv 0) (pv 1)), ⟨_, rfl, _, rfl, a, C, rfl, I.sup.oex, I.no _ (by decide +kernel), .inl ⟨ha, fun d hd hda => q d hd hda⟩⟩⟩
abbrev sIOtherKinds : Stmt := inClass (top 11) 0
theorem scIOtherKinds : FnScopeS ["self"] ["self"] (defScope sIOtherKinds) := ⟨rfl, rfl, rfl, by decide +kernel, rfl, by decide +kernel, by decide +kernel, by decide +kernel, rfl, rfl⟩
theorem bIOtherKinds {C fI : Addr} {fd : FuncData} (I : Hx.InitF P K mg "OtherKinds" "OtherKinds.__init__" sIOtherKinds [] C fI fd) : Binds K fd ["self"] [] := by
  obtain ⟨oc, od, osl, kV, doc, pm, an, cda, ct, cc, rfl, lk, hcd, T⟩ := I.fn
  exact .all fun us hl => match us, hl with | [_], _ => rfl
theorem okIOtherKinds {C fI : Addr} {fd : FuncData} (I : Hx.InitF P K mg "OtherKinds" "OtherKinds.__init__" sIOtherKinds [] C fI fd) (mS : mg "super" = none) (hP : P.main.scope = (progOf).main.scope) : FnOk P w K mg base CX0 1 fI fd ["self"] (spSup0 C) := by
  obtain ⟨oc, od, osl, kV, doc, pm, an, cda, ct, cc, rfl, lk, hcd, T⟩ := I.fn
  refine fn_sup (ps := ["self"]) (N := ["self"]) (sp := spSup0 C) (CX := CX0) (k := 0) lk hcd scIOtherKinds T mS rfl rfl rfl (by rw [hP]; rfl) (by intro _ _ _ _; rfl) ?_ ?_
  · rintro vs H Q E ⟨a, rfl, _⟩
    rfl
  · rintro A outer s H vs Q E hr ⟨a, rfl, ha, q⟩
    exact ⟨a, [], tNext, rfl, ha, pss_nil, q⟩
abbrev sIOtherRules : Stmt := inClass (top 12) 0
theorem scIOtherRules : FnScopeS ["self"] ["self"] (defScope sIOtherRules) := ⟨rfl, rfl, rfl, by decide +kernel, rfl, by decide +kernel, by decide +kernel, by decide +kernel, rfl, rfl⟩
theorem bIOtherRules {C fI : Addr} {fd : FuncData} (I : Hx.InitF P K mg "OtherRules" "OtherRules.__init__" sIOtherRules [] C fI fd) : Binds K fd ["self"] [] := by
  obtain ⟨oc, od, osl, kV, doc, pm, an, cda, ct, cc, rfl, lk, hcd, T⟩ := I.fn
  exact .all fun us hl => match us, hl with | [_], _ => rfl
theorem okIOtherRules {C fI : Addr} {fd : FuncData} (I : Hx.InitF P K mg "OtherRules" "OtherRules.__init__" sIOtherRules [] C fI fd) (mS : mg "super" = none) (hP : P.main.scope = (progOf).main.scope) : FnOk P w K mg base CX0 1 fI fd ["self"] (spSup0 C) := by
  obtain ⟨oc, od, osl, kV, doc, pm, an, cda, ct, cc, rfl, lk, hcd, T⟩ := I.fn
  refine fn_sup (ps := ["self"]) (N := ["self"]) (sp := spSup0 C) (CX := CX0) (k := 0) lk hcd scIOtherRules T mS rfl rfl rfl (by rw [hP]; rfl) (by intro _ _ _ _; rfl) ?_ ?_
  · rintro vs H Q E ⟨a, rfl, _⟩
    rfl
  · rintro A outer s H vs Q E hr ⟨a, rfl, ha, q⟩
    exact ⟨a, [], tNext, rfl, ha, pss_nil, q⟩
abbrev sIWrongCode : Stmt := inClass (top 13) 0
theorem scIWrongCode : FnScopeS ["self", "code"] ["self", "code"] (defScope sIWrongCode) := ⟨rfl, rfl, rfl, by decide +kernel, rfl, by decide +kernel, by decide +kernel, by decide +kernel, rfl, rfl⟩
theorem bIWrongCode {C fI : Addr} {fd : FuncData} (I : Hx.InitF P K mg "WrongCode" "WrongCode.__init__" sIWrongCode ["code"] C fI fd) : Binds K fd ["self", "code"] [] := by
  obtain ⟨oc, od, osl, kV, doc, pm, an, cda, ct, cc, rfl, lk, hcd, T⟩ := I.fn
  exact .all fun us hl => match us, hl with | [_, _], _ => rfl
theorem okIWrongCode {C fI : Addr} {fd : FuncData} (I : Hx.InitF P K mg "WrongCode" "WrongCode.__init__" sIWrongCode ["code"] C fI fd) (mS : mg "super" = none) (hP : P.main.scope = (progOf).main.scope) : FnOk P w K mg base CX0 1 fI fd ["self", "code"] (spSup1 C "code") := by
  obtain ⟨oc, od, osl, kV, doc, pm, an, cda, ct, cc, rfl, lk, hcd, T⟩ := I.fn
  refine fn_sup (ps := ["self", "code"]) (N := ["self", "code"]) (sp := spSup1 C "code") (CX := CX0) (k := 0) lk hcd scIWrongCode T mS rfl rfl rfl (by rw [hP]; rfl) (by intro _ _ _ _; rfl) ?_ ?_
  · rintro vs H Q E ⟨a, v, rfl, _⟩
    rfl
  · rintro A outer s H vs Q E hr ⟨a, v, rfl, ha, q⟩
    exact ⟨a, [v], _, rfl, ha, pss_one (ps_ost (pv 0) (pv 1)), ⟨_, rfl, _, rfl, a, C, rfl, I.sup.oex, I.no _ (by decide +kernel), .inl ⟨ha, fun d hd hda => q d hd hda⟩⟩⟩
abbrev sIBadKey : Stmt := inClass (top 14) 0
theorem scIBadKey : FnScopeS ["self", "key"] ["self", "key"] (defScope sIBadKey) := ⟨rfl, rfl, rfl, by decide +kernel, rfl, by decide +kernel, by decide +kernel, by decide +kernel, rfl, rfl⟩
theorem bIBadKey {C fI : Addr} {fd : FuncData} (I : Hx.InitF P K mg "BadKey" "BadKey.__init__" sIBadKey ["key"] C fI fd) : Binds K fd ["self", "key"] [] := by
  obtain ⟨oc, od, osl, kV, doc, pm, an, cda, ct, cc, rfl, lk, hcd, T⟩ := I.fn
  exact .all fun us hl => match us, hl with | [_, _], _ => rfl
theorem okIBadKey {C fI : Addr} {fd : FuncData} (I : Hx.InitF P K mg "BadKey" "BadKey.__init__" sIBadKey ["key"] C fI fd) (mS : mg "super" = none) (hP : P.main.scope = (progOf).main.scope) : FnOk P w K mg base CX0 1 fI fd ["self", "key"] (spSup1 C "key") := by
  obtain ⟨oc, od, osl, kV, doc, pm, an, cda, ct, cc, rfl, lk, hcd, T⟩ := I.fn
  refine fn_sup (ps := ["self", "key"]) (N := ["self", "key"]) (sp := spSup1 C "key") (CX := CX0) (k := 0) lk hcd scIBadKey T mS rfl rfl rfl (by rw [hP]; rfl) (by intro _ _ _ _; rfl) ?_ ?_
  · rintro vs H Q E ⟨a, v, rfl, _⟩
    rfl
  · rintro A outer s H vs Q E hr ⟨a, v, rfl, ha, q⟩
    exact ⟨a, [v], _, rfl, ha, pss_one (ps_ost (pv 0) (pv 1)), ⟨_, rfl, _, rfl, a, C, rfl, I.sup.oex, I.no _ (by decide +kernel), .inl ⟨ha, fun d hd hda => q d hd hda⟩⟩⟩
abbrev sITwiceKey : Stmt := inClass (top 15) 0
theorem scITwiceKey : FnScopeS ["self", "key"] ["self", "key"] (defScope sITwiceKey) := ⟨rfl, rfl, rfl, by decide +kernel, rfl, by decide +kernel, by decide +kernel, by decide +kernel, rfl, rfl⟩
theorem bITwiceKey {C fI : Addr} {fd : FuncData} (I : Hx.InitF P K mg "TwiceKey" "TwiceKey.__init__" sITwiceKey ["key"] C fI fd) : Binds K fd ["self", "key"] [] := by
  obtain ⟨oc, od, osl, kV, doc, pm, an, cda, ct, cc, rfl, lk, hcd, T⟩ := I.fn
  exact .all fun us hl => match us, hl with | [_, _], _ => rfl
theorem okITwiceKey {C fI : Addr} {fd : FuncData} (I : Hx.InitF P K mg "TwiceKey" "TwiceKey.__init__" sITwiceKey ["key"] C fI fd) (mS : mg "super" = none) (hP : P.main.scope = (progOf).main.scope) : FnOk P w K mg base CX0 1 fI fd ["self", "key"] (spSup1 C "key") := by
  obtain ⟨oc, od, osl, kV, doc, pm, an, cda, ct, cc, rfl, lk, hcd, T⟩ := I.fn
  refine fn_sup (ps := ["self", "key"]) (N := ["self", "key"]) (sp := spSup1 C "key") (CX := CX0) (k := 0) lk hcd scITwiceKey T mS rfl rfl rfl (by rw [hP]; rfl) (by intro _ _ _ _; rfl) ?_ ?_
  · rintro vs H Q E ⟨a, v, rfl, _⟩
    rfl
  · rintro A outer s H vs Q E hr ⟨a, v, rfl, ha, q⟩
    exact ⟨a, [v], _, rfl, ha, pss_one (ps_ost (pv 0) (pv 1)), ⟨_, rfl, _, rfl, a, C, rfl, I.sup.oex, I.no _ (by decide +kernel), .inl ⟨ha, fun d hd hda => q d hd hda⟩⟩⟩
abbrev sINoKey : Stmt := inClass (top 16) 0
theorem scINoKey : FnScopeS ["self", "key"] ["self", "key"] (defScope sINoKey) := ⟨rfl, rfl, rfl, by decide +kernel, rfl, by decide +kernel, by decide +kernel, by decide +kernel, rfl, rfl⟩
theorem bINoKey {C fI : Addr} {fd : FuncData} (I : Hx.InitF P K mg "NoKey" "NoKey.__init__" sINoKey ["key"] C fI fd) : Binds K fd ["self", "key"] [] := by
  obtain ⟨oc, od, osl, kV, doc, pm, an, cda, ct, cc, rfl, lk, hcd, T⟩ := I.fn
  exact .all fun us hl => match us, hl with | [_, _], _ => rfl
theorem okINoKey {C fI : Addr} {fd : FuncData} (I : Hx.InitF P K mg "NoKey" "NoKey.__init__" sINoKey ["key"] C fI fd) (mS : mg "super" = none) (hP : P.main.scope = (progOf).main.scope) : FnOk P w K mg base CX0 1 fI fd ["self", "key"] (spSup1 C "key") := by
  obtain ⟨oc, od, osl, kV, doc, pm, an, cda, ct, cc, rfl, lk, hcd, T⟩ := I.fn
  refine fn_sup (ps := ["self", "key"]) (N := ["self", "key"]) (sp := spSup1 C "key") (CX := CX0) (k := 0) lk hcd scINoKey T mS rfl rfl rfl (by rw [hP]; rfl) (by intro _ _ _ _; rfl) ?_ ?_
  · rintro vs H Q E ⟨a, v, rfl, _⟩
    rfl
  · rintro A outer s H vs Q E hr ⟨a, v, rfl, ha, q⟩
    exact ⟨a, [v], _, rfl, ha, pss_one (ps_ost (pv 0) (pv 1)), ⟨_, rfl, _, rfl, a, C, rfl, I.sup.oex, I.no _ (by decide +kernel), .inl ⟨ha, fun d hd hda => q d hd hda⟩⟩⟩
abbrev sITooMany : Stmt := inClass (top 17) 0
theorem scITooMany : FnScopeS ["self", "what", "many", "most"] ["self", "what", "many", "most"] (defScope sITooMany) := ⟨rfl, rfl, rfl, by decide +kernel, rfl, by decide +kernel, by decide +kernel, by decide +kernel, rfl, rfl⟩
theorem bITooMany {C fI : Addr} {fd : FuncData} (I : Hx.InitF P K mg "TooMany" "TooMany.__init__" sITooMany ["what", "many", "most"] C fI fd) : Binds K fd ["self", "what", "many", "most"] [] := by
  obtain ⟨oc, od, osl, kV, doc, pm, an, cda, ct, cc, rfl, lk, hcd, T⟩ := I.fn
  exact .all fun us hl => match us, hl with | [_, _, _, _], _ => rfl
theorem okITooMany {C fI : Addr} {fd : FuncData} (I : Hx.InitF P K mg "TooMany" "TooMany.__init__" sITooMany ["what", "many", "most"] C fI fd) (mS : mg "super" = none) (hP : P.main.scope = (progOf).main.scope) : FnOk P w K mg base CX0 1 fI fd ["self", "what", "many", "most"] (spSup3 C "what" "many" "most") := by
  obtain ⟨oc, od, osl, kV, doc, pm, an, cda, ct, cc, rfl, lk, hcd, T⟩ := I.fn
  refine fn_sup (ps := ["self", "what", "many", "most"]) (N := ["self", "what", "many", "most"]) (sp := spSup3 C "what" "many" "most") (CX := CX0) (k := 0) lk hcd scITooMany T mS rfl rfl rfl (by rw [hP]; rfl) (by intro _ _ _ _; rfl) ?_ ?_
  · rintro vs H Q E ⟨a, u, v, x, rfl, _⟩
    rfl
  · rintro A outer s H vs Q E hr ⟨a, u, v, x, rfl, ha, q⟩
    refine ⟨a, [u, v, x], _, rfl, ha, pss_cons (ps_ost (pv 0) (pv 1)) (pss_cons (ps_ost (pv 0) (pv 2)) (pss_one (ps_ost (pv 0) (pv 3)))), ⟨_, rfl, _, rfl, a, C, rfl, I.sup.oex, I.no _ (by decide +kernel), .inl ⟨ha, fun d hd hda => ?_⟩⟩⟩
    refine ⟨_, rfl, _, rfl, a, C, rfl, I.sup.oex, I.no _ (by decide +kernel), .inr ⟨d, _, upd_same, by rw [upd_ne hda]; exact upd_same, by simp, ?_⟩⟩
    exact ⟨_, rfl, _, rfl, a, C, rfl, I.sup.oex, I.no _ (by decide +kernel), .inr ⟨d, _, by rw [upd_ne (Ne.symm hda)]; exact upd_same, upd_same, by simp, q d hd hda⟩⟩
end
end Pk
namespace Pk
open L2 PyProof.Rows PySem.Spec PySem
abbrev sR0 : Stmt := top 22
abbrev sR1 : Stmt := top 23
structure Errs (P : Program) (K : PySem.W.Frag) (mg : Str → Option Value) : Prop where
  iBadStyle : ∃ fd, Hx.InitF P K mg "BadStyle" "BadStyle.__init__" sIBadStyle ["style"] (He.ga K "BadStyle") (He.ma K (He.ga K "BadStyle") "__init__") fd
  iBadSum : ∃ fd, Hx.InitF P K mg "BadSum" "BadSum.__init__" sIBadSum ["text"] (He.ga K "BadSum") (He.ma K (He.ga K "BadSum") "__init__") fd
  iBadKind : ∃ fd, Hx.InitF P K mg "BadKind" "BadKind.__init__" sIBadKind ["kind"] (He.ga K "BadKind") (He.ma K (He.ga K "BadKind") "__init__") fd
  iBadLine : ∃ fd, Hx.InitF P K mg "BadLine" "BadLine.__init__" sIBadLine ["line"] (He.ga K "BadLine") (He.ma K (He.ga K "BadLine") "__init__") fd
  iRefused : ∃ fd, Hx.InitF P K mg "Refused" "Refused.__init__" sIRefused ["line"] (He.ga K "Refused") (He.ma K (He.ga K "Refused") "__init__") fd
  iBadCapacity : ∃ fd, Hx.InitF P K mg "BadCapacity" "BadCapacity.__init__" sIBadCapacity ["k"] (He.ga K "BadCapacity") (He.ma K (He.ga K "BadCapacity") "__init__") fd
  iBadCase : ∃ fd, Hx.InitF P K mg "BadCase" "BadCase.__init__" sIBadCase ["case"] (He.ga K "BadCase") (He.ma K (He.ga K "BadCase") "__init__") fd
  iBadPromise : ∃ fd, Hx.InitF P K mg "BadPromise" "BadPromise.__init__" sIBadPromise ["promise"] (He.ga K "BadPromise") (He.ma K (He.ga K "BadPromise") "__init__") fd
  iNoLine : ∃ fd, Hx.InitF P K mg "NoLine" "NoLine.__init__" sINoLine ["line"] (He.ga K "NoLine") (He.ma K (He.ga K "NoLine") "__init__") fd
  iOtherKinds : ∃ fd, Hx.InitF P K mg "OtherKinds" "OtherKinds.__init__" sIOtherKinds [] (He.ga K "OtherKinds") (He.ma K (He.ga K "OtherKinds") "__init__") fd
  iOtherRules : ∃ fd, Hx.InitF P K mg "OtherRules" "OtherRules.__init__" sIOtherRules [] (He.ga K "OtherRules") (He.ma K (He.ga K "OtherRules") "__init__") fd
  iWrongCode : ∃ fd, Hx.InitF P K mg "WrongCode" "WrongCode.__init__" sIWrongCode ["code"] (He.ga K "WrongCode") (He.ma K (He.ga K "WrongCode") "__init__") fd
  iBadKey : ∃ fd, Hx.InitF P K mg "BadKey" "BadKey.__init__" sIBadKey ["key"] (He.ga K "BadKey") (He.ma K (He.ga K "BadKey") "__init__") fd
  iTwiceKey : ∃ fd, Hx.InitF P K mg "TwiceKey" "TwiceKey.__init__" sITwiceKey ["key"] (He.ga K "TwiceKey") (He.ma K (He.ga K "TwiceKey") "__init__") fd
  iNoKey : ∃ fd, Hx.InitF P K mg "NoKey" "NoKey.__init__" sINoKey ["key"] (He.ga K "NoKey") (He.ma K (He.ga K "NoKey") "__init__") fd
  iTooMany : ∃ fd, Hx.InitF P K mg "TooMany" "TooMany.__init__" sITooMany ["what", "many", "most"] (He.ga K "TooMany") (He.ma K (He.ga K "TooMany") "__init__") fd
  mS : mg "super" = none
  hP : P.main.scope = (progOf).main.scope
/-- which error the k-th one is -/
def clsN : Nat → Str
  | 0 => "BadStyle"
  | 1 => "BadSum"
  | 2 => "BadKind"
  | 3 => "BadLine"
  | 4 => "Refused"
  | 5 => "BadCapacity"
  | 6 => "BadCase"
  | 7 => "BadPromise"
  | 8 => "NoLine"
  | 9 => "OtherKinds"
  | 10 => "OtherRules"
  | 11 => "WrongCode"
  | 12 => "BadKey"
  | 13 => "TwiceKey"
  | 14 => "NoKey"
  | 15 => "TooMany"
  | _ => ""
def noD (k : Nat) : Bool := k == 9 || k == 10
def xdOf (k : Nat) (a b c : V) : List (Str × V) := match k with
  | 0 => [("style", a)]
  | 1 => [("text", a)]
  | 2 => [("kind", a)]
  | 3 => [("line", a)]
  | 4 => [("line", a)]
  | 5 => [("k", a)]
  | 6 => [("case", a)]
  | 7 => [("promise", a)]
  | 8 => [("line", a)]
  | 9 => []
  | 10 => []
  | 11 => [("code", a)]
  | 12 => [("key", a)]
  | 13 => [("key", a)]
  | 14 => [("key", a)]
  | 15 => [("most", c), ("many", b), ("what", a)]
  | _ => []
def Raised (K : PySem.W.Frag) (k : Nat) (a b c : V) (H : Hp) (E : XK) : Prop := (noD k = true → E (.ref (He.ga K (clsN k))) none H) ∧ (noD k = false → ∀ d, H d = none → E (.ref (He.ga K (clsN k))) (some d) (upd H d (.xd (xdOf k a b c))))
def spRaised (K : PySem.W.Frag) (lo hi : Nat) : Sp := fun vs H Q E => ∃ (k : Nat) (a b c : V), vs = [.int k, a, b, c] ∧ lo ≤ k ∧ k < hi ∧ Raised K k a b c H E
section
variable {K : PySem.W.Frag} {P : Program} {w : World} {base : Heap} {mg : Str → Option Value}
theorem sc_law_raised_0 : FnScope ["_law_k", "_law_a", "_law_b", "_law_c"] ["_law_k", "_law_a", "_law_b", "_law_c"] (defScope sR0) := ⟨rfl, rfl, rfl, by decide +kernel, rfl, by decide +kernel, by decide +kernel⟩
theorem ok_law_raised_0 {f : Addr} {fd : FuncData} (F : FunD K "_law_raised_0" "_law_raised_0" (defArgs sR0) (defBody sR0) (defScope sR0) [] [] f fd) (ER : Errs P K mg) : FnOk P w K mg base (L2.CX P w) 3 f fd ["_law_k", "_law_a", "_law_b", "_law_c"] (spRaised K 0 8) := by
  refine F.ok sc_law_raised_0 (fun vs H Q E h => ?_) (fun cdv A outer s H vs Q E hr h => ?_)
  · obtain ⟨k, a, b, c, rfl, _⟩ := h
    rfl
  · obtain ⟨k, a, b, c, rfl, h1, h2, q1, q2⟩ := h
    obtain ⟨fdBadStyle, IBadStyle⟩ := ER.iBadStyle
    obtain ⟨fdBadSum, IBadSum⟩ := ER.iBadSum
    obtain ⟨fdBadKind, IBadKind⟩ := ER.iBadKind
    obtain ⟨fdBadLine, IBadLine⟩ := ER.iBadLine
    obtain ⟨fdRefused, IRefused⟩ := ER.iRefused
    obtain ⟨fdBadCapacity, IBadCapacity⟩ := ER.iBadCapacity
    obtain ⟨fdBadCase, IBadCase⟩ := ER.iBadCase
    obtain ⟨fdBadPromise, IBadPromise⟩ := ER.iBadPromise
    refine ⟨_, (pss_cons (by exact (ps_if (pt_cmpR op_eq (pv 0) pe_int (nomark _)) (pss_one (by exact (ps_raise rfl (takes_of rfl rfl rfl rfl) (pmk_sup1 IBadStyle.sup (okIBadStyle IBadStyle ER.mS ER.hP) hr (bIBadStyle IBadStyle) pass0 rfl (pv 1))))) pss_nil)) (pss_cons (by exact (ps_if (pt_cmpR op_eq (pv 0) pe_int (nomark _)) (pss_one (by exact (ps_raise rfl (takes_of rfl rfl rfl rfl) (pmk_sup1 IBadSum.sup (okIBadSum IBadSum ER.mS ER.hP) hr (bIBadSum IBadSum) pass0 rfl (pv 1))))) pss_nil)) (pss_cons (by exact (ps_if (pt_cmpR op_eq (pv 0) pe_int (nomark _)) (pss_one (by exact (ps_raise rfl (takes_of rfl rfl rfl rfl) (pmk_sup1 IBadKind.sup (okIBadKind IBadKind ER.mS ER.hP) hr (bIBadKind IBadKind) pass0 rfl (pv 1))))) pss_nil)) (pss_cons (by exact (ps_if (pt_cmpR op_eq (pv 0) pe_int (nomark _)) (pss_one (by exact (ps_raise rfl (takes_of rfl rfl rfl rfl) (pmk_sup1 IBadLine.sup (okIBadLine IBadLine ER.mS ER.hP) hr (bIBadLine IBadLine) pass0 rfl (pv 1))))) pss_nil)) (pss_cons (by exact (ps_if (pt_cmpR op_eq (pv 0) pe_int (nomark _)) (pss_one (by exact (ps_raise rfl (takes_of rfl rfl rfl rfl) (pmk_sup1 IRefused.sup (okIRefused IRefused ER.mS ER.hP) hr (bIRefused IRefused) pass0 rfl (pv 1))))) pss_nil)) (pss_cons (by exact (ps_if (pt_cmpR op_eq (pv 0) pe_int (nomark _)) (pss_one (by exact (ps_raise rfl (takes_of rfl rfl rfl rfl) (pmk_sup1 IBadCapacity.sup (okIBadCapacity IBadCapacity ER.mS ER.hP) hr (bIBadCapacity IBadCapacity) pass0 rfl (pv 1))))) pss_nil)) (pss_cons (by exact (ps_if (pt_cmpR op_eq (pv 0) pe_int (nomark _)) (pss_one (by exact (ps_raise rfl (takes_of rfl rfl rfl rfl) (pmk_sup1 IBadCase.sup (okIBadCase IBadCase ER.mS ER.hP) hr (bIBadCase IBadCase) pass0 rfl (pv 1))))) pss_nil)) (pss_cons (by exact (ps_if (pt_cmpR op_eq (pv 0) pe_int (nomark _)) (pss_one (by exact (ps_raise rfl (takes_of rfl rfl rfl rfl) (pmk_sup1 IBadPromise.sup (okIBadPromise IBadPromise ER.mS ER.hP) hr (bIBadPromise IBadPromise) pass0 rfl (pv 1))))) pss_nil)) (pss_one (by exact (ps_ret pe_non))))))))))), ?_⟩
    have hk : k = 0 ∨ k = 1 ∨ k = 2 ∨ k = 3 ∨ k = 4 ∨ k = 5 ∨ k = 6 ∨ k = 7 := by omega
    rcases hk with rfl | rfl | rfl | rfl | rfl | rfl | rfl | rfl
    · refine ⟨_, rfl, rfl, _, rfl, iteT ?_⟩
      exact ⟨_, rfl, fun d hd => q2 rfl d hd⟩
    · refine ⟨_, rfl, rfl, _, rfl, iteF ?_⟩
      refine ⟨_, rfl, rfl, _, rfl, iteT ?_⟩
      exact ⟨_, rfl, fun d hd => q2 rfl d hd⟩
    · refine ⟨_, rfl, rfl, _, rfl, iteF ?_⟩
      refine ⟨_, rfl, rfl, _, rfl, iteF ?_⟩
      refine ⟨_, rfl, rfl, _, rfl, iteT ?_⟩
      exact ⟨_, rfl, fun d hd => q2 rfl d hd⟩
    · refine ⟨_, rfl, rfl, _, rfl, iteF ?_⟩
      refine ⟨_, rfl, rfl, _, rfl, iteF ?_⟩
      refine ⟨_, rfl, rfl, _, rfl, iteF ?_⟩
      refine ⟨_, rfl, rfl, _, rfl, iteT ?_⟩
      exact ⟨_, rfl, fun d hd => q2 rfl d hd⟩
    · refine ⟨_, rfl, rfl, _, rfl, iteF ?_⟩
      refine ⟨_, rfl, rfl, _, rfl, iteF ?_⟩
      refine ⟨_, rfl, rfl, _, rfl, iteF ?_⟩
      refine ⟨_, rfl, rfl, _, rfl, iteF ?_⟩
      refine ⟨_, rfl, rfl, _, rfl, iteT ?_⟩
      exact ⟨_, rfl, fun d hd => q2 rfl d hd⟩
    · refine ⟨_, rfl, rfl, _, rfl, iteF ?_⟩
      refine ⟨_, rfl, rfl, _, rfl, iteF ?_⟩
      refine ⟨_, rfl, rfl, _, rfl, iteF ?_⟩
      refine ⟨_, rfl, rfl, _, rfl, iteF ?_⟩
      refine ⟨_, rfl, rfl, _, rfl, iteF ?_⟩
      refine ⟨_, rfl, rfl, _, rfl, iteT ?_⟩
      exact ⟨_, rfl, fun d hd => q2 rfl d hd⟩
    · refine ⟨_, rfl, rfl, _, rfl, iteF ?_⟩
      refine ⟨_, rfl, rfl, _, rfl, iteF ?_⟩
      refine ⟨_, rfl, rfl, _, rfl, iteF ?_⟩
      refine ⟨_, rfl, rfl, _, rfl, iteF ?_⟩
      refine ⟨_, rfl, rfl, _, rfl, iteF ?_⟩
      refine ⟨_, rfl, rfl, _, rfl, iteF ?_⟩
      refine ⟨_, rfl, rfl, _, rfl, iteT ?_⟩
      exact ⟨_, rfl, fun d hd => q2 rfl d hd⟩
    · refine ⟨_, rfl, rfl, _, rfl, iteF ?_⟩
      refine ⟨_, rfl, rfl, _, rfl, iteF ?_⟩
      refine ⟨_, rfl, rfl, _, rfl, iteF ?_⟩
      refine ⟨_, rfl, rfl, _, rfl, iteF ?_⟩
      refine ⟨_, rfl, rfl, _, rfl, iteF ?_⟩
      refine ⟨_, rfl, rfl, _, rfl, iteF ?_⟩
      refine ⟨_, rfl, rfl, _, rfl, iteF ?_⟩
      refine ⟨_, rfl, rfl, _, rfl, iteT ?_⟩
      exact ⟨_, rfl, fun d hd => q2 rfl d hd⟩
theorem sc_law_raised_1 : FnScope ["_law_k", "_law_a", "_law_b", "_law_c"] ["_law_k", "_law_a", "_law_b", "_law_c"] (defScope sR1) := ⟨rfl, rfl, rfl, by decide +kernel, rfl, by decide +kernel, by decide +kernel⟩
theorem ok_law_raised_1 {f : Addr} {fd : FuncData} (F : FunD K "_law_raised_1" "_law_raised_1" (defArgs sR1) (defBody sR1) (defScope sR1) [] [] f fd) (ER : Errs P K mg) : FnOk P w K mg base (L2.CX P w) 3 f fd ["_law_k", "_law_a", "_law_b", "_law_c"] (spRaised K 8 16) := by
  refine F.ok sc_law_raised_1 (fun vs H Q E h => ?_) (fun cdv A outer s H vs Q E hr h => ?_)
  · obtain ⟨k, a, b, c, rfl, _⟩ := h
    rfl
  · obtain ⟨k, a, b, c, rfl, h1, h2, q1, q2⟩ := h
    obtain ⟨fdNoLine, INoLine⟩ := ER.iNoLine
    obtain ⟨fdOtherKinds, IOtherKinds⟩ := ER.iOtherKinds
    obtain ⟨fdOtherRules, IOtherRules⟩ := ER.iOtherRules
    obtain ⟨fdWrongCode, IWrongCode⟩ := ER.iWrongCode
    obtain ⟨fdBadKey, IBadKey⟩ := ER.iBadKey
    obtain ⟨fdTwiceKey, ITwiceKey⟩ := ER.iTwiceKey
    obtain ⟨fdNoKey, INoKey⟩ := ER.iNoKey
    obtain ⟨fdTooMany, ITooMany⟩ := ER.iTooMany
    refine ⟨_, (pss_cons (by exact (ps_if (pt_cmpR op_eq (pv 0) pe_int (nomark _)) (pss_one (by exact (ps_raise rfl (takes_of rfl rfl rfl rfl) (pmk_sup1 INoLine.sup (okINoLine INoLine ER.mS ER.hP) hr (bINoLine INoLine) pass0 rfl (pv 1))))) pss_nil)) (pss_cons (by exact (ps_if (pt_cmpR op_eq (pv 0) pe_int (nomark _)) (pss_one (by exact (ps_raise rfl (takes_of rfl rfl rfl rfl) (pmk_sup0 IOtherKinds.sup (okIOtherKinds IOtherKinds ER.mS ER.hP) hr (bIOtherKinds IOtherKinds) pass0 rfl )))) pss_nil)) (pss_cons (by exact (ps_if (pt_cmpR op_eq (pv 0) pe_int (nomark _)) (pss_one (by exact (ps_raise rfl (takes_of rfl rfl rfl rfl) (pmk_sup0 IOtherRules.sup (okIOtherRules IOtherRules ER.mS ER.hP) hr (bIOtherRules IOtherRules) pass0 rfl )))) pss_nil)) (pss_cons (by exact (ps_if (pt_cmpR op_eq (pv 0) pe_int (nomark _)) (pss_one (by exact (ps_raise rfl (takes_of rfl rfl rfl rfl) (pmk_sup1 IWrongCode.sup (okIWrongCode IWrongCode ER.mS ER.hP) hr (bIWrongCode IWrongCode) pass0 rfl (pv 1))))) pss_nil)) (pss_cons (by exact (ps_if (pt_cmpR op_eq (pv 0) pe_int (nomark _)) (pss_one (by exact (ps_raise rfl (takes_of rfl rfl rfl rfl) (pmk_sup1 IBadKey.sup (okIBadKey IBadKey ER.mS ER.hP) hr (bIBadKey IBadKey) pass0 rfl (pv 1))))) pss_nil)) (pss_cons (by exact (ps_if (pt_cmpR op_eq (pv 0) pe_int (nomark _)) (pss_one (by exact (ps_raise rfl (takes_of rfl rfl rfl rfl) (pmk_sup1 ITwiceKey.sup (okITwiceKey ITwiceKey ER.mS ER.hP) hr (bITwiceKey ITwiceKey) pass0 rfl (pv 1))))) pss_nil)) (pss_cons (by exact (ps_if (pt_cmpR op_eq (pv 0) pe_int (nomark _)) (pss_one (by exact (ps_raise rfl (takes_of rfl rfl rfl rfl) (pmk_sup1 INoKey.sup (okINoKey INoKey ER.mS ER.hP) hr (bINoKey INoKey) pass0 rfl (pv 1))))) pss_nil)) (pss_cons (by exact (ps_if (pt_cmpR op_eq (pv 0) pe_int (nomark _)) (pss_one (by exact (ps_raise rfl (takes_of rfl rfl rfl rfl) (pmk_sup3 ITooMany.sup (okITooMany ITooMany ER.mS ER.hP) hr (bITooMany ITooMany) pass0 rfl (pv 1) (pv 2) (pv 3))))) pss_nil)) (pss_one (by exact (ps_ret pe_non))))))))))), ?_⟩
    have hk : k = 8 ∨ k = 9 ∨ k = 10 ∨ k = 11 ∨ k = 12 ∨ k = 13 ∨ k = 14 ∨ k = 15 := by omega
    rcases hk with rfl | rfl | rfl | rfl | rfl | rfl | rfl | rfl
    · refine ⟨_, rfl, rfl, _, rfl, iteT ?_⟩
      exact ⟨_, rfl, fun d hd => q2 rfl d hd⟩
    · refine ⟨_, rfl, rfl, _, rfl, iteF ?_⟩
      refine ⟨_, rfl, rfl, _, rfl, iteT ?_⟩
      exact q1 rfl
    · refine ⟨_, rfl, rfl, _, rfl, iteF ?_⟩
      refine ⟨_, rfl, rfl, _, rfl, iteF ?_⟩
      refine ⟨_, rfl, rfl, _, rfl, iteT ?_⟩
      exact q1 rfl
    · refine ⟨_, rfl, rfl, _, rfl, iteF ?_⟩
      refine ⟨_, rfl, rfl, _, rfl, iteF ?_⟩
      refine ⟨_, rfl, rfl, _, rfl, iteF ?_⟩
      refine ⟨_, rfl, rfl, _, rfl, iteT ?_⟩
      exact ⟨_, rfl, fun d hd => q2 rfl d hd⟩
    · refine ⟨_, rfl, rfl, _, rfl, iteF ?_⟩
      refine ⟨_, rfl, rfl, _, rfl, iteF ?_⟩
      refine ⟨_, rfl, rfl, _, rfl, iteF ?_⟩
      refine ⟨_, rfl, rfl, _, rfl, iteF ?_⟩
      refine ⟨_, rfl, rfl, _, rfl, iteT ?_⟩
      exact ⟨_, rfl, fun d hd => q2 rfl d hd⟩
    · refine ⟨_, rfl, rfl, _, rfl, iteF ?_⟩
      refine ⟨_, rfl, rfl, _, rfl, iteF ?_⟩
      refine ⟨_, rfl, rfl, _, rfl, iteF ?_⟩
      refine ⟨_, rfl, rfl, _, rfl, iteF ?_⟩
      refine ⟨_, rfl, rfl, _, rfl, iteF ?_⟩
      refine ⟨_, rfl, rfl, _, rfl, iteT ?_⟩
      exact ⟨_, rfl, fun d hd => q2 rfl d hd⟩
    · refine ⟨_, rfl, rfl, _, rfl, iteF ?_⟩
      refine ⟨_, rfl, rfl, _, rfl, iteF ?_⟩
      refine ⟨_, rfl, rfl, _, rfl, iteF ?_⟩
      refine ⟨_, rfl, rfl, _, rfl, iteF ?_⟩
      refine ⟨_, rfl, rfl, _, rfl, iteF ?_⟩
      refine ⟨_, rfl, rfl, _, rfl, iteF ?_⟩
      refine ⟨_, rfl, rfl, _, rfl, iteT ?_⟩
      exact ⟨_, rfl, fun d hd => q2 rfl d hd⟩
    · refine ⟨_, rfl, rfl, _, rfl, iteF ?_⟩
      refine ⟨_, rfl, rfl, _, rfl, iteF ?_⟩
      refine ⟨_, rfl, rfl, _, rfl, iteF ?_⟩
      refine ⟨_, rfl, rfl, _, rfl, iteF ?_⟩
      refine ⟨_, rfl, rfl, _, rfl, iteF ?_⟩
      refine ⟨_, rfl, rfl, _, rfl, iteF ?_⟩
      refine ⟨_, rfl, rfl, _, rfl, iteF ?_⟩
      refine ⟨_, rfl, rfl, _, rfl, iteT ?_⟩
      exact ⟨_, rfl, _, rfl, _, rfl, fun d hd => q2 rfl d hd⟩
end
end Pk
namespace Pk
open L2 PyProof.Rows PySem.Spec PySem
abbrev sRaised : Stmt := top 24
abbrev sKinds : Stmt := top 25
abbrev sCaught : Stmt := top 26
/-! ### the facts of the sixteen classes among each other -/
def kindsB (K : PySem.W.Frag) : Bool := (List.range 16).all fun k =>
  (decide (PySem.W.kitOne K (.ref (He.ga K (clsN k))) (.type "ValueError") = some true) && (decide (PySem.W.exmOne K (.ref (He.ga K (clsN k))) (.ref (He.ga K "PageError")) = some true) &&
  (List.range 16).all fun j => decide (PySem.W.kitOne K (.ref (He.ga K (clsN k))) (.ref (He.ga K (clsN j))) = some (decide (j = k))) && decide (PySem.W.exmOne K (.ref (He.ga K (clsN k))) (.ref (He.ga K (clsN j))) = some (decide (j = k))))) &&
  (decide (PySem.W.findIn K (.ref (He.ga K (clsN k))) "__class__" = some (some (.builtin "object.__class__"))) && (decide (PySem.W.specialIn K (.builtin "object.__class__") "__get__" = some (some (.builtin "getset_descriptor.__get__"))) && (decide (PySem.W.takesIn K (.builtin "object.__class__") = some true) &&
  (decide (PySem.W.mroIn K (He.ga K (clsN k)) (.type "object") = some true) && xfB K (He.ga K (clsN k))))))
structure KindsF (K : PySem.W.Frag) : Prop where
  ve : ∀ k, k < 16 → PySem.W.kitOne K (.ref (He.ga K (clsN k))) (.type "ValueError") = some true
  pe : ∀ k, k < 16 → PySem.W.exmOne K (.ref (He.ga K (clsN k))) (.ref (He.ga K "PageError")) = some true
  kit : ∀ k j, k < 16 → j < 16 → PySem.W.kitOne K (.ref (He.ga K (clsN k))) (.ref (He.ga K (clsN j))) = some (decide (j = k))
  exm : ∀ k j, k < 16 → j < 16 → PySem.W.exmOne K (.ref (He.ga K (clsN k))) (.ref (He.ga K (clsN j))) = some (decide (j = k))
  exc : ∀ k, k < 16 → ExcC K (He.ga K (clsN k))
  xf : ∀ k, k < 16 → XfC K (He.ga K (clsN k))
theorem kindsB_ok {K : PySem.W.Frag} (h : kindsB K = true) : KindsF K := by
  have g : ∀ k, k < 16 → _ := fun k hk => Bool.and_eq_true_iff.mp (List.all_eq_true.mp h k (List.mem_range.mpr hk))
  have x : ∀ k, k < 16 → XfC K (He.ga K (clsN k)) := fun k hk => by
    obtain ⟨_, b⟩ := Bool.and_eq_true_iff.mp (g k hk).2
    obtain ⟨_, b⟩ := Bool.and_eq_true_iff.mp b
    obtain ⟨_, b⟩ := Bool.and_eq_true_iff.mp b
    exact xfB_ok (Bool.and_eq_true_iff.mp b).2
  refine ⟨fun k hk => ?_, fun k hk => ?_, fun k j hk hj => ?_, fun k j hk hj => ?_, fun k hk => ?_, x⟩
  · exact of_decide_eq_true (Bool.and_eq_true_iff.mp (g k hk).1).1
  · exact of_decide_eq_true (Bool.and_eq_true_iff.mp (Bool.and_eq_true_iff.mp (g k hk).1).2).1
  · exact of_decide_eq_true (Bool.and_eq_true_iff.mp (List.all_eq_true.mp (Bool.and_eq_true_iff.mp (Bool.and_eq_true_iff.mp (g k hk).1).2).2 j (List.mem_range.mpr hj))).1
  · exact of_decide_eq_true (Bool.and_eq_true_iff.mp (List.all_eq_true.mp (Bool.and_eq_true_iff.mp (Bool.and_eq_true_iff.mp (g k hk).1).2).2 j (List.mem_range.mpr hj))).2
  · obtain ⟨a1, b⟩ := Bool.and_eq_true_iff.mp (g k hk).2
    obtain ⟨a2, b⟩ := Bool.and_eq_true_iff.mp b
    obtain ⟨a3, b⟩ := Bool.and_eq_true_iff.mp b
    obtain ⟨a4, _⟩ := Bool.and_eq_true_iff.mp b
    have q := x k hk
    exact ⟨q.ga, q.gg, q.exC, q.hdC, of_decide_eq_true a1, of_decide_eq_true a2, of_decide_eq_true a3, of_decide_eq_true a4⟩
section
variable {P : Program} {K : PySem.W.Frag} {mg : Str → Option Value}
theorem Errs.gBadStyle (ER : Errs P K mg) : mg "BadStyle" = some (.ref (He.ga K "BadStyle")) := let ⟨_, I⟩ := ER.iBadStyle; I.sup.gC
theorem Errs.gBadSum (ER : Errs P K mg) : mg "BadSum" = some (.ref (He.ga K "BadSum")) := let ⟨_, I⟩ := ER.iBadSum; I.sup.gC
theorem Errs.gBadKind (ER : Errs P K mg) : mg "BadKind" = some (.ref (He.ga K "BadKind")) := let ⟨_, I⟩ := ER.iBadKind; I.sup.gC
theorem Errs.gBadLine (ER : Errs P K mg) : mg "BadLine" = some (.ref (He.ga K "BadLine")) := let ⟨_, I⟩ := ER.iBadLine; I.sup.gC
theorem Errs.gRefused (ER : Errs P K mg) : mg "Refused" = some (.ref (He.ga K "Refused")) := let ⟨_, I⟩ := ER.iRefused; I.sup.gC
theorem Errs.gBadCapacity (ER : Errs P K mg) : mg "BadCapacity" = some (.ref (He.ga K "BadCapacity")) := let ⟨_, I⟩ := ER.iBadCapacity; I.sup.gC
theorem Errs.gBadCase (ER : Errs P K mg) : mg "BadCase" = some (.ref (He.ga K "BadCase")) := let ⟨_, I⟩ := ER.iBadCase; I.sup.gC
theorem Errs.gBadPromise (ER : Errs P K mg) : mg "BadPromise" = some (.ref (He.ga K "BadPromise")) := let ⟨_, I⟩ := ER.iBadPromise; I.sup.gC
theorem Errs.gNoLine (ER : Errs P K mg) : mg "NoLine" = some (.ref (He.ga K "NoLine")) := let ⟨_, I⟩ := ER.iNoLine; I.sup.gC
theorem Errs.gOtherKinds (ER : Errs P K mg) : mg "OtherKinds" = some (.ref (He.ga K "OtherKinds")) := let ⟨_, I⟩ := ER.iOtherKinds; I.sup.gC
theorem Errs.gOtherRules (ER : Errs P K mg) : mg "OtherRules" = some (.ref (He.ga K "OtherRules")) := let ⟨_, I⟩ := ER.iOtherRules; I.sup.gC
theorem Errs.gWrongCode (ER : Errs P K mg) : mg "WrongCode" = some (.ref (He.ga K "WrongCode")) := let ⟨_, I⟩ := ER.iWrongCode; I.sup.gC
theorem Errs.gBadKey (ER : Errs P K mg) : mg "BadKey" = some (.ref (He.ga K "BadKey")) := let ⟨_, I⟩ := ER.iBadKey; I.sup.gC
theorem Errs.gTwiceKey (ER : Errs P K mg) : mg "TwiceKey" = some (.ref (He.ga K "TwiceKey")) := let ⟨_, I⟩ := ER.iTwiceKey; I.sup.gC
theorem Errs.gNoKey (ER : Errs P K mg) : mg "NoKey" = some (.ref (He.ga K "NoKey")) := let ⟨_, I⟩ := ER.iNoKey; I.sup.gC
theorem Errs.gTooMany (ER : Errs P K mg) : mg "TooMany" = some (.ref (He.ga K "TooMany")) := let ⟨_, I⟩ := ER.iTooMany; I.sup.gC
end
/-- what comes is a new list of xs -/
def NewL (H : Hp) (xs : List V) (Q : VK) : Prop := ∀ p H', Same H H' → H p = none → H' p = some (.lst xs) → Q (.ref p) H'
theorem _root_.L2.Same.step {H H1 : Hp} {p : Addr} {o : HO} (s : Same H H1) (h : H1 p = none) : Same H (upd H1 p o) := fun a u e => same_new h a u (s a u e)
theorem _root_.L2.Same.back {H H1 : Hp} {p : Addr} (s : Same H H1) (h : H1 p = none) : H p = none := by
  cases e : H p with
  | none => rfl
  | some o =>
    rw [s p o e] at h
    cases h
def kindL (k : Nat) : List V := [.bl (decide (0 = k)), .bl (decide (1 = k)), .bl (decide (2 = k)), .bl (decide (3 = k)), .bl (decide (4 = k)), .bl (decide (5 = k)), .bl (decide (6 = k)), .bl (decide (7 = k)), .bl (decide (8 = k)), .bl (decide (9 = k)), .bl (decide (10 = k)), .bl (decide (11 = k)), .bl (decide (12 = k)), .bl (decide (13 = k)), .bl (decide (14 = k)), .bl (decide (15 = k))]
def Held (K : PySem.W.Frag) (k : Nat) (e : Addr) (H : Hp) : Prop := ∃ d, H e = some (excE e (.ref (He.ga K (clsN k))) d) ∧ ∀ dd, d = some dd → ∃ fs, H dd = some (.xd fs)
theorem Held.keep {K : PySem.W.Frag} {k : Nat} {e : Addr} {H H' : Hp} (h : Held K k e H) (s : Same H H') : Held K k e H' := by
  obtain ⟨d, h1, h2⟩ := h
  exact ⟨d, s _ _ h1, fun dd z => let ⟨fs, q⟩ := h2 dd z; ⟨fs, s _ _ q⟩⟩
theorem Held.is {K : PySem.W.Frag} {k j : Nat} {e : Addr} {H : Hp} {Q : VK} (h : Held K k e H) (G : KindsF K) (hk : k < 16) (hj : j < 16) (q : Q (.bl (decide (j = k))) H) : rIsT K [.ref e, .ref (He.ga K (clsN j))] H Q := by
  obtain ⟨d, h1, h2⟩ := h
  exact ⟨e, _, d, _, _, _, rfl, h1, h2, G.exc k hk, fun u r => r, G.kit k j hk hj, q⟩
theorem Held.ve {K : PySem.W.Frag} {k : Nat} {e : Addr} {H : Hp} {Q : VK} (h : Held K k e H) (G : KindsF K) (hk : k < 16) (q : Q (.bl true) H) : rIsT K [.ref e, .ty "ValueError"] H Q := by
  obtain ⟨d, h1, h2⟩ := h
  exact ⟨e, _, d, _, _, _, rfl, h1, h2, G.exc k hk, fun u r => r, G.ve k hk, q⟩
def spKinds (K : PySem.W.Frag) : Sp := fun vs H Q _ => ∃ (k : Nat) (e : Addr), vs = [.ref e] ∧ k < 16 ∧ Held K k e H ∧ NewL H (kindL k) Q
def spCaught : Sp := fun vs H Q _ => ∃ (k : Nat) (a b c : V), vs = [.int k, a, b, c] ∧ k < 16 ∧ NewL H (.bl true :: kindL k) Q
section
variable {K : PySem.W.Frag} {P : Program} {w : World} {base : Heap} {mg : Str → Option Value}
theorem sc_law_raised : FnScope ["_law_k", "_law_a", "_law_b", "_law_c"] ["_law_k", "_law_a", "_law_b", "_law_c"] (defScope sRaised) := ⟨rfl, rfl, rfl, by decide +kernel, rfl, by decide +kernel, by decide +kernel⟩
theorem ok_law_raised {f f0 f1 : Addr} {fd fd0 fd1 : FuncData} (F : FunD K "_law_raised" "_law_raised" (defArgs sRaised) (defBody sRaised) (defScope sRaised) [] [] f fd)
    (F0 : FunD K "_law_raised_0" "_law_raised_0" (defArgs sR0) (defBody sR0) (defScope sR0) [] [] f0 fd0) (F1 : FunD K "_law_raised_1" "_law_raised_1" (defArgs sR1) (defBody sR1) (defScope sR1) [] [] f1 fd1) (ER : Errs P K mg)
    (g0 : mg "_law_raised_0" = some (.ref f0)) (g1 : mg "_law_raised_1" = some (.ref f1)) : FnOk P w K mg base (L2.CX P w) 4 f fd ["_law_k", "_law_a", "_law_b", "_law_c"] (spRaised K 0 16) := by
  have G0 : FnOk P w K mg base (L2.CX P w) 3 f0 fd0 ["_law_k", "_law_a", "_law_b", "_law_c"] (spRaised K 0 8) := ok_law_raised_0 F0 ER
  have G1 : FnOk P w K mg base (L2.CX P w) 3 f1 fd1 ["_law_k", "_law_a", "_law_b", "_law_c"] (spRaised K 8 16) := ok_law_raised_1 F1 ER
  have b0 : Binds K fd0 ["_law_k", "_law_a", "_law_b", "_law_c"] [] := F0.bindsN fun _ _ _ _ _ _ us hl => match us, hl with | [_, _, _, _], _ => rfl
  have b1 : Binds K fd1 ["_law_k", "_law_a", "_law_b", "_law_c"] [] := F1.bindsN fun _ _ _ _ _ _ us hl => match us, hl with | [_, _, _, _], _ => rfl
  refine F.ok sc_law_raised (fun vs H Q E h => ?_) (fun cdv A outer s H vs Q E hr h => ?_)
  · obtain ⟨k, a, b, c, rfl, _⟩ := h
    rfl
  · obtain ⟨k, a, b, c, rfl, h1, h2, q⟩ := h
    refine ⟨_, (pss_cons (by exact (ps_if (pt_cmpR op_lt (pv 0) pe_int (nomark _)) (pss_one (by exact (ps_ret (pe_callS G0 hr rfl g0 F0.kp b0 (fun σ => passAt (takes_of rfl rfl rfl rfl) σ) (pa_cons (pv 0) (pa_cons (pv 1) (pa_cons (pv 2) (pa_cons (pv 3) pa_nil)))))))) pss_nil)) (pss_one (by exact (ps_ret (pe_callS G1 hr rfl g1 F1.kp b1 (fun σ => passAt (takes_of rfl rfl rfl rfl) σ) (pa_cons (pv 0) (pa_cons (pv 1) (pa_cons (pv 2) (pa_cons (pv 3) pa_nil))))))))), ?_⟩
    refine ⟨_, rfl, _, _, rfl, rfl, _, rfl, ite2 (fun e => ?_) fun e => ?_⟩
    · have e' : (k : Int) < 8 := of_decide_eq_true e
      exact ⟨_, rfl, _, rfl, _, rfl, _, rfl, k, a, b, c, rfl, h1, by omega, q⟩
    · have e' : ¬ (k : Int) < 8 := fun z => e (decide_eq_true z)
      exact ⟨_, rfl, _, rfl, _, rfl, _, rfl, k, a, b, c, rfl, by omega, h2, q⟩
theorem sc_law_kinds_of : FnScope ["_law_e", "_law_found"] ["_law_e"] (defScope sKinds) := ⟨rfl, rfl, rfl, by decide +kernel, rfl, by decide +kernel, by decide +kernel⟩
theorem ok_law_kinds_of {f : Addr} {fd : FuncData} (F : FunD K "_law_kinds_of" "_law_kinds_of" (defArgs sKinds) (defBody sKinds) (defScope sKinds) [] [] f fd) (ER : Errs P K mg) (KF : KindsF K) (mIsi : mg "isinstance" = none) : FnW P w K mg base CX0 1 f fd ["_law_e"] (spKinds K) := by
  refine F.warm sc_law_kinds_of (fun vs H Q E h => ?_) (fun cdv A outer s H vs Q E hr h => ?_)
  · obtain ⟨k, e, rfl, _⟩ := h
    rfl
  · obtain ⟨k, e, rfl, hk, hh, q⟩ := h
    refine ⟨_, PSs.nox (pss_cons (by exact (ps_set (i := 1) sc_law_kinds_of.nd rfl (Or.inl rfl) (pe_lst (pa_cons (pe_callB call_isT (by rfl) mIsi PyProof.Rows.boot_isinstance (pa_cons (pv 0) (pa_cons (pe_glob (v := .ref (He.ga K "BadStyle")) (by rfl) (ER.gBadStyle) rfl) pa_nil))) (pa_cons (pe_callB call_isT (by rfl) mIsi PyProof.Rows.boot_isinstance (pa_cons (pv 0) (pa_cons (pe_glob (v := .ref (He.ga K "BadSum")) (by rfl) (ER.gBadSum) rfl) pa_nil))) (pa_cons (pe_callB call_isT (by rfl) mIsi PyProof.Rows.boot_isinstance (pa_cons (pv 0) (pa_cons (pe_glob (v := .ref (He.ga K "BadKind")) (by rfl) (ER.gBadKind) rfl) pa_nil))) pa_nil)))))) (pss_cons (by exact (ps_set (i := 1) sc_law_kinds_of.nd rfl (Or.inl rfl) (pe_op op_cat (pv 1) (pe_lst (pa_cons (pe_callB call_isT (by rfl) mIsi PyProof.Rows.boot_isinstance (pa_cons (pv 0) (pa_cons (pe_glob (v := .ref (He.ga K "BadLine")) (by rfl) (ER.gBadLine) rfl) pa_nil))) (pa_cons (pe_callB call_isT (by rfl) mIsi PyProof.Rows.boot_isinstance (pa_cons (pv 0) (pa_cons (pe_glob (v := .ref (He.ga K "Refused")) (by rfl) (ER.gRefused) rfl) pa_nil))) (pa_cons (pe_callB call_isT (by rfl) mIsi PyProof.Rows.boot_isinstance (pa_cons (pv 0) (pa_cons (pe_glob (v := .ref (He.ga K "BadCapacity")) (by rfl) (ER.gBadCapacity) rfl) pa_nil))) pa_nil))))))) (pss_cons (by exact (ps_set (i := 1) sc_law_kinds_of.nd rfl (Or.inl rfl) (pe_op op_cat (pv 1) (pe_lst (pa_cons (pe_callB call_isT (by rfl) mIsi PyProof.Rows.boot_isinstance (pa_cons (pv 0) (pa_cons (pe_glob (v := .ref (He.ga K "BadCase")) (by rfl) (ER.gBadCase) rfl) pa_nil))) (pa_cons (pe_callB call_isT (by rfl) mIsi PyProof.Rows.boot_isinstance (pa_cons (pv 0) (pa_cons (pe_glob (v := .ref (He.ga K "BadPromise")) (by rfl) (ER.gBadPromise) rfl) pa_nil))) (pa_cons (pe_callB call_isT (by rfl) mIsi PyProof.Rows.boot_isinstance (pa_cons (pv 0) (pa_cons (pe_glob (v := .ref (He.ga K "NoLine")) (by rfl) (ER.gNoLine) rfl) pa_nil))) pa_nil))))))) (pss_cons (by exact (ps_set (i := 1) sc_law_kinds_of.nd rfl (Or.inl rfl) (pe_op op_cat (pv 1) (pe_lst (pa_cons (pe_callB call_isT (by rfl) mIsi PyProof.Rows.boot_isinstance (pa_cons (pv 0) (pa_cons (pe_glob (v := .ref (He.ga K "OtherKinds")) (by rfl) (ER.gOtherKinds) rfl) pa_nil))) (pa_cons (pe_callB call_isT (by rfl) mIsi PyProof.Rows.boot_isinstance (pa_cons (pv 0) (pa_cons (pe_glob (v := .ref (He.ga K "OtherRules")) (by rfl) (ER.gOtherRules) rfl) pa_nil))) (pa_cons (pe_callB call_isT (by rfl) mIsi PyProof.Rows.boot_isinstance (pa_cons (pv 0) (pa_cons (pe_glob (v := .ref (He.ga K "WrongCode")) (by rfl) (ER.gWrongCode) rfl) pa_nil))) pa_nil))))))) (pss_cons (by exact (ps_set (i := 1) sc_law_kinds_of.nd rfl (Or.inl rfl) (pe_op op_cat (pv 1) (pe_lst (pa_cons (pe_callB call_isT (by rfl) mIsi PyProof.Rows.boot_isinstance (pa_cons (pv 0) (pa_cons (pe_glob (v := .ref (He.ga K "BadKey")) (by rfl) (ER.gBadKey) rfl) pa_nil))) (pa_cons (pe_callB call_isT (by rfl) mIsi PyProof.Rows.boot_isinstance (pa_cons (pv 0) (pa_cons (pe_glob (v := .ref (He.ga K "TwiceKey")) (by rfl) (ER.gTwiceKey) rfl) pa_nil))) (pa_cons (pe_callB call_isT (by rfl) mIsi PyProof.Rows.boot_isinstance (pa_cons (pv 0) (pa_cons (pe_glob (v := .ref (He.ga K "NoKey")) (by rfl) (ER.gNoKey) rfl) pa_nil))) pa_nil))))))) (pss_cons (by exact (ps_set (i := 1) sc_law_kinds_of.nd rfl (Or.inl rfl) (pe_op op_cat (pv 1) (pe_lst (pa_cons (pe_callB call_isT (by rfl) mIsi PyProof.Rows.boot_isinstance (pa_cons (pv 0) (pa_cons (pe_glob (v := .ref (He.ga K "TooMany")) (by rfl) (ER.gTooMany) rfl) pa_nil))) pa_nil))))) (pss_one (by exact (ps_ret (pv 1)))))))))), ?_⟩
    have s0 : Same H H := fun _ _ z => z
    obtain ⟨d, h1, h2⟩ := hh.keep s0
    refine ⟨_, rfl, e, _, d, _, _, _, rfl, h1, h2, KF.exc k hk, fun u r => r, KF.kit k 0 hk (by decide), ?_⟩
    refine ⟨_, rfl, e, _, d, _, _, _, rfl, h1, h2, KF.exc k hk, fun u r => r, KF.kit k 1 hk (by decide), ?_⟩
    refine ⟨_, rfl, e, _, d, _, _, _, rfl, h1, h2, KF.exc k hk, fun u r => r, KF.kit k 2 hk (by decide), ?_⟩
    refine ⟨by show 3 ≤ sizeLine; decide, fun p1 hp1 => ?_⟩
    have s1 := s0.step (o := .lst [.bl (decide (0 = k)), .bl (decide (1 = k)), .bl (decide (2 = k))]) hp1
    obtain ⟨d, h1, h2⟩ := hh.keep s1
    refine ⟨_, rfl, ?_⟩
    refine ⟨_, rfl, e, _, d, _, _, _, rfl, h1, h2, KF.exc k hk, fun u r => r, KF.kit k 3 hk (by decide), ?_⟩
    refine ⟨_, rfl, e, _, d, _, _, _, rfl, h1, h2, KF.exc k hk, fun u r => r, KF.kit k 4 hk (by decide), ?_⟩
    refine ⟨_, rfl, e, _, d, _, _, _, rfl, h1, h2, KF.exc k hk, fun u r => r, KF.kit k 5 hk (by decide), ?_⟩
    refine ⟨by show 3 ≤ sizeLine; decide, fun p2 hp2 => ?_⟩
    have t2 := same_new (o := .lst [.bl (decide (3 = k)), .bl (decide (4 = k)), .bl (decide (5 = k))]) hp2
    have s2 := s1.step (o := .lst [.bl (decide (3 = k)), .bl (decide (4 = k)), .bl (decide (5 = k))]) hp2
    refine ⟨p1, p2, _, _, rfl, rfl, t2 _ _ upd_same, upd_same, by show 3 + 3 ≤ sizeLine; decide, fun p3 hp3 => ?_⟩
    have s3 := s2.step (o := .lst ([.bl (decide (0 = k)), .bl (decide (1 = k)), .bl (decide (2 = k))] ++ [.bl (decide (3 = k)), .bl (decide (4 = k)), .bl (decide (5 = k))])) hp3
    obtain ⟨d, h1, h2⟩ := hh.keep s3
    refine ⟨_, rfl, ?_⟩
    refine ⟨_, rfl, e, _, d, _, _, _, rfl, h1, h2, KF.exc k hk, fun u r => r, KF.kit k 6 hk (by decide), ?_⟩
    refine ⟨_, rfl, e, _, d, _, _, _, rfl, h1, h2, KF.exc k hk, fun u r => r, KF.kit k 7 hk (by decide), ?_⟩
    refine ⟨_, rfl, e, _, d, _, _, _, rfl, h1, h2, KF.exc k hk, fun u r => r, KF.kit k 8 hk (by decide), ?_⟩
    refine ⟨by show 3 ≤ sizeLine; decide, fun p4 hp4 => ?_⟩
    have t4 := same_new (o := .lst [.bl (decide (6 = k)), .bl (decide (7 = k)), .bl (decide (8 = k))]) hp4
    have s4 := s3.step (o := .lst [.bl (decide (6 = k)), .bl (decide (7 = k)), .bl (decide (8 = k))]) hp4
    refine ⟨p3, p4, _, _, rfl, rfl, t4 _ _ upd_same, upd_same, by show 6 + 3 ≤ sizeLine; decide, fun p5 hp5 => ?_⟩
    have s5 := s4.step (o := .lst (([.bl (decide (0 = k)), .bl (decide (1 = k)), .bl (decide (2 = k))] ++ [.bl (decide (3 = k)), .bl (decide (4 = k)), .bl (decide (5 = k))]) ++ [.bl (decide (6 = k)), .bl (decide (7 = k)), .bl (decide (8 = k))])) hp5
    obtain ⟨d, h1, h2⟩ := hh.keep s5
    refine ⟨_, rfl, ?_⟩
    refine ⟨_, rfl, e, _, d, _, _, _, rfl, h1, h2, KF.exc k hk, fun u r => r, KF.kit k 9 hk (by decide), ?_⟩
    refine ⟨_, rfl, e, _, d, _, _, _, rfl, h1, h2, KF.exc k hk, fun u r => r, KF.kit k 10 hk (by decide), ?_⟩
    refine ⟨_, rfl, e, _, d, _, _, _, rfl, h1, h2, KF.exc k hk, fun u r => r, KF.kit k 11 hk (by decide), ?_⟩
    refine ⟨by show 3 ≤ sizeLine; decide, fun p6 hp6 => ?_⟩
    have t6 := same_new (o := .lst [.bl (decide (9 = k)), .bl (decide (10 = k)), .bl (decide (11 = k))]) hp6
    have s6 := s5.step (o := .lst [.bl (decide (9 = k)), .bl (decide (10 = k)), .bl (decide (11 = k))]) hp6
    refine ⟨p5, p6, _, _, rfl, rfl, t6 _ _ upd_same, upd_same, by show 9 + 3 ≤ sizeLine; decide, fun p7 hp7 => ?_⟩
    have s7 := s6.step (o := .lst ((([.bl (decide (0 = k)), .bl (decide (1 = k)), .bl (decide (2 = k))] ++ [.bl (decide (3 = k)), .bl (decide (4 = k)), .bl (decide (5 = k))]) ++ [.bl (decide (6 = k)), .bl (decide (7 = k)), .bl (decide (8 = k))]) ++ [.bl (decide (9 = k)), .bl (decide (10 = k)), .bl (decide (11 = k))])) hp7
    obtain ⟨d, h1, h2⟩ := hh.keep s7
    refine ⟨_, rfl, ?_⟩
    refine ⟨_, rfl, e, _, d, _, _, _, rfl, h1, h2, KF.exc k hk, fun u r => r, KF.kit k 12 hk (by decide), ?_⟩
    refine ⟨_, rfl, e, _, d, _, _, _, rfl, h1, h2, KF.exc k hk, fun u r => r, KF.kit k 13 hk (by decide), ?_⟩
    refine ⟨_, rfl, e, _, d, _, _, _, rfl, h1, h2, KF.exc k hk, fun u r => r, KF.kit k 14 hk (by decide), ?_⟩
    refine ⟨by show 3 ≤ sizeLine; decide, fun p8 hp8 => ?_⟩
    have t8 := same_new (o := .lst [.bl (decide (12 = k)), .bl (decide (13 = k)), .bl (decide (14 = k))]) hp8
    have s8 := s7.step (o := .lst [.bl (decide (12 = k)), .bl (decide (13 = k)), .bl (decide (14 = k))]) hp8
    refine ⟨p7, p8, _, _, rfl, rfl, t8 _ _ upd_same, upd_same, by show 12 + 3 ≤ sizeLine; decide, fun p9 hp9 => ?_⟩
    have s9 := s8.step (o := .lst (((([.bl (decide (0 = k)), .bl (decide (1 = k)), .bl (decide (2 = k))] ++ [.bl (decide (3 = k)), .bl (decide (4 = k)), .bl (decide (5 = k))]) ++ [.bl (decide (6 = k)), .bl (decide (7 = k)), .bl (decide (8 = k))]) ++ [.bl (decide (9 = k)), .bl (decide (10 = k)), .bl (decide (11 = k))]) ++ [.bl (decide (12 = k)), .bl (decide (13 = k)), .bl (decide (14 = k))])) hp9
    obtain ⟨d, h1, h2⟩ := hh.keep s9
    refine ⟨_, rfl, ?_⟩
    refine ⟨_, rfl, e, _, d, _, _, _, rfl, h1, h2, KF.exc k hk, fun u r => r, KF.kit k 15 hk (by decide), ?_⟩
    refine ⟨by show 1 ≤ sizeLine; decide, fun p10 hp10 => ?_⟩
    have t10 := same_new (o := .lst [.bl (decide (15 = k))]) hp10
    have s10 := s9.step (o := .lst [.bl (decide (15 = k))]) hp10
    refine ⟨p9, p10, _, _, rfl, rfl, t10 _ _ upd_same, upd_same, by show 15 + 1 ≤ sizeLine; decide, fun p11 hp11 => ?_⟩
    have s11 := s10.step (o := .lst ((((([.bl (decide (0 = k)), .bl (decide (1 = k)), .bl (decide (2 = k))] ++ [.bl (decide (3 = k)), .bl (decide (4 = k)), .bl (decide (5 = k))]) ++ [.bl (decide (6 = k)), .bl (decide (7 = k)), .bl (decide (8 = k))]) ++ [.bl (decide (9 = k)), .bl (decide (10 = k)), .bl (decide (11 = k))]) ++ [.bl (decide (12 = k)), .bl (decide (13 = k)), .bl (decide (14 = k))]) ++ [.bl (decide (15 = k))])) hp11
    exact ⟨_, rfl, q p11 _ s11 (s10.back hp11) upd_same⟩
end
end Pk
namespace Pk
open L2 PyProof.Rows PySem.Spec PySem
abbrev sF0 : Stmt := top 27
abbrev sF1 : Stmt := top 28
abbrev sFields : Stmt := top 29
def fieldsOf (k : Nat) (a b c : V) : List V := match k with
  | 9 => []
  | 10 => []
  | 15 => [a, b, c]
  | _ => [a]
def spFields (lo hi : Nat) : Sp := fun vs H Q _ => ∃ (k : Nat) (a b c : V), vs = [.int k, a, b, c] ∧ lo ≤ k ∧ k < hi ∧ NewL H (fieldsOf k a b c) Q
section
variable {K : PySem.W.Frag} {P : Program} {w : World} {base : Heap} {mg : Str → Option Value}
theorem sc_law_caught : FnScope ["_law_k", "_law_a", "_law_b", "_law_c", "_law_e"] ["_law_k", "_law_a", "_law_b", "_law_c"] (defScope sCaught) := ⟨rfl, rfl, rfl, by decide +kernel, rfl, by decide +kernel, by decide +kernel⟩
theorem ok_law_caught {f fR fK : Addr} {fd fdR fdK : FuncData} (F : FunD K "_law_caught" "_law_caught" (defArgs sCaught) (defBody sCaught) (defScope sCaught) [] [] f fd)
    (FR : FunD K "_law_raised" "_law_raised" (defArgs sRaised) (defBody sRaised) (defScope sRaised) [] [] fR fdR) (FK : FunD K "_law_kinds_of" "_law_kinds_of" (defArgs sKinds) (defBody sKinds) (defScope sKinds) [] [] fK fdK)
    (GR : FnOk P w K mg base (L2.CX P w) 4 fR fdR ["_law_k", "_law_a", "_law_b", "_law_c"] (spRaised K 0 16)) (GK : FnW P w K mg base CX0 1 fK fdK ["_law_e"] (spKinds K)) (ER : Errs P K mg) (KF : KindsF K)
    (mIsi : mg "isinstance" = none) (mVE : mg "ValueError" = none) (gPageError : mg "PageError" = some (.ref (He.ga K "PageError"))) (gR : mg "_law_raised" = some (.ref fR)) (gK : mg "_law_kinds_of" = some (.ref fK)) : FnOk P w K mg base CX0 5 f fd ["_law_k", "_law_a", "_law_b", "_law_c"] spCaught := by
  have bR : Binds K fdR ["_law_k", "_law_a", "_law_b", "_law_c"] [] := FR.bindsN fun _ _ _ _ _ _ us hl => match us, hl with | [_, _, _, _], _ => rfl
  have bK : Binds K fdK ["_law_e"] [] := FK.bindsN fun _ _ _ _ _ _ us hl => match us, hl with | [_], _ => rfl
  refine F.ok sc_law_caught (fun vs H Q E h => ?_) (fun cdv A outer s H vs Q E hr h => ?_)
  · obtain ⟨k, a, b, c, rfl, _⟩ := h
    rfl
  · obtain ⟨k, a, b, c, rfl, hk, q⟩ := h
    refine ⟨_, PSs.nox (pss_cons (by exact (ps_try_all rfl rfl sc_law_caught.nd rfl takes_noX (fun W pn xe tkW po => pss_one (by exact (ps_expr (pe_callS GR (hr.mono (by decide)) rfl gR FR.kp bR (fun σ => passAt tkW σ) (pa_cons (pv 0) (pa_cons (pv 1) (pa_cons (pv 2) (pa_cons (pv 3) pa_nil)))))))) (HdsA.as_ (i := 4) ⟨rfl, rfl, .inl gPageError⟩ rfl rfl (fun a pn => (pss_one (by exact (ps_ret (pe_op op_cat (pe_lst (pa_cons (pe_callB (call_isTK K rfl) (by rfl) mIsi PyProof.Rows.boot_isinstance (pa_cons (pv 4) (pa_cons (pe_bltn (v := .ty "ValueError") (by rfl) mVE (by decide +kernel) rfl) pa_nil))) pa_nil)) (pe_callW (E := E0) GK hr.warm rfl gK FK.kp bK pass0 (pa_cons (pv 4) pa_nil))))))) HdsA.nil))) (pss_one (by exact (ps_ret (pe_lst pa_nil))))), ?_⟩
    have key : ∀ (e : Addr) (H1 : Hp), Same H H1 → Held K k e H1 → ∀ (p1 : Addr) (H2 : Hp), Same H1 H2 → H1 p1 = none → H2 p1 = some (.lst (kindL k)) → ∀ p0, H1 p0 = some (.lst [.bl true]) → ∀ p, H2 p = none → Q (.ref p) (upd H2 p (.lst (.bl true :: kindL k))) := by
      intro e H1 s1 hh p1 H2 s2 n1 e1 p0 e0 p hp
      have s3 := (s1.trans s2).step (o := .lst (.bl true :: kindL k)) hp
      exact q p _ s3 ((s1.trans s2).back hp) upd_same
    have rest : ∀ (e : Addr) (H1 : Hp), Same H H1 → Held K k e H1 → ∀ p0, H1 p0 = none → ∀ (p1 : Addr) (H2 : Hp), Same (upd H1 p0 (.lst [.bl true])) H2 → (upd H1 p0 (.lst [.bl true])) p1 = none → H2 p1 = some (.lst (kindL k)) → rCat (.ref p0) (.ref p1) H2 Q := by
      intro e H1 s1 hh p0 h0 p1 H2 s2 n1 e1
      exact ⟨p0, p1, [.bl true], kindL k, rfl, rfl, s2 _ _ upd_same, e1, by show 1 + 16 ≤ sizeLine; decide, fun p hp => key e (upd H1 p0 (.lst [.bl true])) (s1.step h0) (hh.keep (same_new h0)) p1 H2 s2 n1 e1 p0 upd_same p hp⟩
    have suite : ∀ (cls : Value) (d : Option Addr) (H1 : Hp) (e : Addr), Same H H1 → cls = .ref (He.ga K (clsN k)) → (∀ dd, d = some dd → ∃ fs, H1 dd = some (.xd fs)) → H1 e = none → Held K k e (upd H1 e (excE e cls d)) := by
      intro cls d H1 e s1 ec hd he
      subst ec
      exact ⟨d, upd_same, fun dd z => let ⟨fs, q⟩ := hd dd z; ⟨fs, same_new he _ _ q⟩⟩
    refine ⟨_, rfl, _, rfl, _, rfl, _, rfl, k, a, b, c, rfl, Nat.zero_le _, hk, fun hn => ?_, fun hn d hd => ?_⟩
    · refine ⟨true, KF.pe k hk, fun _ e he => ?_, fun z => nomatch z⟩
      have hh := suite _ none H e (fun _ _ z => z) rfl (fun dd z => nomatch z) he
      obtain ⟨d, h1, h2⟩ := id hh
      refine ⟨_, rfl, e, _, d, _, _, _, rfl, h1, h2, KF.exc k hk, fun u r => r, KF.ve k hk, ?_⟩
      refine ⟨by show 1 ≤ sizeLine; decide, fun p0 hp0 => ?_⟩
      refine ⟨_, rfl, k, e, rfl, hk, hh.keep (same_new hp0), fun p1 H2 s2 n1 e1 => ?_⟩
      exact rest e _ (same_new he) hh p0 hp0 p1 H2 s2 n1 e1
    · have sd : Same H (upd H d (.xd (xdOf k a b c))) := same_new hd
      refine ⟨true, KF.pe k hk, fun _ e he => ?_, fun z => nomatch z⟩
      have hh := suite _ (some d) _ e sd rfl (fun dd z => by cases z; exact ⟨_, upd_same⟩) he
      obtain ⟨d', h1, h2⟩ := id hh
      refine ⟨_, rfl, e, _, d', _, _, _, rfl, h1, h2, KF.exc k hk, fun u r => r, KF.ve k hk, ?_⟩
      refine ⟨by show 1 ≤ sizeLine; decide, fun p0 hp0 => ?_⟩
      refine ⟨_, rfl, k, e, rfl, hk, hh.keep (same_new hp0), fun p1 H2 s2 n1 e1 => ?_⟩
      exact rest e _ (sd.step he) hh p0 hp0 p1 H2 s2 n1 e1
theorem sc_law_fields_0 : FnScope ["_law_k", "_law_a", "_law_b", "_law_c", "_law_told", "_law_e"] ["_law_k", "_law_a", "_law_b", "_law_c"] (defScope sF0) := ⟨rfl, rfl, rfl, by decide +kernel, rfl, by decide +kernel, by decide +kernel⟩
theorem ok_law_fields_0 {f fR : Addr} {fd fdR : FuncData} (F : FunD K "_law_fields_0" "_law_fields_0" (defArgs sF0) (defBody sF0) (defScope sF0) [] [] f fd)
    (FR : FunD K "_law_raised_0" "_law_raised_0" (defArgs sR0) (defBody sR0) (defScope sR0) [] [] fR fdR) (ER : Errs P K mg) (KF : KindsF K) (gR : mg "_law_raised_0" = some (.ref fR)) : FnOk P w K mg base CX0 4 f fd ["_law_k", "_law_a", "_law_b", "_law_c"] (spFields 0 8) := by
  have GR : FnOk P w K mg base (L2.CX P w) 3 fR fdR ["_law_k", "_law_a", "_law_b", "_law_c"] (spRaised K 0 8) := ok_law_raised_0 FR ER
  have bR : Binds K fdR ["_law_k", "_law_a", "_law_b", "_law_c"] [] := FR.bindsN fun _ _ _ _ _ _ us hl => match us, hl with | [_, _, _, _], _ => rfl
  refine F.ok sc_law_fields_0 (fun vs H Q E h => ?_) (fun cdv A outer s H vs Q E hr h => ?_)
  · obtain ⟨k, a, b, c, rfl, _⟩ := h
    rfl
  · obtain ⟨k, a, b, c, rfl, hlo, hhi, q⟩ := h
    obtain ⟨_, I0⟩ := ER.iBadStyle
    obtain ⟨_, I1⟩ := ER.iBadSum
    obtain ⟨_, I2⟩ := ER.iBadKind
    obtain ⟨_, I3⟩ := ER.iBadLine
    obtain ⟨_, I4⟩ := ER.iRefused
    obtain ⟨_, I5⟩ := ER.iBadCapacity
    obtain ⟨_, I6⟩ := ER.iBadCase
    obtain ⟨_, I7⟩ := ER.iBadPromise
    refine ⟨_, PSs.nox (pss_cons (by exact (ps_set (i := 4) sc_law_fields_0.nd rfl (Or.inl rfl) (pe_lst pa_nil))) (pss_cons (by exact (ps_try_all rfl rfl sc_law_fields_0.nd rfl takes_noX (fun W pn xe tkW po => pss_one (by exact (ps_expr (pe_callS GR (hr.mono (by decide)) rfl gR FR.kp bR (fun σ => passAt tkW σ) (pa_cons (pv 0) (pa_cons (pv 1) (pa_cons (pv 2) (pa_cons (pv 3) pa_nil)))))))) (HdsA.as_ (i := 5) ⟨rfl, rfl, .inl ER.gBadStyle⟩ rfl rfl (fun a pn => (pss_one (by exact (ps_set (i := 4) sc_law_fields_0.nd rfl (Or.inl rfl) (pe_lst (pa_cons (pe_xfTK K rfl (pv 5)) pa_nil)))))) (HdsA.as_ (i := 5) ⟨rfl, rfl, .inl ER.gBadSum⟩ rfl rfl (fun a pn => (pss_one (by exact (ps_set (i := 4) sc_law_fields_0.nd rfl (Or.inl rfl) (pe_lst (pa_cons (pe_xfTK K rfl (pv 5)) pa_nil)))))) (HdsA.as_ (i := 5) ⟨rfl, rfl, .inl ER.gBadKind⟩ rfl rfl (fun a pn => (pss_one (by exact (ps_set (i := 4) sc_law_fields_0.nd rfl (Or.inl rfl) (pe_lst (pa_cons (pe_xfTK K rfl (pv 5)) pa_nil)))))) (HdsA.as_ (i := 5) ⟨rfl, rfl, .inl ER.gBadLine⟩ rfl rfl (fun a pn => (pss_one (by exact (ps_set (i := 4) sc_law_fields_0.nd rfl (Or.inl rfl) (pe_lst (pa_cons (pe_xfTK K rfl (pv 5)) pa_nil)))))) (HdsA.as_ (i := 5) ⟨rfl, rfl, .inl ER.gRefused⟩ rfl rfl (fun a pn => (pss_one (by exact (ps_set (i := 4) sc_law_fields_0.nd rfl (Or.inl rfl) (pe_lst (pa_cons (pe_xfTK K rfl (pv 5)) pa_nil)))))) (HdsA.as_ (i := 5) ⟨rfl, rfl, .inl ER.gBadCapacity⟩ rfl rfl (fun a pn => (pss_one (by exact (ps_set (i := 4) sc_law_fields_0.nd rfl (Or.inl rfl) (pe_lst (pa_cons (pe_xfTK K rfl (pv 5)) pa_nil)))))) (HdsA.as_ (i := 5) ⟨rfl, rfl, .inl ER.gBadCase⟩ rfl rfl (fun a pn => (pss_one (by exact (ps_set (i := 4) sc_law_fields_0.nd rfl (Or.inl rfl) (pe_lst (pa_cons (pe_xfTK K rfl (pv 5)) pa_nil)))))) (HdsA.as_ (i := 5) ⟨rfl, rfl, .inl ER.gBadPromise⟩ rfl rfl (fun a pn => (pss_one (by exact (ps_set (i := 4) sc_law_fields_0.nd rfl (Or.inl rfl) (pe_lst (pa_cons (pe_xfTK K rfl (pv 5)) pa_nil)))))) HdsA.nil)))))))))) (pss_one (by exact (ps_ret (pv 4)))))), ?_⟩
    refine ⟨by show 0 ≤ sizeLine; decide, fun p0 hp0 => ?_⟩
    have s0 : Same H (upd H p0 (.lst [])) := same_new hp0
    refine ⟨_, rfl, _, rfl, _, rfl, _, rfl, k, a, b, c, rfl, hlo, hhi, ?_⟩
    have hk : k = 0 ∨ k = 1 ∨ k = 2 ∨ k = 3 ∨ k = 4 ∨ k = 5 ∨ k = 6 ∨ k = 7 := by omega
    rcases hk with rfl | rfl | rfl | rfl | rfl | rfl | rfl | rfl
    · refine ⟨fun z => absurd z (by decide), fun _ d hd => ?_⟩
      refine ⟨true, KF.exm 0 0 (by decide) (by decide), fun _ e he => ?_, fun z => (nomatch z)⟩
      refine ⟨_, rfl, e, _, d, _, _, rfl, upd_same, same_new he _ _ upd_same, KF.xf 0 (by decide), I0.no "style" (by decide +kernel), rfl, ?_⟩
      refine ⟨by show 1 ≤ sizeLine; decide, fun p hp => ?_⟩
      exact ⟨_, rfl, q p _ (((s0.step hd).step he).step hp) (((s0.step hd).step he).back hp) upd_same⟩
    · refine ⟨fun z => absurd z (by decide), fun _ d hd => ?_⟩
      refine ⟨false, KF.exm 1 0 (by decide) (by decide), fun z => (nomatch z), fun _ => ?_⟩
      refine ⟨true, KF.exm 1 1 (by decide) (by decide), fun _ e he => ?_, fun z => (nomatch z)⟩
      refine ⟨_, rfl, e, _, d, _, _, rfl, upd_same, same_new he _ _ upd_same, KF.xf 1 (by decide), I1.no "text" (by decide +kernel), rfl, ?_⟩
      refine ⟨by show 1 ≤ sizeLine; decide, fun p hp => ?_⟩
      exact ⟨_, rfl, q p _ (((s0.step hd).step he).step hp) (((s0.step hd).step he).back hp) upd_same⟩
    · refine ⟨fun z => absurd z (by decide), fun _ d hd => ?_⟩
      refine ⟨false, KF.exm 2 0 (by decide) (by decide), fun z => (nomatch z), fun _ => ?_⟩
      refine ⟨false, KF.exm 2 1 (by decide) (by decide), fun z => (nomatch z), fun _ => ?_⟩
      refine ⟨true, KF.exm 2 2 (by decide) (by decide), fun _ e he => ?_, fun z => (nomatch z)⟩
      refine ⟨_, rfl, e, _, d, _, _, rfl, upd_same, same_new he _ _ upd_same, KF.xf 2 (by decide), I2.no "kind" (by decide +kernel), rfl, ?_⟩
      refine ⟨by show 1 ≤ sizeLine; decide, fun p hp => ?_⟩
      exact ⟨_, rfl, q p _ (((s0.step hd).step he).step hp) (((s0.step hd).step he).back hp) upd_same⟩
    · refine ⟨fun z => absurd z (by decide), fun _ d hd => ?_⟩
      refine ⟨false, KF.exm 3 0 (by decide) (by decide), fun z => (nomatch z), fun _ => ?_⟩
      refine ⟨false, KF.exm 3 1 (by decide) (by decide), fun z => (nomatch z), fun _ => ?_⟩
      refine ⟨false, KF.exm 3 2 (by decide) (by decide), fun z => (nomatch z), fun _ => ?_⟩
      refine ⟨true, KF.exm 3 3 (by decide) (by decide), fun _ e he => ?_, fun z => (nomatch z)⟩
      refine ⟨_, rfl, e, _, d, _, _, rfl, upd_same, same_new he _ _ upd_same, KF.xf 3 (by decide), I3.no "line" (by decide +kernel), rfl, ?_⟩
      refine ⟨by show 1 ≤ sizeLine; decide, fun p hp => ?_⟩
      exact ⟨_, rfl, q p _ (((s0.step hd).step he).step hp) (((s0.step hd).step he).back hp) upd_same⟩
    · refine ⟨fun z => absurd z (by decide), fun _ d hd => ?_⟩
      refine ⟨false, KF.exm 4 0 (by decide) (by decide), fun z => (nomatch z), fun _ => ?_⟩
      refine ⟨false, KF.exm 4 1 (by decide) (by decide), fun z => (nomatch z), fun _ => ?_⟩
      refine ⟨false, KF.exm 4 2 (by decide) (by decide), fun z => (nomatch z), fun _ => ?_⟩
      refine ⟨false, KF.exm 4 3 (by decide) (by decide), fun z => (nomatch z), fun _ => ?_⟩
      refine ⟨true, KF.exm 4 4 (by decide) (by decide), fun _ e he => ?_, fun z => (nomatch z)⟩
      refine ⟨_, rfl, e, _, d, _, _, rfl, upd_same, same_new he _ _ upd_same, KF.xf 4 (by decide), I4.no "line" (by decide +kernel), rfl, ?_⟩
      refine ⟨by show 1 ≤ sizeLine; decide, fun p hp => ?_⟩
      exact ⟨_, rfl, q p _ (((s0.step hd).step he).step hp) (((s0.step hd).step he).back hp) upd_same⟩
    · refine ⟨fun z => absurd z (by decide), fun _ d hd => ?_⟩
      refine ⟨false, KF.exm 5 0 (by decide) (by decide), fun z => (nomatch z), fun _ => ?_⟩
      refine ⟨false, KF.exm 5 1 (by decide) (by decide), fun z => (nomatch z), fun _ => ?_⟩
      refine ⟨false, KF.exm 5 2 (by decide) (by decide), fun z => (nomatch z), fun _ => ?_⟩
      refine ⟨false, KF.exm 5 3 (by decide) (by decide), fun z => (nomatch z), fun _ => ?_⟩
      refine ⟨false, KF.exm 5 4 (by decide) (by decide), fun z => (nomatch z), fun _ => ?_⟩
      refine ⟨true, KF.exm 5 5 (by decide) (by decide), fun _ e he => ?_, fun z => (nomatch z)⟩
      refine ⟨_, rfl, e, _, d, _, _, rfl, upd_same, same_new he _ _ upd_same, KF.xf 5 (by decide), I5.no "k" (by decide +kernel), rfl, ?_⟩
      refine ⟨by show 1 ≤ sizeLine; decide, fun p hp => ?_⟩
      exact ⟨_, rfl, q p _ (((s0.step hd).step he).step hp) (((s0.step hd).step he).back hp) upd_same⟩
    · refine ⟨fun z => absurd z (by decide), fun _ d hd => ?_⟩
      refine ⟨false, KF.exm 6 0 (by decide) (by decide), fun z => (nomatch z), fun _ => ?_⟩
      refine ⟨false, KF.exm 6 1 (by decide) (by decide), fun z => (nomatch z), fun _ => ?_⟩
      refine ⟨false, KF.exm 6 2 (by decide) (by decide), fun z => (nomatch z), fun _ => ?_⟩
      refine ⟨false, KF.exm 6 3 (by decide) (by decide), fun z => (nomatch z), fun _ => ?_⟩
      refine ⟨false, KF.exm 6 4 (by decide) (by decide), fun z => (nomatch z), fun _ => ?_⟩
      refine ⟨false, KF.exm 6 5 (by decide) (by decide), fun z => (nomatch z), fun _ => ?_⟩
      refine ⟨true, KF.exm 6 6 (by decide) (by decide), fun _ e he => ?_, fun z => (nomatch z)⟩
      refine ⟨_, rfl, e, _, d, _, _, rfl, upd_same, same_new he _ _ upd_same, KF.xf 6 (by decide), I6.no "case" (by decide +kernel), rfl, ?_⟩
      refine ⟨by show 1 ≤ sizeLine; decide, fun p hp => ?_⟩
      exact ⟨_, rfl, q p _ (((s0.step hd).step he).step hp) (((s0.step hd).step he).back hp) upd_same⟩
    · refine ⟨fun z => absurd z (by decide), fun _ d hd => ?_⟩
      refine ⟨false, KF.exm 7 0 (by decide) (by decide), fun z => (nomatch z), fun _ => ?_⟩
      refine ⟨false, KF.exm 7 1 (by decide) (by decide), fun z => (nomatch z), fun _ => ?_⟩
      refine ⟨false, KF.exm 7 2 (by decide) (by decide), fun z => (nomatch z), fun _ => ?_⟩
      refine ⟨false, KF.exm 7 3 (by decide) (by decide), fun z => (nomatch z), fun _ => ?_⟩
      refine ⟨false, KF.exm 7 4 (by decide) (by decide), fun z => (nomatch z), fun _ => ?_⟩
      refine ⟨false, KF.exm 7 5 (by decide) (by decide), fun z => (nomatch z), fun _ => ?_⟩
      refine ⟨false, KF.exm 7 6 (by decide) (by decide), fun z => (nomatch z), fun _ => ?_⟩
      refine ⟨true, KF.exm 7 7 (by decide) (by decide), fun _ e he => ?_, fun z => (nomatch z)⟩
      refine ⟨_, rfl, e, _, d, _, _, rfl, upd_same, same_new he _ _ upd_same, KF.xf 7 (by decide), I7.no "promise" (by decide +kernel), rfl, ?_⟩
      refine ⟨by show 1 ≤ sizeLine; decide, fun p hp => ?_⟩
      exact ⟨_, rfl, q p _ (((s0.step hd).step he).step hp) (((s0.step hd).step he).back hp) upd_same⟩
theorem sc_law_fields_1 : FnScope ["_law_k", "_law_a", "_law_b", "_law_c", "_law_told", "_law_e"] ["_law_k", "_law_a", "_law_b", "_law_c"] (defScope sF1) := ⟨rfl, rfl, rfl, by decide +kernel, rfl, by decide +kernel, by decide +kernel⟩
theorem ok_law_fields_1 {f fR : Addr} {fd fdR : FuncData} (F : FunD K "_law_fields_1" "_law_fields_1" (defArgs sF1) (defBody sF1) (defScope sF1) [] [] f fd)
    (FR : FunD K "_law_raised_1" "_law_raised_1" (defArgs sR1) (defBody sR1) (defScope sR1) [] [] fR fdR) (ER : Errs P K mg) (KF : KindsF K) (gR : mg "_law_raised_1" = some (.ref fR)) : FnOk P w K mg base CX0 4 f fd ["_law_k", "_law_a", "_law_b", "_law_c"] (spFields 8 16) := by
  have GR : FnOk P w K mg base (L2.CX P w) 3 fR fdR ["_law_k", "_law_a", "_law_b", "_law_c"] (spRaised K 8 16) := ok_law_raised_1 FR ER
  have bR : Binds K fdR ["_law_k", "_law_a", "_law_b", "_law_c"] [] := FR.bindsN fun _ _ _ _ _ _ us hl => match us, hl with | [_, _, _, _], _ => rfl
  refine F.ok sc_law_fields_1 (fun vs H Q E h => ?_) (fun cdv A outer s H vs Q E hr h => ?_)
  · obtain ⟨k, a, b, c, rfl, _⟩ := h
    rfl
  · obtain ⟨k, a, b, c, rfl, hlo, hhi, q⟩ := h
    obtain ⟨_, I8⟩ := ER.iNoLine
    obtain ⟨_, I9⟩ := ER.iOtherKinds
    obtain ⟨_, I10⟩ := ER.iOtherRules
    obtain ⟨_, I11⟩ := ER.iWrongCode
    obtain ⟨_, I12⟩ := ER.iBadKey
    obtain ⟨_, I13⟩ := ER.iTwiceKey
    obtain ⟨_, I14⟩ := ER.iNoKey
    obtain ⟨_, I15⟩ := ER.iTooMany
    refine ⟨_, PSs.nox (pss_cons (by exact (ps_set (i := 4) sc_law_fields_1.nd rfl (Or.inl rfl) (pe_lst pa_nil))) (pss_cons (by exact (ps_try_all rfl rfl sc_law_fields_1.nd rfl takes_noX (fun W pn xe tkW po => pss_one (by exact (ps_expr (pe_callS GR (hr.mono (by decide)) rfl gR FR.kp bR (fun σ => passAt tkW σ) (pa_cons (pv 0) (pa_cons (pv 1) (pa_cons (pv 2) (pa_cons (pv 3) pa_nil)))))))) (HdsA.as_ (i := 5) ⟨rfl, rfl, .inl ER.gNoLine⟩ rfl rfl (fun a pn => (pss_one (by exact (ps_set (i := 4) sc_law_fields_1.nd rfl (Or.inl rfl) (pe_lst (pa_cons (pe_xfTK K rfl (pv 5)) pa_nil)))))) (HdsA.only ⟨rfl, rfl, .inl ER.gOtherKinds⟩ (fun a pn => (pss_one (by exact (ps_set (i := 4) sc_law_fields_1.nd rfl (Or.inl rfl) (pe_lst pa_nil))))) (HdsA.only ⟨rfl, rfl, .inl ER.gOtherRules⟩ (fun a pn => (pss_one (by exact (ps_set (i := 4) sc_law_fields_1.nd rfl (Or.inl rfl) (pe_lst pa_nil))))) (HdsA.as_ (i := 5) ⟨rfl, rfl, .inl ER.gWrongCode⟩ rfl rfl (fun a pn => (pss_one (by exact (ps_set (i := 4) sc_law_fields_1.nd rfl (Or.inl rfl) (pe_lst (pa_cons (pe_xfTK K rfl (pv 5)) pa_nil)))))) (HdsA.as_ (i := 5) ⟨rfl, rfl, .inl ER.gBadKey⟩ rfl rfl (fun a pn => (pss_one (by exact (ps_set (i := 4) sc_law_fields_1.nd rfl (Or.inl rfl) (pe_lst (pa_cons (pe_xfTK K rfl (pv 5)) pa_nil)))))) (HdsA.as_ (i := 5) ⟨rfl, rfl, .inl ER.gTwiceKey⟩ rfl rfl (fun a pn => (pss_one (by exact (ps_set (i := 4) sc_law_fields_1.nd rfl (Or.inl rfl) (pe_lst (pa_cons (pe_xfTK K rfl (pv 5)) pa_nil)))))) (HdsA.as_ (i := 5) ⟨rfl, rfl, .inl ER.gNoKey⟩ rfl rfl (fun a pn => (pss_one (by exact (ps_set (i := 4) sc_law_fields_1.nd rfl (Or.inl rfl) (pe_lst (pa_cons (pe_xfTK K rfl (pv 5)) pa_nil)))))) (HdsA.as_ (i := 5) ⟨rfl, rfl, .inl ER.gTooMany⟩ rfl rfl (fun a pn => (pss_one (by exact (ps_set (i := 4) sc_law_fields_1.nd rfl (Or.inl rfl) (pe_lst (pa_cons (pe_xfTK K rfl (pv 5)) (pa_cons (pe_xfTK K rfl (pv 5)) (pa_cons (pe_xfTK K rfl (pv 5)) pa_nil)))))))) HdsA.nil)))))))))) (pss_one (by exact (ps_ret (pv 4)))))), ?_⟩
    refine ⟨by show 0 ≤ sizeLine; decide, fun p0 hp0 => ?_⟩
    have s0 : Same H (upd H p0 (.lst [])) := same_new hp0
    refine ⟨_, rfl, _, rfl, _, rfl, _, rfl, k, a, b, c, rfl, hlo, hhi, ?_⟩
    have hk : k = 8 ∨ k = 9 ∨ k = 10 ∨ k = 11 ∨ k = 12 ∨ k = 13 ∨ k = 14 ∨ k = 15 := by omega
    rcases hk with rfl | rfl | rfl | rfl | rfl | rfl | rfl | rfl
    · refine ⟨fun z => absurd z (by decide), fun _ d hd => ?_⟩
      refine ⟨true, KF.exm 8 8 (by decide) (by decide), fun _ e he => ?_, fun z => (nomatch z)⟩
      refine ⟨_, rfl, e, _, d, _, _, rfl, upd_same, same_new he _ _ upd_same, KF.xf 8 (by decide), I8.no "line" (by decide +kernel), rfl, ?_⟩
      refine ⟨by show 1 ≤ sizeLine; decide, fun p hp => ?_⟩
      exact ⟨_, rfl, q p _ (((s0.step hd).step he).step hp) (((s0.step hd).step he).back hp) upd_same⟩
    · refine ⟨fun _ => ?_, fun z => absurd z (by decide)⟩
      refine ⟨false, KF.exm 9 8 (by decide) (by decide), fun z => (nomatch z), fun _ => ?_⟩
      refine ⟨true, KF.exm 9 9 (by decide) (by decide), fun _ e he => ?_, fun z => (nomatch z)⟩
      refine ⟨by show 0 ≤ sizeLine; decide, fun p hp => ?_⟩
      exact ⟨_, rfl, q p _ ((s0.step he).step hp) ((s0.step he).back hp) upd_same⟩
    · refine ⟨fun _ => ?_, fun z => absurd z (by decide)⟩
      refine ⟨false, KF.exm 10 8 (by decide) (by decide), fun z => (nomatch z), fun _ => ?_⟩
      refine ⟨false, KF.exm 10 9 (by decide) (by decide), fun z => (nomatch z), fun _ => ?_⟩
      refine ⟨true, KF.exm 10 10 (by decide) (by decide), fun _ e he => ?_, fun z => (nomatch z)⟩
      refine ⟨by show 0 ≤ sizeLine; decide, fun p hp => ?_⟩
      exact ⟨_, rfl, q p _ ((s0.step he).step hp) ((s0.step he).back hp) upd_same⟩
    · refine ⟨fun z => absurd z (by decide), fun _ d hd => ?_⟩
      refine ⟨false, KF.exm 11 8 (by decide) (by decide), fun z => (nomatch z), fun _ => ?_⟩
      refine ⟨false, KF.exm 11 9 (by decide) (by decide), fun z => (nomatch z), fun _ => ?_⟩
      refine ⟨false, KF.exm 11 10 (by decide) (by decide), fun z => (nomatch z), fun _ => ?_⟩
      refine ⟨true, KF.exm 11 11 (by decide) (by decide), fun _ e he => ?_, fun z => (nomatch z)⟩
      refine ⟨_, rfl, e, _, d, _, _, rfl, upd_same, same_new he _ _ upd_same, KF.xf 11 (by decide), I11.no "code" (by decide +kernel), rfl, ?_⟩
      refine ⟨by show 1 ≤ sizeLine; decide, fun p hp => ?_⟩
      exact ⟨_, rfl, q p _ (((s0.step hd).step he).step hp) (((s0.step hd).step he).back hp) upd_same⟩
    · refine ⟨fun z => absurd z (by decide), fun _ d hd => ?_⟩
      refine ⟨false, KF.exm 12 8 (by decide) (by decide), fun z => (nomatch z), fun _ => ?_⟩
      refine ⟨false, KF.exm 12 9 (by decide) (by decide), fun z => (nomatch z), fun _ => ?_⟩
      refine ⟨false, KF.exm 12 10 (by decide) (by decide), fun z => (nomatch z), fun _ => ?_⟩
      refine ⟨false, KF.exm 12 11 (by decide) (by decide), fun z => (nomatch z), fun _ => ?_⟩
      refine ⟨true, KF.exm 12 12 (by decide) (by decide), fun _ e he => ?_, fun z => (nomatch z)⟩
      refine ⟨_, rfl, e, _, d, _, _, rfl, upd_same, same_new he _ _ upd_same, KF.xf 12 (by decide), I12.no "key" (by decide +kernel), rfl, ?_⟩
      refine ⟨by show 1 ≤ sizeLine; decide, fun p hp => ?_⟩
      exact ⟨_, rfl, q p _ (((s0.step hd).step he).step hp) (((s0.step hd).step he).back hp) upd_same⟩
    · refine ⟨fun z => absurd z (by decide), fun _ d hd => ?_⟩
      refine ⟨false, KF.exm 13 8 (by decide) (by decide), fun z => (nomatch z), fun _ => ?_⟩
      refine ⟨false, KF.exm 13 9 (by decide) (by decide), fun z => (nomatch z), fun _ => ?_⟩
      refine ⟨false, KF.exm 13 10 (by decide) (by decide), fun z => (nomatch z), fun _ => ?_⟩
      refine ⟨false, KF.exm 13 11 (by decide) (by decide), fun z => (nomatch z), fun _ => ?_⟩
      refine ⟨false, KF.exm 13 12 (by decide) (by decide), fun z => (nomatch z), fun _ => ?_⟩
      refine ⟨true, KF.exm 13 13 (by decide) (by decide), fun _ e he => ?_, fun z => (nomatch z)⟩
      refine ⟨_, rfl, e, _, d, _, _, rfl, upd_same, same_new he _ _ upd_same, KF.xf 13 (by decide), I13.no "key" (by decide +kernel), rfl, ?_⟩
      refine ⟨by show 1 ≤ sizeLine; decide, fun p hp => ?_⟩
      exact ⟨_, rfl, q p _ (((s0.step hd).step he).step hp) (((s0.step hd).step he).back hp) upd_same⟩
    · refine ⟨fun z => absurd z (by decide), fun _ d hd => ?_⟩
      refine ⟨false, KF.exm 14 8 (by decide) (by decide), fun z => (nomatch z), fun _ => ?_⟩
      refine ⟨false, KF.exm 14 9 (by decide) (by decide), fun z => (nomatch z), fun _ => ?_⟩
      refine ⟨false, KF.exm 14 10 (by decide) (by decide), fun z => (nomatch z), fun _ => ?_⟩
      refine ⟨false, KF.exm 14 11 (by decide) (by decide), fun z => (nomatch z), fun _ => ?_⟩
      refine ⟨false, KF.exm 14 12 (by decide) (by decide), fun z => (nomatch z), fun _ => ?_⟩
      refine ⟨false, KF.exm 14 13 (by decide) (by decide), fun z => (nomatch z), fun _ => ?_⟩
      refine ⟨true, KF.exm 14 14 (by decide) (by decide), fun _ e he => ?_, fun z => (nomatch z)⟩
      refine ⟨_, rfl, e, _, d, _, _, rfl, upd_same, same_new he _ _ upd_same, KF.xf 14 (by decide), I14.no "key" (by decide +kernel), rfl, ?_⟩
      refine ⟨by show 1 ≤ sizeLine; decide, fun p hp => ?_⟩
      exact ⟨_, rfl, q p _ (((s0.step hd).step he).step hp) (((s0.step hd).step he).back hp) upd_same⟩
    · refine ⟨fun z => absurd z (by decide), fun _ d hd => ?_⟩
      refine ⟨false, KF.exm 15 8 (by decide) (by decide), fun z => (nomatch z), fun _ => ?_⟩
      refine ⟨false, KF.exm 15 9 (by decide) (by decide), fun z => (nomatch z), fun _ => ?_⟩
      refine ⟨false, KF.exm 15 10 (by decide) (by decide), fun z => (nomatch z), fun _ => ?_⟩
      refine ⟨false, KF.exm 15 11 (by decide) (by decide), fun z => (nomatch z), fun _ => ?_⟩
      refine ⟨false, KF.exm 15 12 (by decide) (by decide), fun z => (nomatch z), fun _ => ?_⟩
      refine ⟨false, KF.exm 15 13 (by decide) (by decide), fun z => (nomatch z), fun _ => ?_⟩
      refine ⟨false, KF.exm 15 14 (by decide) (by decide), fun z => (nomatch z), fun _ => ?_⟩
      refine ⟨true, KF.exm 15 15 (by decide) (by decide), fun _ e he => ?_, fun z => (nomatch z)⟩
      refine ⟨_, rfl, e, _, d, _, _, rfl, upd_same, same_new he _ _ upd_same, KF.xf 15 (by decide), I15.no "what" (by decide +kernel), rfl, ?_⟩
      refine ⟨_, rfl, e, _, d, _, _, rfl, upd_same, same_new he _ _ upd_same, KF.xf 15 (by decide), I15.no "many" (by decide +kernel), rfl, ?_⟩
      refine ⟨_, rfl, e, _, d, _, _, rfl, upd_same, same_new he _ _ upd_same, KF.xf 15 (by decide), I15.no "most" (by decide +kernel), rfl, ?_⟩
      refine ⟨by show 3 ≤ sizeLine; decide, fun p hp => ?_⟩
      exact ⟨_, rfl, q p _ (((s0.step hd).step he).step hp) (((s0.step hd).step he).back hp) upd_same⟩
theorem sc_law_fields : FnScope ["_law_k", "_law_a", "_law_b", "_law_c"] ["_law_k", "_law_a", "_law_b", "_law_c"] (defScope sFields) := ⟨rfl, rfl, rfl, by decide +kernel, rfl, by decide +kernel, by decide +kernel⟩
theorem ok_law_fields {f f0 f1 : Addr} {fd fd0 fd1 : FuncData} (F : FunD K "_law_fields" "_law_fields" (defArgs sFields) (defBody sFields) (defScope sFields) [] [] f fd)
    (F0 : FunD K "_law_fields_0" "_law_fields_0" (defArgs sF0) (defBody sF0) (defScope sF0) [] [] f0 fd0) (F1 : FunD K "_law_fields_1" "_law_fields_1" (defArgs sF1) (defBody sF1) (defScope sF1) [] [] f1 fd1)
    (G0 : FnOk P w K mg base CX0 4 f0 fd0 ["_law_k", "_law_a", "_law_b", "_law_c"] (spFields 0 8)) (G1 : FnOk P w K mg base CX0 4 f1 fd1 ["_law_k", "_law_a", "_law_b", "_law_c"] (spFields 8 16)) (g0 : mg "_law_fields_0" = some (.ref f0)) (g1 : mg "_law_fields_1" = some (.ref f1)) : FnOk P w K mg base CX0 5 f fd ["_law_k", "_law_a", "_law_b", "_law_c"] (spFields 0 16) := by
  have b0 : Binds K fd0 ["_law_k", "_law_a", "_law_b", "_law_c"] [] := F0.bindsN fun _ _ _ _ _ _ us hl => match us, hl with | [_, _, _, _], _ => rfl
  have b1 : Binds K fd1 ["_law_k", "_law_a", "_law_b", "_law_c"] [] := F1.bindsN fun _ _ _ _ _ _ us hl => match us, hl with | [_, _, _, _], _ => rfl
  refine F.ok sc_law_fields (fun vs H Q E h => ?_) (fun cdv A outer s H vs Q E hr h => ?_)
  · obtain ⟨k, a, b, c, rfl, _⟩ := h
    rfl
  · obtain ⟨k, a, b, c, rfl, h1, h2, q⟩ := h
    refine ⟨_, PSs.nox (pss_cons (by exact (ps_if (pt_cmpR op_lt (pv 0) pe_int (nomark _)) (pss_one (by exact (ps_ret (pe_call G0 hr rfl g0 F0.kp b0 .nil pass0 (pa_cons (pv 0) (pa_cons (pv 1) (pa_cons (pv 2) (pa_cons (pv 3) pa_nil)))))))) pss_nil)) (pss_one (by exact (ps_ret (pe_call G1 hr rfl g1 F1.kp b1 .nil pass0 (pa_cons (pv 0) (pa_cons (pv 1) (pa_cons (pv 2) (pa_cons (pv 3) pa_nil))))))))), ?_⟩
    refine ⟨_, rfl, _, _, rfl, rfl, _, rfl, ite2 (fun e => ?_) fun e => ?_⟩
    · have e' : (k : Int) < 8 := of_decide_eq_true e
      exact ⟨_, rfl, _, rfl, _, rfl, _, rfl, k, a, b, c, rfl, h1, by omega, q⟩
    · have e' : ¬ (k : Int) < 8 := fun z => e (decide_eq_true z)
      exact ⟨_, rfl, _, rfl, _, rfl, _, rfl, k, a, b, c, rfl, by omega, h2, q⟩
end
end Pk
namespace Pk
open L2 PyProof.Rows PySem.Spec PySem
abbrev sLaw : Stmt := top 30
def spLaw (K : PySem.W.Frag) : Sp := fun vs H Q _ => ∃ (a : Addr) (cells : List Int), vs = [.ref a] ∧ SqL K H a (cells.map V.int) ∧ cells.length ≤ 63 ∧ ∀ Hz, Q (.bl true) Hz
def sizesL : List V := [.int 1, .int 1, .int 1, .int 1, .int 1, .int 1, .int 1, .int 1, .int 1, .int 0, .int 0, .int 1, .int 1, .int 1, .int 1, .int 3]
def fieldsD (k : Nat) (a b c : PyData) : List PyData := match k with
  | 9 => []
  | 10 => []
  | 15 => [a, b, c]
  | _ => [a]
def kindD (k : Nat) : List PyData := [.bool (decide (0 = k)), .bool (decide (1 = k)), .bool (decide (2 = k)), .bool (decide (3 = k)), .bool (decide (4 = k)), .bool (decide (5 = k)), .bool (decide (6 = k)), .bool (decide (7 = k)), .bool (decide (8 = k)), .bool (decide (9 = k)), .bool (decide (10 = k)), .bool (decide (11 = k)), .bool (decide (12 = k)), .bool (decide (13 = k)), .bool (decide (14 = k)), .bool (decide (15 = k))]
theorem six (k : Nat) (h : k < 16) : k = 0 ∨ k = 1 ∨ k = 2 ∨ k = 3 ∨ k = 4 ∨ k = 5 ∨ k = 6 ∨ k = 7 ∨ k = 8 ∨ k = 9 ∨ k = 10 ∨ k = 11 ∨ k = 12 ∨ k = 13 ∨ k = 14 ∨ k = 15 := by omega
theorem cut_fields (k : Nat) (h : k < 16) (a b c : V) : ∃ z : Int, atI sizesL (k : Nat) = some (.int z) ∧ cutV [a, b, c] none (some z) = fieldsOf k a b c := by
  rcases six k h with rfl | rfl | rfl | rfl | rfl | rfl | rfl | rfl | rfl | rfl | rfl | rfl | rfl | rfl | rfl | rfl
  all_goals exact ⟨_, rfl, rfl⟩
theorem fields_dp {K : PySem.W.Frag} {H : Hp} (k : Nat) (h : k < 16) {a b c : V} {da db dc : PyData} (ha : Dp K H a da) (hb : Dp K H b db) (hc : Dp K H c dc) : DpAll K H (fieldsOf k a b c) (fieldsD k da db dc) := by
  rcases six k h with rfl | rfl | rfl | rfl | rfl | rfl | rfl | rfl | rfl | rfl | rfl | rfl | rfl | rfl | rfl | rfl
  all_goals first | exact .cons ha (.cons hb (.cons hc .nil)) | exact .cons ha .nil | exact .nil
theorem list_shaped {ds : List PyData} (h1 : PyData.canLayAll0 ds = true) (h2 : PyData.depthAll ds ≤ 60) : SeqAt.shaped (.list ds) = true := by
  have e : PyData.canLay0 (.list ds) = true := by simpa [PyData.canLay0] using h1
  have d : PyData.depth (.list ds) ≤ 64 := by
    simp only [PyData.depth]
    omega
  exact Bool.and_eq_true_iff.mpr ⟨e, decide_eq_true d⟩
theorem fields_ok (k : Nat) (h : k < 16) {da db dc : PyData} (a1 : da.canLay0 = true) (b1 : db.canLay0 = true) (c1 : dc.canLay0 = true) (a2 : da.depth ≤ 3) (b2 : db.depth ≤ 3) (c2 : dc.depth ≤ 3) :
    PyData.canLayAll0 (fieldsD k da db dc) = true ∧ PyData.depthAll (fieldsD k da db dc) ≤ 60 := by
  rcases six k h with rfl | rfl | rfl | rfl | rfl | rfl | rfl | rfl | rfl | rfl | rfl | rfl | rfl | rfl | rfl | rfl
  all_goals (refine ⟨by simp only [fieldsD, PyData.canLayAll0, a1, b1, c1, Bool.and_self], ?_⟩; simp only [fieldsD, PyData.depthAll]; omega)
theorem kind_dp {K : PySem.W.Frag} {H : Hp} (k : Nat) : DpAll K H (kindL k) (kindD k) := (.cons (.bl _) (.cons (.bl _) (.cons (.bl _) (.cons (.bl _) (.cons (.bl _) (.cons (.bl _) (.cons (.bl _) (.cons (.bl _) (.cons (.bl _) (.cons (.bl _) (.cons (.bl _) (.cons (.bl _) (.cons (.bl _) (.cons (.bl _) (.cons (.bl _) (.cons (.bl _) .nil))))))))))))))))
theorem kind_ok (k : Nat) : PyData.canLayAll0 (.bool true :: kindD k) = true ∧ PyData.depthAll (.bool true :: kindD k) ≤ 60 := by
  refine ⟨by rfl, ?_⟩
  show 0 ≤ 60
  omega
def eqsL (n k : Nat) : List V := (List.range n).map fun (m : Nat) => V.bl (decide (V.int (0 + (m : Int)) = V.int (k : Int)))
theorem eqsL_kind (k : Nat) : eqsL 16 k = kindL k := by
  have e : ∀ m : Nat, decide (V.int (0 + (m : Int)) = V.int (k : Int)) = decide (m = k) := fun m => by
    refine decide_eq_decide.mpr ⟨fun h => ?_, fun h => by rw [h, Int.zero_add]⟩
    have q := V.int.inj h
    omega
  unfold eqsL
  simp only [e]
  rfl
theorem eqsL_succ (n k : Nat) : eqsL (n + 1) k = eqsL n k ++ [V.bl (decide (V.int (0 + (n : Int)) = V.int (k : Int)))] := by
  unfold eqsL; rw [List.range_succ, List.map_append] <;> rfl
theorem eqsL_len (n k : Nat) : (eqsL n k).length = n := by simp [eqsL]
theorem BagO.up {c : Addr} {m : Nat} {n n' : Int} {o : HO} (h : BagO c m n o) (e : n = n') : BagO c m n' o := by
  subst e
  exact h
section
variable {K : PySem.W.Frag} {P : Program} {w : World} {base : Heap} {mg : Str → Option Value}
theorem sc_law : FnScope ["_law_script", "_law_bag_here", "_law_sizes", "_law_k", "_law_a", "_law_b", "_law_c", "_law_j"] ["_law_script"] (defScope sLaw) := ⟨rfl, rfl, rfl, by decide +kernel, rfl, by decide +kernel, by decide +kernel⟩
theorem ok_law {f fB fT fF fC : Addr} {fd fdB fdT fdF fdC : FuncData} (F : FunD K "law" "law" (defArgs sLaw) (defBody sLaw) (defScope sLaw) [] [] f fd)
    (FB : FunD K "_law_bag" "_law_bag" (defArgs sBag) (defBody sBag) (defScope sBag) [] [] fB fdB) (FT : FunD K "_law_thing" "_law_thing" (defArgs sThing) (defBody sThing) (defScope sThing) [] [] fT fdT)
    (FF : FunD K "_law_fields" "_law_fields" (defArgs sFields) (defBody sFields) (defScope sFields) [] [] fF fdF) (FC : FunD K "_law_caught" "_law_caught" (defArgs sCaught) (defBody sCaught) (defScope sCaught) [] [] fC fdC)
    (GB : FnOk P w K mg base CX0 1 fB fdB ["_law_script"] (spBag K)) (GT : FnOk P w K mg base CX0 2 fT fdT ["_law_bag_here"] (spThing K)) (GF : FnOk P w K mg base CX0 5 fF fdF ["_law_k", "_law_a", "_law_b", "_law_c"] (spFields 0 16)) (GC : FnOk P w K mg base CX0 5 fC fdC ["_law_k", "_law_a", "_law_b", "_law_c"] spCaught)
    (gB : mg "_law_bag" = some (.ref fB)) (gT : mg "_law_thing" = some (.ref fT)) (gF : mg "_law_fields" = some (.ref fF)) (gC : mg "_law_caught" = some (.ref fC)) (mRange : mg "range" = none) : FnOk P w K mg base CX0 6 f fd ["_law_script"] (spLaw K) := by
  have bB : Binds K fdB ["_law_script"] [] := FB.bindsN fun _ _ _ _ _ _ us hl => match us, hl with | [_], _ => rfl
  have bT : Binds K fdT ["_law_bag_here"] [] := FT.bindsN fun _ _ _ _ _ _ us hl => match us, hl with | [_], _ => rfl
  have bF : Binds K fdF ["_law_k", "_law_a", "_law_b", "_law_c"] [] := FF.bindsN fun _ _ _ _ _ _ us hl => match us, hl with | [_, _, _, _], _ => rfl
  have bC : Binds K fdC ["_law_k", "_law_a", "_law_b", "_law_c"] [] := FC.bindsN fun _ _ _ _ _ _ us hl => match us, hl with | [_, _, _, _], _ => rfl
  refine F.ok sc_law (fun vs H Q E h => ?_) (fun cdv A outer s H vs Q E hr h => ?_)
  · obtain ⟨a, ns, rfl, _⟩ := h
    rfl
  · obtain ⟨a, ns, rfl, hS, hl, q⟩ := h
    refine ⟨_, PSs.nox (pss_cons (by exact (ps_set (i := 1) sc_law.nd rfl (Or.inl rfl) (pe_call GB (hr.mono (by decide)) rfl gB FB.kp bB .nil pass0 (pa_cons (pv 0) pa_nil)))) (pss_cons (by exact (ps_set (i := 2) sc_law.nd rfl (Or.inl rfl) (pe_lst (pa_cons pe_int (pa_cons pe_int (pa_cons pe_int (pa_cons pe_int (pa_cons pe_int (pa_cons pe_int (pa_cons pe_int (pa_cons pe_int (pa_cons pe_int (pa_cons pe_int (pa_cons pe_int (pa_cons pe_int (pa_cons pe_int (pa_cons pe_int (pa_cons pe_int (pa_cons pe_int pa_nil))))))))))))))))))) (pss_cons (by exact (ps_for PassesOwn.never rfl (pi_range1 rfl mRange (pa_cons pe_int pa_nil)) (pg_name (i := 3) sc_law.nd rfl (Or.inr rfl)) (pss_cons (by exact (ps_par3 (i := 4) (j := 5) (l := 6) rfl sc_law.nd rfl rfl rfl (by decide) (by decide) (by decide) rfl rfl rfl (pa_cons (pe_call GT (hr.mono (by decide)) rfl gT FT.kp bT .nil pass0 (pa_cons (pv 1) pa_nil)) (pa_cons (pe_call GT (hr.mono (by decide)) rfl gT FT.kp bT .nil pass0 (pa_cons (pv 1) pa_nil)) (pa_cons (pe_call GT (hr.mono (by decide)) rfl gT FT.kp bT .nil pass0 (pa_cons (pv 1) pa_nil)) pa_nil))) rfl)) (pss_cons (by exact (ps_if (pt_cmpR (op_neD (Room.units hr)) (pe_call GF hr rfl gF FF.kp bF .nil pass0 (pa_cons (pv 3) (pa_cons (pv 4) (pa_cons (pv 5) (pa_cons (pv 6) pa_nil))))) (pe_slice sl_list (pe_lst (pa_cons (pv 4) (pa_cons (pv 5) (pa_cons (pv 6) pa_nil)))) po_none (po_some (pe_ix ix_list (pv 2) (pv 3) (fun _ _ => rfl)))) (nomark _)) (pss_one (by exact (ps_ret pe_bl))) pss_nil)) (pss_one (by exact (ps_if (pt_cmpR (op_neD (Room.units hr)) (pe_call GC hr rfl gC FC.kp bC .nil pass0 (pa_cons (pv 3) (pa_cons (pv 4) (pa_cons (pv 5) (pa_cons (pv 6) pa_nil))))) (pe_op op_cat (pe_lst (pa_cons pe_bl pa_nil)) (pe_lc (own := [("_law_j", 7)]) (g := gName 7) (tt := tYes) rfl sc_law.nd (pi_range1 rfl mRange (pa_cons pe_int pa_nil)) (blkOk_by (N := ["_law_script", "_law_bag_here", "_law_sizes", "_law_k", "_law_a", "_law_b", "_law_c", "_law_j"]) (sc := defScope sLaw) (by decide +kernel)) (fun _ _ _ _ _ => pg_name (i := 7) sc_law.nd rfl (Or.inl rfl)) (fun _ _ _ _ _ => pts_nil) (fun _ _ _ _ _ => (pe_cmpR op_eq (pv 7) (pv 3) (nomark _))))) (nomark _)) (pss_one (by exact (ps_ret pe_bl))) pss_nil))))))) (pss_one (by exact (ps_ret pe_bl)))))), ?_⟩
    refine ⟨_, rfl, a, ns, rfl, hS, hl, fun b c o hb hc hcb hB => ?_⟩
    refine ⟨by show 16 ≤ sizeLine; decide, fun z hz => ?_⟩
    have hzb : z ≠ b := fun e => by
      rw [e, upd_same] at hz
      cases hz
    refine ⟨16, rfl, by decide, by decide, for_range (lo := 0) (n := 16) (fun i σ H' => ∃ (x3 x4 x5 x6 x7 : Option V) (o' : HO), σ = [some (.ref a), some (.ref b), some (.ref z), x3, x4, x5, x6, x7] ∧ H' b = some o' ∧ BagO c ns.length (6 * (i : Int)) o' ∧ H' c = some (.lst (ns.map V.int)) ∧ H' z = some (.lst sizesL)) ?_ ?_ ?_⟩
    · refine ⟨none, none, none, none, none, o, rfl, ?_, hB, ?_, upd_same⟩
      · rw [upd_ne (Ne.symm hzb)]
        exact upd_same
      · have hzc : c ≠ z := fun e => by
          rw [← e, upd_ne hcb, upd_same] at hz
          cases hz
        rw [upd_ne hzc, upd_ne hcb]
        exact upd_same
    · rintro i σ H0 hi ⟨x3, x4, x5, x6, x7, o0, rfl, h0b, B0, h0c, h0z⟩
      have hi0 : (0 : Int) + (i : Int) = (i : Int) := Int.zero_add _
      rw [hi0]
      refine ⟨_, rfl, b, c, ns, _, o0, rfl, h0b, B0, by omega, h0c, fun va da o1 H1 Da a1 a2 k1 h1b B1 => ?_⟩
      obtain ⟨kv1, rfl⟩ := B1.dict
      have h1c := k1 _ _ hcb h0c
      have h1z := k1 _ _ hzb h0z
      refine ⟨_, rfl, b, c, ns, _, _, rfl, h1b, B1, by omega, h1c, fun vb db o2 H2 Db b1 b2 k2 h2b B2 => ?_⟩
      obtain ⟨kv2, rfl⟩ := B2.dict
      have h2c := k2 _ _ hcb h1c
      have h2z := k2 _ _ hzb h1z
      refine ⟨_, rfl, b, c, ns, _, _, rfl, h2b, B2, by omega, h2c, fun vc dc o3 H3 Dc c1 c2 k3 h3b B3 => ?_⟩
      obtain ⟨kv3, rfl⟩ := B3.dict
      have h3c := k3 _ _ hcb h2c
      have h3z := k3 _ _ hzb h2z
      have Da3 := Dp.mono (k3.stands h2b) (Dp.mono (k2.stands h1b) Da)
      have Db3 := Dp.mono (k3.stands h2b) Db
      refine ⟨va, vb, vc, rfl, ?_⟩
      refine ⟨_, rfl, _, rfl, _, rfl, _, rfl, i, va, vb, vc, rfl, Nat.zero_le _, hi, fun p H4 s4 n4 e4 => ?_⟩
      refine ⟨_, rfl, _, rfl, _, rfl, by show 3 ≤ sizeLine; decide, fun p5 hp5 => ?_⟩
      have s5 := s4.trans (same_new (o := .lst [va, vb, vc]) hp5)
      obtain ⟨zz, hz1, hz2⟩ := cut_fields i hi va vb vc
      refine ⟨_, rfl, _, rfl, z, sizesL, i, _, rfl, rfl, SqL.of (s5 _ _ h3z), hz1, _, rfl, p5, _, rfl, SqL.of upd_same, fun p6 hp6 => ?_⟩
      rw [hz2]
      have t6 : Same H4 _ := (same_new (o := .lst [va, vb, vc]) hp5).trans (same_new (o := .lst (fieldsOf i va vb vc)) hp6)
      have s6 := s4.trans t6
      obtain ⟨f1, f2⟩ := fields_ok i hi a1 b1 c1 a2 b2 c2
      have sh := list_shaped f1 f2
      have dp6 : DpAll K _ (fieldsOf i va vb vc) (fieldsD i da db dc) := fields_dp i hi (Dp.mono s6.stands Da3) (Dp.mono s6.stands Db3) (Dp.mono s6.stands Dc)
      refine ⟨.list (fieldsD i da db dc), .list (fieldsD i da db dc), .lst (SqL.of (t6 _ _ e4)) dp6, .lst (SqL.of upd_same) dp6, sh, sh, ?_⟩
      rw [eqv_self _ (SeqAt.canLay_of_shaped sh)]
      refine ⟨_, rfl, iteF ?_⟩
      refine ⟨_, rfl, _, rfl, _, rfl, _, rfl, i, va, vb, vc, rfl, hi, fun p7 H7 s7 n7 e7 => ?_⟩
      refine ⟨by show 1 ≤ sizeLine; decide, fun p8 hp8 => ?_⟩
      have t8 : Same H7 _ := same_new (o := .lst [.bl true]) hp8
      refine ⟨16, rfl, by decide, by decide, fun D hD => ?_⟩
      refine lc_range (lo := 0) (n := 16) (fun m H' => Same (upd H7 p8 (.lst [.bl true])) H' ∧ H' D = some (.lst (eqsL m i))) ⟨same_new hD, upd_same⟩ (fun m H' hm hp => ?_) (fun H' hp => ?_)
      · refine ⟨rfl, ?_⟩
        refine ⟨_, rfl, _, rfl, rfl, _, hp.2, by rw [eqsL_len]; exact Nat.lt_of_lt_of_le hm (by decide), ?_⟩
        have s9 : ∀ acc, Same (upd H7 p8 (.lst [.bl true])) (upd H' D (.lst acc)) := fun acc x o ex => by
          have q9 := hp.1 x o ex
          rw [upd_ne (fun y => by rw [y, hD] at ex; cases ex)]
          exact q9
        refine ⟨s9 _, ?_⟩
        rw [upd_same, eqsL_succ]
      · rw [eqsL_kind] at hp
        refine ⟨p8, D, [.bl true], kindL i, rfl, rfl, hp.1 _ _ upd_same, hp.2, by show 1 + 16 ≤ sizeLine; decide, fun p9 hp9 => ?_⟩
        have t9 : Same H7 _ := (t8.trans hp.1).trans (same_new (o := .lst ([.bl true] ++ kindL i)) hp9)
        obtain ⟨g1, g2⟩ := kind_ok i
        have sk := list_shaped g1 g2
        refine ⟨.list (.bool true :: kindD i), .list (.bool true :: kindD i), .lst (SqL.of (t9 _ _ e7)) (.cons (.bl _) (kind_dp i)), .lst (SqL.of upd_same) (.cons (.bl _) (kind_dp i)), sk, sk, ?_⟩
        rw [eqv_self _ (SeqAt.canLay_of_shaped sk)]
        refine ⟨_, rfl, iteF ?_⟩
        have sF := s6.trans (s7.trans t9)
        exact ⟨_, _, _, _, _, _, rfl, sF _ _ h3b, B3.up (by omega), sF _ _ h3c, sF _ _ h3z⟩
    · rintro σ H' ⟨x3, x4, x5, x6, x7, o', rfl, _⟩
      exact q _
end
end Pk
namespace Pk
open L2 PyProof.Rows PySem.Spec PySem
def fnL : List Hx.DefE := [⟨("BadStyle", some "__init__"), "__init__", "BadStyle.__init__", sIBadStyle, ["__class__"], []⟩,
  ⟨("BadSum", some "__init__"), "__init__", "BadSum.__init__", sIBadSum, ["__class__"], []⟩,
  ⟨("BadKind", some "__init__"), "__init__", "BadKind.__init__", sIBadKind, ["__class__"], []⟩,
  ⟨("BadLine", some "__init__"), "__init__", "BadLine.__init__", sIBadLine, ["__class__"], []⟩,
  ⟨("Refused", some "__init__"), "__init__", "Refused.__init__", sIRefused, ["__class__"], []⟩,
  ⟨("BadCapacity", some "__init__"), "__init__", "BadCapacity.__init__", sIBadCapacity, ["__class__"], []⟩,
  ⟨("BadCase", some "__init__"), "__init__", "BadCase.__init__", sIBadCase, ["__class__"], []⟩,
  ⟨("BadPromise", some "__init__"), "__init__", "BadPromise.__init__", sIBadPromise, ["__class__"], []⟩,
  ⟨("NoLine", some "__init__"), "__init__", "NoLine.__init__", sINoLine, ["__class__"], []⟩,
  ⟨("OtherKinds", some "__init__"), "__init__", "OtherKinds.__init__", sIOtherKinds, ["__class__"], []⟩,
  ⟨("OtherRules", some "__init__"), "__init__", "OtherRules.__init__", sIOtherRules, ["__class__"], []⟩,
  ⟨("WrongCode", some "__init__"), "__init__", "WrongCode.__init__", sIWrongCode, ["__class__"], []⟩,
  ⟨("BadKey", some "__init__"), "__init__", "BadKey.__init__", sIBadKey, ["__class__"], []⟩,
  ⟨("TwiceKey", some "__init__"), "__init__", "TwiceKey.__init__", sITwiceKey, ["__class__"], []⟩,
  ⟨("NoKey", some "__init__"), "__init__", "NoKey.__init__", sINoKey, ["__class__"], []⟩,
  ⟨("TooMany", some "__init__"), "__init__", "TooMany.__init__", sITooMany, ["__class__"], []⟩,
  ⟨("_law_bag", none), "_law_bag", "_law_bag", sBag, [], []⟩,
  ⟨("_law_draw", none), "_law_draw", "_law_draw", sDraw, [], []⟩,
  ⟨("_law_thing", none), "_law_thing", "_law_thing", sThing, [], []⟩,
  ⟨("_law_raised_0", none), "_law_raised_0", "_law_raised_0", sR0, [], []⟩,
  ⟨("_law_raised_1", none), "_law_raised_1", "_law_raised_1", sR1, [], []⟩,
  ⟨("_law_raised", none), "_law_raised", "_law_raised", sRaised, [], []⟩,
  ⟨("_law_kinds_of", none), "_law_kinds_of", "_law_kinds_of", sKinds, [], []⟩,
  ⟨("_law_caught", none), "_law_caught", "_law_caught", sCaught, [], []⟩,
  ⟨("_law_fields_0", none), "_law_fields_0", "_law_fields_0", sF0, [], []⟩,
  ⟨("_law_fields_1", none), "_law_fields_1", "_law_fields_1", sF1, [], []⟩,
  ⟨("_law_fields", none), "_law_fields", "_law_fields", sFields, [], []⟩,
  ⟨("law", none), "law", "law", sLaw, [], []⟩]
def faL : List He.Fa := [.glo "_law_bag", .glo "_law_draw", .glo "_law_thing", .glo "_law_raised_0", .glo "_law_raised_1", .glo "_law_raised", .glo "_law_kinds_of", .glo "_law_caught", .glo "_law_fields_0", .glo "_law_fields_1", .glo "_law_fields", .glo "law", .free "int", .free "list", .free "len", .free "range", .free "isinstance", .free "super", .free "ValueError", .glo "PageError"]
def fbL : List (PySem.W.Frag → Bool) := [fun K => Hx.supB progOf K "BadStyle" ["style"],
  fun K => Hx.supB progOf K "BadSum" ["text"],
  fun K => Hx.supB progOf K "BadKind" ["kind"],
  fun K => Hx.supB progOf K "BadLine" ["line"],
  fun K => Hx.supB progOf K "Refused" ["line"],
  fun K => Hx.supB progOf K "BadCapacity" ["k"],
  fun K => Hx.supB progOf K "BadCase" ["case"],
  fun K => Hx.supB progOf K "BadPromise" ["promise"],
  fun K => Hx.supB progOf K "NoLine" ["line"],
  fun K => Hx.supB progOf K "OtherKinds" [],
  fun K => Hx.supB progOf K "OtherRules" [],
  fun K => Hx.supB progOf K "WrongCode" ["code"],
  fun K => Hx.supB progOf K "BadKey" ["key"],
  fun K => Hx.supB progOf K "TwiceKey" ["key"],
  fun K => Hx.supB progOf K "NoKey" ["key"],
  fun K => Hx.supB progOf K "TooMany" ["what", "many", "most"],
  kindsB]
abbrev RR : PySem.W.OpenRow := PySem.W.OpenLaw.row PySem.Challenge.rw_pagecode_k00_errors_made_from_their_fiel
abbrev hkk : PySem.W.Hook := Hx.hookX 5 faL fbL fnL
def ob (s : PySem.W.SharedT) : Hx.AlX := Hx.obsXG 5 faL fbL fnL (HandSHeadRun.getT s)
theorem ob_eq (s : PySem.W.SharedT) : ob s = hkk.obs s.abs := Hx.obsXG_eq (HandSHeadRun.getT_eq s)
theorem run_top (w : World) : HandSHeadRun.RunEq RR (PySem.W.view RR.prog [30]) hkk ob 20000 ["PageError", "BadStyle", "BadSum", "BadKind", "BadLine", "Refused", "BadCapacity", "BadCase", "BadPromise", "NoLine", "OtherKinds", "OtherRules", "WrongCode", "BadKey", "TwiceKey", "NoKey", "TooMany", "_law_bag", "_law_draw", "_law_thing", "_law_raised_0", "_law_raised_1", "_law_raised", "_law_kinds_of", "_law_caught", "_law_fields_0", "_law_fields_1", "_law_fields"] w := by
  intro os
  kernel_rfl
end Pk
namespace Pk
open L2 PyProof.Rows PySem.Spec PySem
theorem facts {w : World} {K : PySem.W.Frag} {h : Heap} {mg : Str → Option Value} {f : Addr} (X : K.In h) (G : h.Ns mainGlobals mg) (hfa : mg ("law" : Str) = some (.ref f)) (c : Hx.SaysX faL fbL fnL K) :
    ∃ fd : FuncData, (∀ (s : Shared) (v : Value), BindsTo s fd ⟨[v], []⟩ [("_law_script", v)]) ∧ ∀ base : Heap, K.In base → base.Ns mainGlobals mg → FnOk progOf w K mg base CX0 6 f fd ["_law_script"] (spLaw K) := by
  obtain ⟨fd_law_bag, F_law_bag⟩ := c.def_ 16 (x := "_law_bag") (p := ("_law_bag", none)) (qual := "_law_bag") (st := sBag) (dfl := [])
  obtain ⟨fd_law_draw, F_law_draw⟩ := c.def_ 17 (x := "_law_draw") (p := ("_law_draw", none)) (qual := "_law_draw") (st := sDraw) (dfl := [])
  obtain ⟨fd_law_thing, F_law_thing⟩ := c.def_ 18 (x := "_law_thing") (p := ("_law_thing", none)) (qual := "_law_thing") (st := sThing) (dfl := [])
  obtain ⟨fd_law_raised_0, F_law_raised_0⟩ := c.def_ 19 (x := "_law_raised_0") (p := ("_law_raised_0", none)) (qual := "_law_raised_0") (st := sR0) (dfl := [])
  obtain ⟨fd_law_raised_1, F_law_raised_1⟩ := c.def_ 20 (x := "_law_raised_1") (p := ("_law_raised_1", none)) (qual := "_law_raised_1") (st := sR1) (dfl := [])
  obtain ⟨fd_law_raised, F_law_raised⟩ := c.def_ 21 (x := "_law_raised") (p := ("_law_raised", none)) (qual := "_law_raised") (st := sRaised) (dfl := [])
  obtain ⟨fd_law_kinds_of, F_law_kinds_of⟩ := c.def_ 22 (x := "_law_kinds_of") (p := ("_law_kinds_of", none)) (qual := "_law_kinds_of") (st := sKinds) (dfl := [])
  obtain ⟨fd_law_caught, F_law_caught⟩ := c.def_ 23 (x := "_law_caught") (p := ("_law_caught", none)) (qual := "_law_caught") (st := sCaught) (dfl := [])
  obtain ⟨fd_law_fields_0, F_law_fields_0⟩ := c.def_ 24 (x := "_law_fields_0") (p := ("_law_fields_0", none)) (qual := "_law_fields_0") (st := sF0) (dfl := [])
  obtain ⟨fd_law_fields_1, F_law_fields_1⟩ := c.def_ 25 (x := "_law_fields_1") (p := ("_law_fields_1", none)) (qual := "_law_fields_1") (st := sF1) (dfl := [])
  obtain ⟨fd_law_fields, F_law_fields⟩ := c.def_ 26 (x := "_law_fields") (p := ("_law_fields", none)) (qual := "_law_fields") (st := sFields) (dfl := [])
  obtain ⟨fdlaw, Flaw⟩ := c.def_ 27 (x := "law") (p := ("law", none)) (qual := "law") (st := sLaw) (dfl := [])
  have ER : Errs progOf K mg := {
    iBadStyle := c.init X G 0 0
    iBadSum := c.init X G 1 1
    iBadKind := c.init X G 2 2
    iBadLine := c.init X G 3 3
    iRefused := c.init X G 4 4
    iBadCapacity := c.init X G 5 5
    iBadCase := c.init X G 6 6
    iBadPromise := c.init X G 7 7
    iNoLine := c.init X G 8 8
    iOtherKinds := c.init X G 9 9
    iOtherRules := c.init X G 10 10
    iWrongCode := c.init X G 11 11
    iBadKey := c.init X G 12 12
    iTwiceKey := c.init X G 13 13
    iNoKey := c.init X G 14 14
    iTooMany := c.init X G 15 15
    mS := (He.free_ok X G (c.fact 17 (f := .free "super") rfl))
    hP := rfl }
  have KF : KindsF K := kindsB_ok (c.own 16 (f := kindsB))
  have e := hfa.symm.trans (He.glo_ok X G (c.fact 11 (f := .glo "law") rfl))
  cases e
  have b := FunD.bindsA (ps := ["_law_script"]) Flaw fun _ _ _ _ _ _ us hl => match us, hl with | [_], _ => rfl
  refine ⟨fdlaw, fun s v => b s [v] rfl, fun base _ _ => ?_⟩
  have GD : FnOk progOf w K mg base CX0 1 _ _ _ _ := ok_draw (P := progOf) (w := w) (mg := mg) (base := base) F_law_draw (He.free_ok X G (c.fact 12 (f := .free "int") rfl)) (He.free_ok X G (c.fact 14 (f := .free "len") rfl))
  have GB : FnOk progOf w K mg base CX0 1 _ _ _ _ := ok_bag (P := progOf) (w := w) (mg := mg) (base := base) F_law_bag (He.free_ok X G (c.fact 12 (f := .free "int") rfl)) (He.free_ok X G (c.fact 13 (f := .free "list") rfl))
  have GT : FnOk progOf w K mg base CX0 2 _ _ _ _ := ok_thing (P := progOf) (w := w) (mg := mg) (base := base) F_law_thing F_law_draw GD (He.glo_ok X G (c.fact 1 (f := .glo "_law_draw") rfl)) (F_law_draw.bindsN fun _ _ _ _ _ _ us hl => match us, hl with | [_, _], _ => rfl)
  have G0 := ok_law_fields_0 (P := progOf) (w := w) (base := base) F_law_fields_0 F_law_raised_0 ER KF (He.glo_ok X G (c.fact 3 (f := .glo "_law_raised_0") rfl))
  have G1 := ok_law_fields_1 (P := progOf) (w := w) (base := base) F_law_fields_1 F_law_raised_1 ER KF (He.glo_ok X G (c.fact 4 (f := .glo "_law_raised_1") rfl))
  have GF := ok_law_fields (P := progOf) (w := w) (base := base) F_law_fields F_law_fields_0 F_law_fields_1 G0 G1 (He.glo_ok X G (c.fact 8 (f := .glo "_law_fields_0") rfl)) (He.glo_ok X G (c.fact 9 (f := .glo "_law_fields_1") rfl))
  have GR := ok_law_raised (P := progOf) (w := w) (base := base) F_law_raised F_law_raised_0 F_law_raised_1 ER (He.glo_ok X G (c.fact 3 (f := .glo "_law_raised_0") rfl)) (He.glo_ok X G (c.fact 4 (f := .glo "_law_raised_1") rfl))
  have GK := ok_law_kinds_of (P := progOf) (w := w) (base := base) F_law_kinds_of ER KF (He.free_ok X G (c.fact 16 (f := .free "isinstance") rfl))
  have gP : mg "PageError" = some (.ref (He.ga K "PageError")) := He.glo_ok X G (c.fact 19 (f := .glo "PageError") rfl)
  have GC := ok_law_caught (P := progOf) (w := w) (base := base) F_law_caught F_law_raised F_law_kinds_of GR GK ER KF (He.free_ok X G (c.fact 16 (f := .free "isinstance") rfl)) (He.free_ok X G (c.fact 18 (f := .free "ValueError") rfl)) gP (He.glo_ok X G (c.fact 5 (f := .glo "_law_raised") rfl)) (He.glo_ok X G (c.fact 6 (f := .glo "_law_kinds_of") rfl))
  exact ok_law Flaw F_law_bag F_law_thing F_law_fields F_law_caught GB GT GF GC (He.glo_ok X G (c.fact 0 (f := .glo "_law_bag") rfl)) (He.glo_ok X G (c.fact 2 (f := .glo "_law_thing") rfl)) (He.glo_ok X G (c.fact 10 (f := .glo "_law_fields") rfl)) (He.glo_ok X G (c.fact 7 (f := .glo "_law_caught") rfl)) (He.free_ok X G (c.fact 15 (f := .free "range") rfl))
end Pk
open PyProof.Rows PySem.Calls PySem.W PySem
theorem PySem.Challenge.cw_pagecode_k00_errors_made_from_their_fiel_holds : PySem.Challenge.rw_pagecode_k00_errors_made_from_their_fiel.Holds := by
  w_on; o_law
  refine HandSHeadRun.head_any (r := OpenLaw.row PySem.Challenge.rw_pagecode_k00_errors_made_from_their_fiel) (q := view (OpenLaw.row PySem.Challenge.rw_pagecode_k00_errors_made_from_their_fiel).prog [30]) (H := Pk.hkk) (ob := Pk.ob) (M := 20000) (loose := ["PageError", "BadStyle", "BadSum", "BadKind", "BadLine", "Refused", "BadCapacity", "BadCase", "BadPromise", "NoLine", "OtherKinds", "OtherRules", "WrongCode", "BadKey", "TwiceKey", "NoKey", "TooMany", "_law_bag", "_law_draw", "_law_thing", "_law_raised_0", "_law_raised_1", "_law_raised", "_law_kinds_of", "_law_caught", "_law_fields_0", "_law_fields_1", "_law_fields"]) (d := HandSHeadRun.topDef (OpenLaw.row PySem.Challenge.rw_pagecode_k00_errors_made_from_their_fiel).prog 30) (kwd := []) Pk.ob_eq
    (by kernel_rfl) (fun s => by kernel_rfl) Pk.run_top (by kernel_rfl) (by kernel_rfl) (by kernel_rfl) (by rfl) (by first | assumption | decide +kernel) (by decide +kernel) ⟨rfl, rfl, rfl, rfl, rfl, by decide +kernel⟩ ?hw ?hc
  case hw => w_witness2
  case hc =>
    refine L2.walk_ofE (l := PySem.Challenge.rw_pagecode_k00_errors_made_from_their_fiel) (n := 63) (k := 6) (x := "_law_script") (CX := L2.CX0) rfl (by decide) (by kernel_rfl) ⟨rfl, by decide, by decide⟩ ?F (fun _ _ _ _ z => z)
    intro w mg fa h Y G hmg0
    obtain ⟨K, KX, c⟩ := Y; have hmg : mg ("law" : PySem.Str) = some (.ref fa) := by
      have e : (HandSHeadRun.topDef (OpenLaw.row PySem.Challenge.rw_pagecode_k00_errors_made_from_their_fiel).prog 30).name = ("law" : PySem.Str) := by kernel_rfl
      rw [← e]
      exact hmg0
    obtain ⟨fd, hb, hF⟩ := Pk.facts (w := w) KX G hmg c
    exact ⟨K, fd, Pk.spLaw K, KX, hb, fun H a ns hl _ hS => ⟨a, ns, rfl, hS, hl, fun _ => rfl⟩, hF⟩
