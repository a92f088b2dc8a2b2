import PyProof.Rows.All
import Wide.All
import OpenK.AllK
import Wide.FinOn
import KE.KExcSuper
import HandS.Base
import HandS.Call
import HandS.List
import HandS.Ends
import HandS.Exc
import HandS.ExcInit
import HandS.ExcField
import HandS.Defaults
import HandS.HeadHook1
import HandS.HeadHook2
import HandS.Words
import HandS.WordsExc
import HandS.ForMost
import HandS.Wide
import HandS.ForExc
import HandS.Codes
import HandS.Style
import HandS.ExcIs
import HandS.TryMany
import HandS.DictComp
import HandS.CallSlots
import HandS.SortKw
import KE.DataMinMax
import KE.SortData
import HandS.OwnEq
import HandS.IsInst
import PyProof.InstEq
import HandS.Lambda
import HandS.Star
import HandS.Comp
import HandS.AnyAll
import HandS.NamedTupGet
import HandS.Text
import HandS.HotCalls
import PySem.Challenge.RW_pagecode_k01_codes_made_and_refused
import HandS.StrMore
import HandS.TupAny
import HandS.WordsDict
import HandS.Dict
import HandS.NoneIn
import HandS.EndTab
import HandS.HeadWalk
import KE.KNestM
import KE.KStateDown
import HandS.More
import HandS.Head0
import HandS.Head1
import HandS.Head2
import HandS.HeadEnd
set_option Elab.async false
set_option linter.all false
set_option maxRecDepth 100000
set_option maxHeartbeats 4200000
/-! Sup: own exception classes over ValueError (with own classes between) whose __init__ begins with super().__init__(text) and then stores its parameters. -/
namespace PySem
namespace Sx
open PyProof.Rows PySem.HandSPX PySem.W PySem.Calls
/-- what the written part says of such a class at C, of its __init__ at f, of the cell and the code object -/
structure SupAt (prog : Program) (K : Frag) (C f cc cda : Addr) : Prop where
  code : ∃ ccl cdd vs ccs file tf, K.lookup cda = some ⟨ccl, cdd, .fields vs, ccs⟩ ∧ vs[2]? = some (.str file tf) ∧ ((prog.main.file : Str) == file) = true
  cell : ∃ cl cld csl, K.lookup cc = some ⟨cl, cld, .cell (some (.ref C)), csl⟩
  sup : ks_superIn K C C "__init__" = some (some (.builtin "ValueError.__init__"))
  ve : subIn K (.ref C) (.type "ValueError") = some true
  self : (mroIn K C (.ref C)) = (some true)
  any : nsIn K cStatics "thirdparty.any" = some none
  cls : ∃ nm q ns bs bm sn sub ab col dd j0 j1 j2 j3 j5, K.lookup C = some (excClassObj nm q C ns bs bm true sn sub ab col dd j0 j1 j2 j3 j5 "ValueError.__new__") ∧ refsVE bm = true
section
variable {prog : Program} {w : World} {A : Around} {E : Value → Shared → Prop} {s : Shared} {K : Frag} {mg mb m : Str → Option Value} {C f cc cda x t0 L : Addr}
variable {q : Str} {scope : Scope} {body : List Stmt} {fd : FuncData} {oc : Value} {od : Option Addr} {osl : Array (Option Value)} {ar : Arg}
/-- how the call super().__init__(text) is evaluated where its places are known -/
def SupEv (p0 p1 p2 p3 p4 : Pos) (j : Nat) (txt : Str) (q : Str) (scope : Scope) (pl : Sem Bool) : Prop := ∀ (L f : Addr) (cd : Value) (cc : Addr),
  eval (.Call (.Attribute (.Call (.Name "super" p0) [] [] p1) "__init__" p2) [.Constant (.str txt) j p3] [] p4) (ksEnv q scope L f cd cc) = (do
      let ov ← attributeBase (.Call (.Name "super" p0) [] [] p1) "__init__" (ksEnv q scope L f cd cc) (eval (.Call (.Name "super" p0) [] [] p1) (ksEnv q scope L f cd cc))
      standAt p2.atName
      let (fx, first) ← holding [ov] (getMethod ov "__init__" pl)
      callWith p4 fx first (backTo p4 (starEach [.Constant (.str txt) j p3] (ksEnv q scope L f cd cc))) [])
theorem first_stmt {p0 p1 p2 p3 p4 p5 : Pos} {j : Nat} {txt : Str} {Q : Flow → Shared → Prop}
    (X : K.In s.heap) (G : s.heap.Ns mainGlobals mg) (hmg : mg "super" = none) (B : s.heap.Ns builtinsNs mb) (hmb : mb "super" = some (.type "super"))
    (S : SupAt prog K C f cc cda) (hf : K.lookup f = some ⟨oc, od, .func fd, osl⟩) (hp : (fd.params.posonlyargs ++ fd.params.args).head? = some ar) (har : ar.arg = ("self" : Str))
    (hn : s.heap.Ns L m) (hv : m "self" = some (.ref x)) (hx : s.heap.get? x = some (excO C t0))
    (hks : scope.names.lookup ("super" : Str) = some .globalImplicit) (hkc : scope.names.lookup ("__class__" : Str) = some .free) (hka : scope.names.lookup ("self" : Str) = some .local) (hk : scope.kind = .function)
    (htop : (prog.main.scope.names.lookup ("super" : Str)).isSome = false) {pl : Sem Bool} (hev : SupEv p0 p1 p2 p3 p4 j txt q scope pl)
    (hq : ∀ h' tk t', (∀ b o, b ≠ x → s.heap.get? b = some o → h'.get? b = some o) → h'.get? x = some (excO C t') → Q .next { s with heap := h', toks := tk }) :
    _root_.PySem.wpAt (model prog w) A (.func body (ksEnv q scope L f (.ref cda) cc)) (exec (.Expr (.Call (.Attribute (.Call (.Name "super" p0) [] [] p1) "__init__" p2) [.Constant (.str txt) j p3] [] p4) p5) (ksEnv q scope L f (.ref cda) cc)) Q E s := by
  obtain ⟨ccl, cdd, vs, ccs, file, tf, hcode, hvs, hfile⟩ := S.code
  obtain ⟨cl, cld, csl, hcell⟩ := S.cell
  obtain ⟨nm, q', N, bs, bm, sn, sub, ab, col, dd, k0, k1, k2, k3, k5, hC, hbm⟩ := S.cls
  have hcl : clsIn K C = some { name := nm, bases := bs, mro := .ref C :: bm, ns := N, qualname := q', hasDict := true, slotNames := sn, subclasses := sub, abstract := ab, collection := col, hasDel := false } := by unfold clsIn; rw [hC] <;> rfl
  have I0 : InstAt s.heap x (excO C t0) C none := ⟨hx, rfl, rfl, trivial⟩
  have hne : x ≠ C := ks_ne X I0 hcl
  obtain ⟨hh, g, d, t, os⟩ := s
  refine ks_wpAt_Expr_any ?_ (by simp [interactive, hk])
  refine ks_wpAt_MethodCall ?_ (hev L f (.ref cda) cc)
  refine ks_wpAt_super_base (env := ksEnv q scope L f (.ref cda) cc) hks hkc (by decide) rfl (X _ _ hf) rfl hp rfl (X _ _ hcode) rfl hvs hfile htop ?_
  refine ks_loadName_global hk hks (loadGlobal_builtin (env := ksEnv q scope L f (.ref cda) cc) G hmg B hmb ⟨rfl, ?_⟩)
  refine wpAny_loadName_free hk hkc rfl ⟨_, X _ _ hcell, rfl⟩ ?_; rw [har]
  refine wpAny_loadName_local hk hka hn hv ?_
  have hD1 := X _ _ hC
  refine ks_wpAny_isType_cls hD1 rfl ⟨rfl, ?_⟩
  refine ks_wpAny_call_super hD1 rfl hx rfl (fun c e => by cases e) (looks_mroIn X S.self) (fun h1 e1 k1 => ?_)
  have X1 : K.In h1 := X.keeps k1
  have I1 : InstAt h1 x (excO C t0) C none := ⟨k1 _ _ hx, rfl, rfl, trivial⟩
  have hm := S.sup
  unfold ks_superIn at hm
  rw [hcl] at hm
  refine kxs_getMethod kxs_ValueError e1 (looks_opaque X1 S.any) (l₀ := .ref C :: bm) (fun A Q E s k q => wpAny_bind ((looks_clsIn X1 hcl) A _ E s k (wpAny_pure q))) rfl X1 hm (I1.type.andThen (looks_subIn X1 S.ve)) hne (by decide) ?_
  have he : starEach [Expr.Constant (.str txt) j p3] (ksEnv q scope L f (.ref cda) cc) = (false, eval (.Constant (.str txt) j p3) (ksEnv q scope L f (.ref cda) cc)) :: starEach [] (ksEnv q scope L f (.ref cda) cc) := by rfl
  rw [he]
  refine kxs_callWith (i := "ValueError.__init__") (x := x) (by rfl) (evalArgs_plain ?_)
  show wpAny _ _ (spliced ((false, eval (.Constant (.str txt) j p3) (ksEnv q scope L f (.ref cda) cc)) :: backTo p4 (starEach [] (ksEnv q scope L f (.ref cda) cc)))) _ _ _
  refine Calls.spliced_cons (Calls.Constant_str (Calls.spliced_nil ⟨Heap.get?_push_size _ rfl, ?_⟩))
  show wpAny _ _ (call (.ref h1.objs.size) [.str txt _]) _ _ _
  have k2 : ∀ b o, h1.get? b = some o → (h1.push (kxs_mw "ValueError.__init__" x)).get? b = some o := fun b o e => Heap.get?_push_of_some _ e
  have hx2 := k2 _ _ (k1 _ _ hx)
  have hC2 := k2 _ _ (k1 _ _ hD1)
  have hu : (h1.push (kxs_mw "ValueError.__init__" x)).get? h1.objs.size = some (kxs_mw "ValueError.__init__" x) := Heap.get?_push_size _ rfl
  refine wpAny_call (codeAny_of_tree ?_); show wpAny _ A.in1 (callAny (.ref h1.objs.size) ⟨[.str txt _], []⟩) _ _ _
  simp only [callAny]
  refine wpAny_bind (wpAny_load hu ?_); simp only [kxs_mw, show (Value.type "method-wrapper" == Value.type "method" || Value.type "method-wrapper" == Value.type "builtin_function_or_method" || Value.type "method-wrapper" == Value.type "method-wrapper") = true by decide, if_true]
  refine KFB.if_so (by decide) ?_; refine wpAny_bind (check_bound_init F.excBase_ValueError.toExcCallFacts hC2 hx2 rfl ?_)
  refine wpAny_bind (wpAny_pure (wpAny_pure ?_)); refine ⟨plainId_quiet F.excBase_ValueError.init.plain _, codeAny_builtin F.excBase_ValueError.initEntry ?_⟩
  rw [Around.under_plainId F.excBase_ValueError.init.plain _]
  refine exc_init_tree (cls := .ref C) (t0 := t0) (dv := none) (c2 := .none) (c3 := .none) (b4 := .bool false) hx2 (by rw [sizeLine_eq]; simp) (fun h3 k3 e3 _ => ?_)
  exact hq h3 _ _ (fun b o hb e => k3 b o hb (k2 b o (k1 b o e))) e3
end
end Sx
end PySem
namespace L2
open PyProof.Rows PySem.Spec PySem
/-- the scope of such an __init__ -/
structure FnScopeS (N P : List Str) (sc : Scope) : Prop where
  kind : sc.kind = .function
  co : sc.isCoroutine = false
  gen : sc.isGenerator = false
  nd : N.Nodup
  pre : N.take P.length = P
  par : ∀ x ∈ P, sc.names.lookup x = some .local
  nocell : ∀ nk ∈ sc.names, nk.2 ≠ .cell
  free : ∀ y ∈ sc.names, y.2 = .free → y.1 = ("__class__" : Str)
  ks : sc.names.lookup ("super" : Str) = some .globalImplicit
  kc : sc.names.lookup ("__class__" : Str) = some .free
abbrev envS (qual : Str) (scope : Scope) (L f : Addr) (cd : Value) (cc : Addr) : Env := PySem.W.ksEnv qual scope L f cd cc
/-- the context of its body behind the first statement -/
def cxOfS (CX : CXT) (P : Program) (w : World) (K : PySem.W.Frag) (mg : Str → Option Value) (base : Heap) (N : List Str) (qual : Str) (scope : Scope) (f : Addr) (cd : Value) (cc : Addr) (A : Around) (outer : List Env) (s : Shared) (H : Hp) (E : XK) : Cx where
  prog := P
  w := w
  K := K
  mg := mg
  base := base
  A := A.deeper (envS qual scope s.heap.objs.size f cd cc)
  N := N
  s_0 := s
  H_0 := H
  env := envS qual scope s.heap.objs.size f cd cc
  outer := outer
  stack := envS qual scope s.heap.objs.size f cd cc :: outer
  ex := []
  calm := true
  fn := fun x => !decide (x = ("__class__" : Str))
  pn := []
  xe := fun e s' => wpAny (model P w) (A.deeper (envS qual scope s.heap.objs.size f cd cc)) (leaving (envS qual scope s.heap.objs.size f cd cc) e) (fun _ s'' => CX outer H s E e s'') (fun e' s'' => CX outer H s E e' s'') s'
theorem lookup_sx {y : Str} {u : Value} : ∀ {l : List (Str × Value)}, (l.map (·.1)).Nodup → (y, u) ∈ l → l.lookup y = some u
  | [], _, h => by cases h
  | (n, v) :: r, nd, h => by
    rw [List.map_cons, List.nodup_cons] at nd; by_cases e : y = n
    · subst e
      rcases List.mem_cons.mp h with h | h
      · injection h with _ h2
        rw [h2]
        simp [List.lookup]
      · exact absurd (List.mem_map.mpr ⟨(y, u), h, rfl⟩) nd.1
    · rcases List.mem_cons.mp h with h | h
      · injection h with h1 _
        exact absurd h1 e
      · have q : (y == n) = false := by simpa using e
        simp only [List.lookup, q]
        exact lookup_sx nd.2 h
theorem fn_sup {CX : CXT} {P : Program} {w : World} {K : PySem.W.Frag} {mg : Str → Option Value} {base : Heap} {k : Nat} {f C cc cda : Addr} {name qual : Str} {params : Arguments} {rest : List Stmt} {scope : Scope} {dV kV doc pm ct oc : Value} {an od : Option Addr}
    {osl : Array (Option Value)} {N ps : List Str} {sp : Sp} {ar : Arg} {p0 p1 p2 p3 p4 p5 : Pos} {j : Nat} {txt : Str}
    (lk : K.lookup f = some ⟨oc, od, .func (PySem.W.ksFn name qual params (.Expr (.Call (.Attribute (.Call (.Name "super" p0) [] [] p1) "__init__" p2) [.Constant (.str txt) j p3] [] p4) p5 :: rest) scope dV kV doc pm an (.ref cda) ct cc), osl⟩)
    (hcd : PySem.W.codeIn K (.ref cda) qual = true) (S : FnScopeS N ps scope) (T : PySem.Sx.SupAt P K C f cc cda) (hmg : mg "super" = none)
    (hp : (params.posonlyargs ++ params.args).head? = some ar) (har : ar.arg = ("self" : Str)) (hps : ps.head? = some ("self" : Str)) (htop : (P.main.scope.names.lookup ("super" : Str)).isSome = false) {pl : Sem Bool} (hev : PySem.Sx.SupEv p0 p1 p2 p3 p4 j txt qual scope pl)
    (len : ∀ ws Hw Qw Ew, sp ws Hw Qw Ew → ws.length = ps.length)
    (hbody : ∀ (A : Around) (outer : List Env) (s : Shared) (H : Hp) (vs : List V) (Q : VK) (E : XK), Room k (A.deeper (envS qual scope s.heap.objs.size f (.ref cda) cc)) → sp vs H Q E →
      ∃ a ws t, vs = .ref a :: ws ∧ H a = some (exo a C none) ∧ PSs (cxOfS CX P w K mg base N qual scope f (.ref cda) cc A outer s H E) rest t ∧ t { nx := fun _ H' => Q .non H', rt := Q } (start N vs) H) :
    FnOk P w K mg base CX (k + 1) f (PySem.W.ksFn name qual params (.Expr (.Call (.Attribute (.Call (.Name "super" p0) [] [] p1) "__init__" p2) [.Constant (.str txt) j p3] [] p4) p5 :: rest) scope dV kV doc pm an (.ref cda) ct cc) ps sp := by
  refine ⟨len, fun A outer s H args us vs Q E hr e0 hb r hsp => ?_⟩; have hl := len _ _ _ _ hsp
  have KX : K.In s.heap := e0.mod.kin.keeps fun b o e => (e0.bs b o e).1; have lim : s.heap.NoLimit := e0.mod.nolimit.keeps fun b o e => (e0.bs b o e).1
  obtain ⟨a, ws, t, rfl, hHa, ht, hq⟩ := hbody A outer s H _ Q E (hr.deeper _) hsp
  obtain ⟨t0, hxa⟩ := exo_at e0.hok hHa
  have hps' : ∃ pr, ps = ("self" : Str) :: pr := by
    cases ps with
    | nil => cases hps
    | cons p pr => cases hps; exact ⟨pr, rfl⟩
  obtain ⟨pr, rfl⟩ := hps'
  cases r with
  | @cons _ u0 _ ur ra rw' =>
  obtain rfl : u0 = Value.ref a := ra; have hloc : ∀ y ∈ (("self" : Str) :: pr).zip (Value.ref a :: ur), scope.names.lookup y.1 = some .local := fun ⟨n, v⟩ hy => S.par n (List.of_mem_zip hy).1
  refine PySem.ks_codeAny_call_defAt (fd := PySem.W.ksFn name qual params (.Expr (.Call (.Attribute (.Call (.Name "super" p0) [] [] p1) "__init__" p2) [.Constant (.str txt) j p3] [] p4) p5 :: rest) scope dV kV doc pm an (.ref cda) ct cc)
    (body := .Expr (.Call (.Attribute (.Call (.Name "super" p0) [] [] p1) "__init__" p2) [.Constant (.str txt) j p3] [] p4) p5 :: rest) (binds := (("self" : Str) :: pr).zip (Value.ref a :: ur)) hr.depth (KX _ _ lk) rfl lim (PySem.W.codeRec_of KX hcd) rfl hb S.nocell hloc (fun h₁ hns hk₁ => ?_) S.co S.gen S.kind
  refine PySem.ks_wpAt_execs_cons ?_
  obtain ⟨mb, hB, hmb⟩ := e0.mod.blt
  have kb : ∀ b o, base.get? b = some o → h₁.get? b = some o := fun b o e => hk₁ b o ((e0.bs b o e).1)
  have ndP : (("self" : Str) :: pr).Nodup := by rw [← S.pre]; exact S.nd.sublist (List.take_sublist _ _)
  have hLa : s.heap.objs.size ≠ a := Nat.ne_of_gt (Heap.lt_size hxa)
  have hlu : (("self" : Str) :: pr).length = (Value.ref a :: ur).length := by
    have e1 := rw'.length
    have e2 : (V.ref a :: ws).length = (("self" : Str) :: pr).length := hl
    rw [← e2, List.length_cons, List.length_cons, e1]
  have hget : ∀ {i : Nat} {y : Str} {u : Value}, (("self" : Str) :: pr)[i]? = some y → (Value.ref a :: ur)[i]? = some u → ((("self" : Str) :: pr).zip (Value.ref a :: ur)).reverse.lookup y = some u := by
    intro i y u h1 h2
    have hm : (y, u) ∈ (("self" : Str) :: pr).zip (Value.ref a :: ur) := by
      refine List.mem_of_getElem? (i := i) ?_
      rw [List.getElem?_zip_eq_some]
      exact ⟨h1, h2⟩
    refine lookup_sx ?_ (List.mem_reverse.mpr hm)
    rw [List.map_reverse]
    refine (List.reverse_perm _).nodup_iff.mpr ?_
    rw [List.map_fst_zip (Nat.le_of_eq hlu)]
    exact ndP
  refine PySem.Sx.first_stmt (PySem.W.Frag.In.keeps KX hk₁) ((e0.mod.glob).keeps kb) hmg (hB.keeps kb) ((hmb _ (by decide)).trans (by first | boot_by_name | rfl | kernel_rfl)) T lk hp har hns (hget (i := 0) rfl rfl) (hk₁ _ _ hxa) S.ks S.kc (S.par _ List.mem_cons_self) S.kind htop hev (fun h' tk t' keep hx' => ?_)
  refine wpAt_of_wpAny ?_
  have ne_a : ∀ {b : Addr}, H b = none → b ≠ a := fun {b} n z => by rw [z, hHa] at n; cases n
  obtain ⟨clc, cld, csl, hcell⟩ := T.cell
  obtain ⟨oC, hbC⟩ : ∃ o, base.get? cc = some o := ⟨_, e0.mod.kin _ _ hcell⟩
  have ncc : H cc = none := (e0.bs _ _ hbC).2
  have hcc : h'.get? cc = some ⟨clc, cld, .cell (some (.ref C)), csl⟩ := keep _ _ (ne_a ncc) (hk₁ _ _ (KX _ _ hcell))
  have hLf : H s.heap.objs.size = none := e0.hok.fresh (Nat.le_refl _)
  have old : ∀ b o, b ≠ a → s.heap.get? b = some o → h'.get? b = some o := fun b o hb e => keep b o hb (hk₁ b o e)
  have hns' : h'.Ns s.heap.objs.size (fun x => ((("self" : Str) :: pr).zip (Value.ref a :: ur)).reverse.lookup x) := by
    obtain ⟨o, es, ep, ho, r⟩ := hns
    exact ⟨o, es, ep, keep _ _ hLa ho, r⟩
  have noA : ∀ b : Addr, b ∉ (cxOfS CX P w K mg base N qual scope f (.ref cda) cc A outer s H E).ex := fun b z => absurd (show b ∈ ([] : List Addr) from z) (by simp)
  have cellOnly : ∀ {y : Str} {c : Addr}, (cxOfS CX P w K mg base N qual scope f (.ref cda) cc A outer s H E).env.cells.lookup y = some c → y = ("__class__" : Str) ∧ c = cc := by
    intro y c h
    have h2 : List.lookup y [(("__class__" : Str), cc)] = some c := h
    by_cases e : y = ("__class__" : Str)
    · subst e
      simp [List.lookup] at h2
      exact ⟨rfl, h2.symm⟩
    · have q : (y == ("__class__" : Str)) = false := by simpa using e
      simp [List.lookup, q] at h2
  have hpl : (("self" : Str) :: pr).length ≤ N.length := by have := congrArg List.length S.pre; rw [List.length_take] at this; omega
  have ok : (cxOfS CX P w K mg base N qual scope f (.ref cda) cc A outer s H E).Ok := by
    refine ⟨e0.mod, S.kind, rfl, rfl, Nat.le_refl _, fun y z c h1 h2 => ?_, fun y hy => ?_, fun y c hf h => ?_, fun _ => hr.hd, Around.frames_deeper e0.frames, .inr ⟨rfl, rfl⟩, fun b z => absurd z (noA b), e0.bs, e0.bsz, fun b _ _ => noA b, fun b z => absurd z (noA b), e0.funs, e0.frf⟩
    · rw [(cellOnly h1).1, (cellOnly h2).1]
    · have hy : scope.names.lookup y = some .cell ∨ scope.names.lookup y = some .free := hy; rcases hy with hy | hy
      · exact (S.nocell _ (PySem.mem_of_lookup hy) rfl).elim
      · have e := S.free _ (PySem.mem_of_lookup hy) rfl
        refine ⟨cc, ?_⟩
        show List.lookup y [(("__class__" : Str), cc)] = some cc
        have e' : y = ("__class__" : Str) := e
        rw [e']
        simp [List.lookup]
    · have e := (cellOnly h).1
      have hf' : (!decide (y = ("__class__" : Str))) = true := hf
      rw [decide_eq_true e] at hf'
      cases hf'
  have I : Inv (cxOfS CX P w K mg base N qual scope f (.ref cda) cc A outer s H E) [] (start N (.ref a :: ws)) H ⟨h', s.gens, s.drawn, tk, s.os⟩ := by
    refine ⟨ok, rfl, e0.bare, ⟨fun b o q n _ _ => old b o (ne_a n) q, fun b o q n _ _ => ⟨o.slots, old b o (ne_a n) q⟩, fun _ _ _ n _ => n, fun b o q _ => ?_, fun _ _ q => q, fun _ _ _ q => q, fun b ps q => ⟨#[], ?_⟩⟩,
      ⟨_, hns', fun i y v h1 h2 h3 => ?_⟩, fun y c h => ?_, hLf, fun y c h => ?_, fun p hp => absurd (show p ∈ ([] : List (Addr × Obj)) from hp) (by simp), fun b u q => ?_, ?_⟩
    · by_cases hb : b = a
      · exact ⟨_, by rw [hb]; exact hx'⟩
      · exact ⟨o, old b o hb q⟩
    · have q' : H b = some (.tbl ps) := q
      show H b = some (.tbl (ps ++ #[]))
      rw [q']
      simp
    · have hi : i < (V.ref a :: ws).length := by
        unfold start at h2
        by_cases hi : i < (V.ref a :: ws).length
        · exact hi
        · rw [List.getElem?_append_right (by simpa using hi)] at h2; rw [List.getElem?_replicate] at h2
          split at h2 <;> cases h2
      have ha : (V.ref a :: ws)[i]? = some v := by
        unfold start at h2
        rw [List.getElem?_append_left (by simpa using hi), List.getElem?_map] at h2; cases e : (V.ref a :: ws)[i]? with
        | none => (rw [e] at h2; cases h2)
        | some b => rw [e] at h2; cases h2; rfl
      have rall : Vals (V.ref a :: ws) (Value.ref a :: ur) := Paired.cons (rfl : RelV (.ref a) (Value.ref a)) rw'
      obtain ⟨u, hu, rv⟩ := Vals.get rall ha
      have hpy : (("self" : Str) :: pr)[i]? = some y := by
        rw [← S.pre, List.getElem?_take_of_lt (by rw [hl] at hi; exact hi)]
        exact h1
      exact ⟨u, rv, .inl ⟨S.par y (List.mem_of_getElem? hpy), hget hpy hu⟩⟩
    · rw [(cellOnly h).2]
      exact ⟨_, _, hcc, rfl⟩
    · rw [(cellOnly h).2]
      exact ncc
    · by_cases hb : b = a
      · subst hb
        have q' : H b = some u := q
        rw [hHa] at q'
        cases q'
        exact exo_ok hx'
      · refine (e0.hok b u q).stay (fun c v hc z => old c v ?_ z) (fun _ z => z) fun _ _ z => z
        rcases hc with hc | hc
        · rw [hc]; exact hb
        · exact at_ne hHa hc exo_own
    · unfold start
      show _ = N.length
      rw [List.length_append, List.length_map, List.length_replicate]; have : (V.ref a :: ws).length = (("self" : Str) :: pr).length := hl
      omega
  refine wpAny_mono (ht.run [] _ (start N _) H _ I hq) (fun fl s' hs => ?_) fun e s' hs => hs
  have fin : ∀ {σ' : St} {H' : Hp} {v : V} {u : Value}, Inv (cxOfS CX P w K mg base N qual scope f (.ref cda) cc A outer s H E) [] σ' H' s' → RelV v u → Q v H' → CE outer P w H s Q u s' :=
    fun {_ Hz vz uz} J rz qz => ⟨vz, Hz, J.os, J.bare, J.base, J.hok, rz, qz⟩
  cases fl with
  | ret u =>
    obtain ⟨v, σ', H', J, rv, q⟩ := hs; exact fin J rv q
  | next =>
    obtain ⟨σ', H', J, q⟩ := hs; exact fin (v := V.non) (u := Value.none) J rfl q
  | brk =>
    obtain ⟨_, _, _, q⟩ := hs
    exact False.elim q
  | cont =>
    obtain ⟨_, _, _, q⟩ := hs
    exact False.elim q
end L2
namespace L2
open PyProof.Rows PySem.Spec PySem
/-! ### the end of C() without own fields -/
theorem mk_endN {X : Cx} {pins : List (Addr × Obj)} {σ : St} {H1 H2 : Hp} {Q : XK} {hp hp2 h2 : Heap} {g1 g2 : Array GenState} {d1 d2 : Drawn} {t1 t2 : Nat} {os1 os2 : OsState} {a C : Addr} (T : Raises X (.ref C)) (I1 : Inv X pins σ H1 ⟨hp, g1, d1, t1, os1⟩)
    (ha : hp.objs.size ≤ a) (k : ∀ x u, hp.get? x = some u → hp2.get? x = some u) (un : Un (frs X.stack) [] (upd H1 a (exo a C none)) H2 hp2 h2) (hok : HOk X.prog X.w H2 h2) (ho : os2 = os1) (hb : AllBare g2)
    (ea : H2 a = some (exo a C none)) (q : Q (.ref C) none (del H2 a)) : MkP X pins σ Q (.ref a) ⟨h2, g2, d2, t2, os2⟩ := by
  obtain ⟨t0, hoe⟩ := exo_at hok ea; have hn : H1 a = none := I1.hok.fresh ha
  obtain ⟨G, g1', g2'⟩ := restrict h2 fun b => decide (b ≠ a); have gk : ∀ b, b ≠ a → G.get? b = h2.get? b := fun b hb => g1' b (decide_eq_true hb)
  have ge : G.get? a = none := g2' a (by simp); have nha : ∀ {b : Addr} {o : Obj}, hp.get? b = some o → b ≠ a := fun {b o} z => Nat.ne_of_lt (Nat.lt_of_lt_of_le (Heap.lt_size z) ha); have up : ∀ {b : Addr}, b ≠ a → H1 b = none → upd H1 a (exo a C none) b = none := fun {b} hb n => by rw [upd_ne hb]; exact n
  have U : Un (frs X.stack) [] H1 (del H2 a) hp G := {
    keep := fun b o z n (hf) (hx) => by
      rw [gk b (nha z)]; exact un.keep b o (k b o z) (up (nha z) n) hf hx
    slot := fun b o z n (hf) (hx) => by
      rw [gk b (nha z)]; exact un.slot b o (k b o z) (up (nha z) n) hf hx
    free := fun b o z n hx => by
      rw [del_ne (nha z)]; exact un.free b o (k b o z) (up (nha z) n) hx
    there := fun b o z hx => by
      rw [gk b (nha z)]; exact un.there b o (k b o z) hx
    tups := fun b xs z => by
      rw [del_ne (ne_of_none z hn)]; exact un.tups b xs (by rw [upd_ne (ne_of_none z hn)]; exact z)
    frzs := fun b o v z => by
      rw [del_ne (ne_of_none z hn)]; exact un.frzs b o v (by rw [upd_ne (ne_of_none z hn)]; exact z)
    tbls := fun b ps z => by
      rw [del_ne (ne_of_none z hn)]; exact un.tbls b ps (by rw [upd_ne (ne_of_none z hn)]; exact z) }
  have hok3 : HOk X.prog X.w (del H2 a) G := fun b o z => by
    have hba : ¬ b = a := fun e => by
      rw [e, del_same] at z
      cases z
    rw [del_ne hba] at z
    have noa : ∀ {c : Addr}, H2 c = some (.own b) → c ≠ a := fun {c} hc => at_ne ea hc exo_own; exact (hok b o z).stay (fun c v hc y => by
        have hca : c ≠ a := by
          rcases hc with hc | hc
          · rw [hc]
            exact hba
          · exact noa hc
        rw [gk c hca]
        exact y)
      (fun c hc => by rw [del_ne (noa hc)]; exact hc) (fun c xs hc => by rw [del_ne (at_ne ea hc exo_tup)]; exact hc)
  have J : Inv X pins σ (del H2 a) ⟨G, g2, d2, t2, os2⟩ := I1.call' (ch := []) ho U hok3 hb (fun b z => absurd z (by simp))
  refine ⟨a, _, _, ⟨G, g2, d2, t2, os2⟩, _, .ref C, none, rfl, J, fun b o z => ?_, ge, hoe, ⟨rfl, rfl⟩, rfl, rfl, del_same, rfl, hb, T, q⟩
  by_cases hba : b = a
  · rw [hba, ge] at z
    cases z
  · exact ((gk b hba).symm).trans z
/-! ### promises of the __init__s -/
def spSup0 (C : Addr) : Sp := fun vs H Q _ => ∃ a, vs = [.ref a] ∧ H a = some (exo a C none) ∧ Q .non H
def spSup1 (C : Addr) (f : Str) : Sp := fun vs H Q _ => ∃ a v, vs = [.ref a, v] ∧ H a = some (exo a C none) ∧ ∀ d, H d = none → d ≠ a → Q .non (upd (upd H d (exd d [(f, v)])) a (exo a C (some d)))
def spSup3 (C : Addr) (f g h : Str) : Sp := fun vs H Q _ => ∃ a u v w, vs = [.ref a, u, v, w] ∧ H a = some (exo a C none) ∧
  ∀ d, H d = none → d ≠ a → Q .non (upd (upd (upd (upd H d (exd d [(f, u)])) a (exo a C (some d))) d (exd d [(g, v), (f, u)])) d (exd d [(h, w), (g, v), (f, u)]))
section
variable {X : Cx} {e : Expr} {es : List Expr} {te : TE} {ta : TA} {p pos : Pos}
theorem pe_mon (h : PE X e te) : PE X e (fun σ H Q => ∃ Q0 : VK, te σ H Q0 ∧ ∀ x H1, Q0 x H1 → Q x H1) :=
  ⟨fun pins s σ H Q I ⟨Q0, h0, hi⟩ => thn (h.run pins s σ H Q0 I h0) fun u s1 ⟨x, H1, I1, r1, q1⟩ => ⟨x, H1, I1, r1, hi x H1 q1⟩⟩
theorem pa_mon (h : PA X es ta) : PA X es (fun σ H Q => ∃ Q0 : List V → Hp → Prop, ta σ H Q0 ∧ ∀ x H1, Q0 x H1 → Q x H1) :=
  ⟨fun pos pins s σ H Q I ⟨Q0, h0, hi⟩ => thn (h.run pos pins s σ H Q0 I h0) fun u s1 ⟨x, H1, I1, r1, q1⟩ => ⟨x, H1, I1, r1, hi x H1 q1⟩⟩
theorem pmk_imp {t t' : St → Hp → XK → Prop} (h : PMk X e t) (hi : ∀ σ H Q, t' σ H Q → t σ H Q) : PMk X e t' := fun pins s σ H Q I q => h pins s σ H Q I (hi _ _ _ q)
/-- the facts of one error class of the program -/
structure SupC (K : PySem.W.Frag) (mg : Str → Option Value) (x : Str) (C fI : Addr) : Prop where
  oex : OexC K C
  iC : PySem.W.findIn K (.ref C) "__init__" = some (some (.ref fI))
  tI : PySem.W.typeIn K (.ref fI) = some (.type "function")
  gC : mg x = some (.ref C)
theorem del_upd2 {H : Hp} {a d : Addr} {o1 o2 : HO} {fs : List (Str × V)} (ha : H a = none) (hd : d ≠ a) : upd (del (upd (upd H d o1) a o2) a) d (.xd fs) = upd H d (.xd fs) := by
  funext b
  by_cases h1 : b = d
  · rw [h1, upd_same, upd_same]
  · rw [upd_ne h1, upd_ne h1]
    by_cases h2 : b = a
    · rw [h2, del_same, ha]
    · rw [del_ne h2, upd_ne h2, upd_ne h1]
/-- C(e) -/
theorem pmk_sup1 {CX : CXT} {x : Str} {C fI : Addr} {k : Nat} {fd : FuncData} {f pn : Str} (T : SupC X.K X.mg x C fI) (F1 : FnOk X.prog X.w X.K X.mg X.base CX k fI fd ["self", pn] (spSup1 C f)) (hr : Room (k + 1) X.A)
    (hb : Binds X.K fd ["self", pn] []) (hx : Passes CX X (fun _ _ _ => False)) (hg : Gl X x) (he : PE X e te) (hdb : (x == ("__debug__" : Str)) = false := by decide)
    (hs : starEach [e] X.env = (false, eval e X.env) :: starEach [] X.env := by rfl) (hpl : (backTo pos (starEach [] X.env)).any (·.1) = false := by rfl) :
    PMk X (.Call (.Name x p) [e] [] pos) (fun σ H Q => te σ H fun v H1 => ∀ d, H1 d = none → Q (.ref C) (some d) (upd H1 d (.xd [(f, v)]))) := by
  refine pmk_imp (pmk_oex T.oex T.iC T.tI F1 hr hb .nil hx hg T.gC (pa_cons (pe_mon he) pa_nil hs) hdb hs hpl) fun σ H Q q => ?_
  refine ⟨_, q, fun v H1 q1 => ⟨by simp, fun a ha => ?_⟩⟩
  refine ⟨a, v, rfl, upd_same, fun d hd hda => ⟨rfl, d, [(f, v)], upd_same, by rw [upd_ne hda]; exact upd_same, ?_, ?_⟩⟩
  · rw [upd_ne hda] at hd
    exact hd
  · have hd' : H1 d = none := by rw [upd_ne hda] at hd; exact hd
    have eq : upd (del (upd (upd (upd H1 a (exo a C none)) d (exd d [(f, v)])) a (exo a C (some d))) a) d (.xd [(f, v)]) = upd H1 d (.xd [(f, v)]) := by
      funext b
      by_cases h1 : b = d
      · rw [h1, upd_same, upd_same]
      · rw [upd_ne h1, upd_ne h1]
        by_cases h2 : b = a
        · rw [h2, del_same, ha]
        · rw [del_ne h2, upd_ne h2, upd_ne h1, upd_ne h2]
    rw [eq]
    exact q1 d hd'
/-- C(e1, e2, e3) -/
theorem pmk_sup3 {CX : CXT} {x : Str} {C fI : Addr} {k : Nat} {fd : FuncData} {f g h p1 p2 p3 : Str} {e2 e3 : Expr} {t2 t3 : TE} (T : SupC X.K X.mg x C fI) (F1 : FnOk X.prog X.w X.K X.mg X.base CX k fI fd ["self", p1, p2, p3] (spSup3 C f g h)) (hr : Room (k + 1) X.A)
    (hb : Binds X.K fd ["self", p1, p2, p3] []) (hx : Passes CX X (fun _ _ _ => False)) (hg : Gl X x) (he : PE X e te) (he2 : PE X e2 t2) (he3 : PE X e3 t3) (hdb : (x == ("__debug__" : Str)) = false := by decide)
    (hs : starEach [e, e2, e3] X.env = (false, eval e X.env) :: starEach [e2, e3] X.env := by rfl) (hpl : (backTo pos (starEach [e2, e3] X.env)).any (·.1) = false := by rfl)
    (hs2 : starEach [e2, e3] X.env = (false, eval e2 X.env) :: starEach [e3] X.env := by rfl) (hs3 : starEach [e3] X.env = (false, eval e3 X.env) :: starEach [] X.env := by rfl) :
    PMk X (.Call (.Name x p) [e, e2, e3] [] pos) (fun σ H Q => te σ H fun u H1 => t2 σ H1 fun v H2 => t3 σ H2 fun w H3 => ∀ d, H3 d = none → Q (.ref C) (some d) (upd H3 d (.xd [(h, w), (g, v), (f, u)]))) := by
  refine pmk_imp (pmk_oex T.oex T.iC T.tI F1 hr hb .nil hx hg T.gC (pa_cons (pe_mon he) (pa_cons (pe_mon he2) (pa_cons (pe_mon he3) pa_nil hs3) hs2) hs) hdb hs hpl) fun σ H Q q => ?_
  refine ⟨_, q, fun u H1 q1 => ⟨_, q1, fun v H2 q2 => ⟨_, q2, fun w H3 q3 => ⟨by simp, fun a ha => ?_⟩⟩⟩⟩
  refine ⟨a, u, v, w, rfl, upd_same, fun d hd hda => ⟨rfl, d, [(h, w), (g, v), (f, u)], ?_, upd_same, ?_, ?_⟩⟩
  · rw [upd_ne (Ne.symm hda), upd_ne (Ne.symm hda)]
    exact upd_same
  · rw [upd_ne hda] at hd
    exact hd
  · have hd' : H3 d = none := by rw [upd_ne hda] at hd; exact hd
    have eq : upd (del (upd (upd (upd (upd (upd H3 a (exo a C none)) d (exd d [(f, u)])) a (exo a C (some d))) d (exd d [(g, v), (f, u)])) d (exd d [(h, w), (g, v), (f, u)])) a) d (.xd [(h, w), (g, v), (f, u)]) = upd H3 d (.xd [(h, w), (g, v), (f, u)]) := by
      funext b
      by_cases h1 : b = d
      · rw [h1, upd_same, upd_same]
      · rw [upd_ne h1, upd_ne h1]
        by_cases h2 : b = a
        · rw [h2, del_same, ha]
        · rw [del_ne h2, upd_ne h1, upd_ne h1, upd_ne h2, upd_ne h1, upd_ne h2]
    rw [eq]
    exact q3 d hd'
/-- C() -/
theorem pmk_sup0 {CX : CXT} {x : Str} {C fI : Addr} {k : Nat} {fd : FuncData} (T : SupC X.K X.mg x C fI) (F1 : FnOk X.prog X.w X.K X.mg X.base CX k fI fd ["self"] (spSup0 C)) (hr : Room (k + 1) X.A)
    (hb : Binds X.K fd ["self"] []) (hx : Passes CX X (fun _ _ _ => False)) (hg : Gl X x) (hdb : (x == ("__debug__" : Str)) = false := by decide) :
    PMk X (.Call (.Name x p) [] [] pos) (fun σ H Q => Q (.ref C) none H) := by
  intro pins s σ H Q I h
  obtain ⟨nm, q, N, bs, bm, sn, sub, ab, col, dd, k0, k1, k2, k3, k5, hC, hbm⟩ := T.oex.cls
  refine wpAny_Call_Name_kw (ld_glob I hg T.gC ?_ hdb)
  refine PySem.W.callWith_K0 I.kIn T.oex.kC ?_
  obtain ⟨hp, g, dr, tk, os⟩ := s; have hsz : hp.objs.size ≤ hp.objs.size + 1 := Nat.le_succ _
  have hn : H (hp.objs.size + 1) = none := I.hok.fresh hsz
  have kk : ∀ b o, hp.get? b = some o → ((hp.push (PySem.W.kdv_tup [])).push (PySem.HandSPX.excO C hp.objs.size)).get? b = some o := fun b o e => Heap.get?_push_of_some _ (Heap.get?_push_of_some _ e)
  have hget : ((hp.push (PySem.W.kdv_tup [])).push (PySem.HandSPX.excO C hp.objs.size)).get? (hp.objs.size + 1) = some (PySem.HandSPX.excO C hp.objs.size) := by heap_get
  have I2 : Inv X pins σ (upd H (hp.objs.size + 1) (exo (hp.objs.size + 1) C none)) ⟨(hp.push (PySem.W.kdv_tup [])).push (PySem.HandSPX.excO C hp.objs.size), g, dr, tk, os⟩ :=
    I.laid (t' := tk) (a := hp.objs.size + 1) (o := exo (hp.objs.size + 1) C none) (h' := (hp.push (PySem.W.kdv_tup [])).push (PySem.HandSPX.excO C hp.objs.size)) kk hsz (exo_ok hget)
  have r2 : Vals [V.ref (hp.objs.size + 1)] [Value.ref (hp.objs.size + 1)] := .cons rfl .nil
  refine wpAny_call (PySem.HandSPX.call_own F.excBase_ValueError (fun Y => PySem.HandSPX.refsVE_contains Y bm hbm) (I.kIn _ _ hC) (PySem.W.looks_findIn I.kIn T.iC) (fun self => PySem.W.bind_fn I.kIn self T.tI) (by rw [sizeLine_eq]; simp)
    (codeAny_mono (F1.run _ X.stack _ _ ⟨[Value.ref (hp.objs.size + 1)], []⟩ [Value.ref (hp.objs.size + 1)] _ (fun v H2 => v = .non ∧ H2 (hp.objs.size + 1) = some (exo (hp.objs.size + 1) C none) ∧ Q (.ref C) none (del H2 (hp.objs.size + 1))) (fun _ _ _ => False) (hr.make C [] []) (I2.env0.make C [] []) (hb _ [Value.ref (hp.objs.size + 1)] I2.kIn rfl) r2
      ⟨hp.objs.size + 1, rfl, upd_same, rfl, upd_same, ?_⟩) fun r s' hq' => ?_))
  · have eq : del (upd H (hp.objs.size + 1) (exo (hp.objs.size + 1) C none)) (hp.objs.size + 1) = H := by
      funext b
      by_cases h1 : b = hp.objs.size + 1
      · rw [h1, del_same, hn]
      · rw [del_ne h1, upd_ne h1]
    rw [eq]
    exact h
  · cases r with
    | error er => exact (hx pins σ _ _ er s' I2 hq')
    | ok fl =>
      cases fl with
      | ret u =>
        obtain ⟨v, H2, os2, bare2, un2, hok2, rv, ev, ea, q2⟩ := hq'
        subst ev
        obtain ⟨h2, g2, d2, t2, os'⟩ := s'; exact ⟨rv, mk_endN (raises_own T.oex.exC T.oex.tyC) I hsz kk un2 hok2 os2 bare2 ea q2⟩
      | next => exact hq'.elim
      | brk => exact False.elim hq'
      | cont => exact hq'.elim
end
end L2
namespace Hx
open PySem PySem.Spec PyProof.Rows L2 He
/-! ### the head's facts: defs with the names of their closures, facts by names, facts of one's own -/
abbrev FnE : Type := Option (Str × Str × Arguments × FuncBody × Scope × Addr × List Str × Addr)
def fnE (K : PySem.W.Frag) (p : Str × Option Str) : FnE := match K.lookup (fAd K p) with
  | some ⟨_, _, .func fd, _⟩ => some (fd.name, fd.qualname, fd.params, fd.body, fd.scope, fd.globals, fd.closure.map (·.1), fd.builtins)
  | _ => none
structure DefE where
  at_ : Str × Option Str
  name : Str
  qual : Str
  st : Stmt
  cl : List Str := []
  dfl : List Dv := []
def DefE.val (d : DefE) : FnE := some (d.name, d.qual, defArgs d.st, .stmts (defBody d.st), defScope d.st, mainGlobals, d.cl, builtinsNs)
def DefE.dvs (K : PySem.W.Frag) (d : DefE) : List V := d.dfl.map (Dv.v K)
def DefE.ok (K : PySem.W.Frag) (d : DefE) : Bool := PySem.W.keepIn K (.ref (fAd K d.at_)) && (match K.lookup (fAd K d.at_) with
  | some ⟨_, _, .func fd, _⟩ => PySem.W.codeIn K fd.code d.qual && dflB K fd.defaults (d.dvs K)
  | _ => false)
/-- a def without closure -/
theorem DefE.funD {K : PySem.W.Frag} {d : DefE} (e : fnE K d.at_ = d.val) (c : d.ok K = true) (hc : d.cl = []) : ∃ fd, FunD K d.name d.qual (defArgs d.st) (defBody d.st) (defScope d.st) (d.dvs K) [] (fAd K d.at_) fd := by
  obtain ⟨kp, c2⟩ := ba c
  unfold fnE at e; cases q : K.lookup (fAd K d.at_) with
  | none =>
    rw [q] at c2
    cases c2
  | some o =>
    obtain ⟨oc, od, dt, osl⟩ := o
    rw [q] at c2 e
    cases dt with
    | func fd =>
      obtain ⟨n1, n2, n3, n4, n5, n6, n7, n8, n9, n10, n11, n12, n13, n14, n15⟩ := fd; have e2 : (some (n1, n2, n3, n4, n5, n6, n7.map (·.1), n15) : FnE) = some (d.name, d.qual, defArgs d.st, .stmts (defBody d.st), defScope d.st, mainGlobals, d.cl, builtinsNs) := e
      simp only [Option.some.injEq, Prod.mk.injEq] at e2; obtain ⟨h1, h2, h3, h4, h5, h6, h7, h8⟩ := e2
      rw [hc] at h7
      have h7' : n7 = [] := List.map_eq_nil_iff.mp h7
      subst h1 h2 h3 h4 h5 h6 h7' h8
      have c3 : (PySem.W.codeIn K n13 d.qual && dflB K n8 (d.dvs K)) = true := c2
      obtain ⟨k1, k3⟩ := ba c3
      exact ⟨_, ⟨oc, od, n8, n9, n10, n11, n12, n13, n14, osl, rfl, q, k1, dflB_ok k3, .inl rfl⟩, kp⟩
    | _ => cases c2
/-- an __init__ that says super() -/
theorem DefE.supD {K : PySem.W.Frag} {d : DefE} (e : fnE K d.at_ = d.val) (c : d.ok K = true) (hc : d.cl = [("__class__" : Str)]) :
    ∃ oc od osl dV kV doc pm an cdv ct cc, K.lookup (fAd K d.at_) = some ⟨oc, od, .func (PySem.W.ksFn d.name d.qual (defArgs d.st) (defBody d.st) (defScope d.st) dV kV doc pm an cdv ct cc), osl⟩ ∧ PySem.W.codeIn K cdv d.qual = true ∧ PySem.W.keepIn K (.ref (fAd K d.at_)) = true ∧ dflB K dV (d.dvs K) = true := by
  obtain ⟨kp, c2⟩ := ba c
  unfold fnE at e; cases q : K.lookup (fAd K d.at_) with
  | none =>
    rw [q] at c2
    cases c2
  | some o =>
    obtain ⟨oc, od, dt, osl⟩ := o
    rw [q] at c2 e
    cases dt with
    | func fd =>
      obtain ⟨n1, n2, n3, n4, n5, n6, n7, n8, n9, n10, n11, n12, n13, n14, n15⟩ := fd; have e2 : (some (n1, n2, n3, n4, n5, n6, n7.map (·.1), n15) : FnE) = some (d.name, d.qual, defArgs d.st, .stmts (defBody d.st), defScope d.st, mainGlobals, d.cl, builtinsNs) := e
      simp only [Option.some.injEq, Prod.mk.injEq] at e2; obtain ⟨h1, h2, h3, h4, h5, h6, h7, h8⟩ := e2
      rw [hc] at h7
      have h7' : ∃ cc, n7 = [(("__class__" : Str), cc)] := by
        cases n7 with
        | nil => cases h7
        | cons p r =>
          obtain ⟨x, cc⟩ := p
          cases r with
          | nil =>
            have h9 : [x] = [("__class__" : Str)] := h7
            injection h9 with h9 _
            exact ⟨cc, by rw [h9]⟩
          | cons _ _ => cases h7
      obtain ⟨cc, h7'⟩ := h7'
      subst h1 h2 h3 h4 h5 h6 h7' h8
      have c3 : (PySem.W.codeIn K n13 d.qual && dflB K n8 (d.dvs K)) = true := c2
      exact ⟨oc, od, osl, n8, n9, n10, n11, n12, n13, n14, cc, rfl, (ba c3).1, kp, (ba c3).2⟩
    | _ => cases c2
/-! ### the error classes -/
def clsB (K : PySem.W.Frag) (C : Addr) : Bool := match K.lookup C with
  | some ⟨.type t, _, .cls cd, sl⟩ => decide (t = "type") && ((match cd.mro with
    | .ref C' :: bm => decide (C' = C) && PySem.HandSPX.refsVE bm
    | _ => false) && (cd.hasDict && (!cd.hasDel && (match sl.toList with
    | [_, _, _, _, some (.builtin n), _] => decide (n = "ValueError.__new__")
    | _ => false))))
  | _ => false
theorem clsB_ok {K : PySem.W.Frag} {C : Addr} (h : clsB K C = true) : ∃ nm q N bs bm sn sub ab col dd k0 k1 k2 k3 k5, K.lookup C = some (excClassObj nm q C N bs bm true sn sub ab col dd k0 k1 k2 k3 k5 "ValueError.__new__") ∧ PySem.HandSPX.refsVE bm = true := by
  unfold clsB at h
  split at h
  · rename_i t dd cd sl e
    obtain ⟨h1, h⟩ := ba h
    obtain ⟨h2, h⟩ := ba h
    obtain ⟨h3, h⟩ := ba h
    obtain ⟨h4, h5⟩ := ba h
    obtain ⟨nm, bs, mro, ns, qn, hd, sn, sub, ab, col, del⟩ := cd; dsimp only at h2 h3 h4
    cases mro with
    | nil => cases h2
    | cons c0 bm =>
      cases c0 with
      | ref C' =>
        obtain ⟨h6, h7⟩ := ba (show (decide (C' = C) && PySem.HandSPX.refsVE bm) = true from h2)
        have e1 := of_decide_eq_true h6
        have e2 := of_decide_eq_true h1
        subst e1 e2
        have e3 : del = false := by simpa using h4
        subst h3 e3
        split at h5
        · rename_i k0 k1 k2 k3 n k5 e4
          have e5 := of_decide_eq_true h5; subst e5
          have e6 : sl = #[k0, k1, k2, k3, some (.builtin "ValueError.__new__"), k5] := by
            have : sl.toList.toArray = [k0, k1, k2, k3, some (.builtin "ValueError.__new__"), k5].toArray := by rw [e4]
            simpa using this
          subst e6
          exact ⟨nm, qn, ns, bs, bm, sn, sub, ab, col, dd, k0, k1, k2, k3, k5, e, h7⟩
        · cases h5
      | _ => cases h2
  · cases h
def cellB (K : PySem.W.Frag) (f C : Addr) : Bool := match K.lookup f with
  | some ⟨_, _, .func fd, _⟩ => (match fd.closure with
    | [(_, cc)] => (match K.lookup cc with
      | some ⟨_, _, .cell (some (.ref D)), _⟩ => decide (D = C)
      | _ => false)
    | _ => false)
  | _ => false
def fileB (P : Program) (K : PySem.W.Frag) (f : Addr) : Bool := match K.lookup f with
  | some ⟨_, _, .func fdt, _⟩ => (match fdt.code with
    | .ref cde => (match K.lookup cde with
      | some ⟨_, _, .fields vs, _⟩ => (match (vs[2]? : Option Value) with
        | some (Value.str file _) => ((P.main.file : Str) == file)
        | _ => false)
      | _ => false)
    | _ => false)
  | _ => false
/-- all that the written part must say of the error class x (its own fields: fs) -/
def supB (P : Program) (K : PySem.W.Frag) (x : Str) (fs : List Str) : Bool :=
  eqO (PySem.W.nsIn K mainGlobals x) (some (some (.ref (ga K x)))) && (clsB K (ga K x) && (cellB K (ma K (ga K x) "__init__") (ga K x) && (fileB P K (ma K (ga K x) "__init__") && (eqO (PySem.W.ks_superIn K (ga K x) (ga K x) "__init__") (some (some (.builtin "ValueError.__init__"))) &&
  (decide (PySem.W.subIn K (.ref (ga K x)) (.type "ValueError") = some true) && (decide (PySem.W.mroIn K (ga K x) (.ref (ga K x)) = some true) && (eqO (PySem.W.nsIn K PySem.cStatics "thirdparty.any") (some none) &&
  (eqO (PySem.W.findIn K (.ref (ga K x)) "__setattr__") (some (some (.builtin "object.__setattr__"))) && (decide (PySem.W.subIn K (.ref (ga K x)) (.type "BaseException") = some true) && (decide (PySem.W.typeIn K (.ref (ga K x)) = some (.type "type")) && (PySem.W.keepIn K (.ref (ga K x)) &&
  (eqO (PySem.W.findIn K (.ref (ga K x)) "__init__") (some (some (.ref (ma K (ga K x) "__init__")))) && (decide (PySem.W.typeIn K (.ref (ma K (ga K x) "__init__")) = some (.type "function")) && (xfB K (ga K x) && (fs.all fun f => eqO (PySem.W.findIn K (.ref (ga K x)) f) (some none))))))))))))))))
structure SupF (P : Program) (K : PySem.W.Frag) (x : Str) (fs : List Str) : Prop where
  glo : PySem.W.nsIn K mainGlobals x = some (some (.ref (ga K x)))
  cls : ∃ nm q N bs bm sn sub ab col dd k0 k1 k2 k3 k5, K.lookup (ga K x) = some (excClassObj nm q (ga K x) N bs bm true sn sub ab col dd k0 k1 k2 k3 k5 "ValueError.__new__") ∧ PySem.HandSPX.refsVE bm = true
  cell : cellB K (ma K (ga K x) "__init__") (ga K x) = true
  file : fileB P K (ma K (ga K x) "__init__") = true
  sup : PySem.W.ks_superIn K (ga K x) (ga K x) "__init__" = some (some (.builtin "ValueError.__init__"))
  ve : PySem.W.subIn K (.ref (ga K x)) (.type "ValueError") = some true
  self : PySem.W.mroIn K (ga K x) (.ref (ga K x)) = some true
  any : PySem.W.nsIn K PySem.cStatics "thirdparty.any" = some none
  sa : PySem.W.findIn K (.ref (ga K x)) "__setattr__" = some (some (.builtin "object.__setattr__"))
  exC : PySem.W.subIn K (.ref (ga K x)) (.type "BaseException") = some true
  tyC : PySem.W.typeIn K (.ref (ga K x)) = some (.type "type")
  kC : PySem.W.keepIn K (.ref (ga K x)) = true
  iC : PySem.W.findIn K (.ref (ga K x)) "__init__" = some (some (.ref (ma K (ga K x) "__init__")))
  tI : PySem.W.typeIn K (.ref (ma K (ga K x) "__init__")) = some (.type "function")
  xf : XfC K (ga K x)
  no : ∀ f ∈ fs, PySem.W.findIn K (.ref (ga K x)) f = some none
theorem supB_ok {P : Program} {K : PySem.W.Frag} {x : Str} {fs : List Str} (h : supB P K x fs = true) : SupF P K x fs := by
  unfold supB at h
  obtain ⟨h1, h⟩ := ba h
  obtain ⟨h2, h⟩ := ba h
  obtain ⟨h3, h⟩ := ba h
  obtain ⟨h4, h⟩ := ba h
  obtain ⟨h5, h⟩ := ba h
  obtain ⟨h6, h⟩ := ba h
  obtain ⟨h7, h⟩ := ba h
  obtain ⟨h8, h⟩ := ba h
  obtain ⟨h9, h⟩ := ba h
  obtain ⟨h10, h⟩ := ba h
  obtain ⟨h11, h⟩ := ba h
  obtain ⟨h12, h⟩ := ba h
  obtain ⟨h13, h⟩ := ba h
  obtain ⟨h14, h⟩ := ba h
  obtain ⟨h15, h16⟩ := ba h
  exact ⟨eqO_ok h1, clsB_ok h2, h3, h4, eqO_ok h5, of_decide_eq_true h6, of_decide_eq_true h7, eqO_ok h8, eqO_ok h9, of_decide_eq_true h10, of_decide_eq_true h11, h12, eqO_ok h13, of_decide_eq_true h14, xfB_ok h15, fun f hf => eqO_ok (List.all_eq_true.mp h16 f hf)⟩
theorem SupF.oex {P : Program} {K : PySem.W.Frag} {x : Str} {fs : List Str} (s : SupF P K x fs) : OexC K (ga K x) := ⟨s.cls, s.sa, s.exC, s.tyC, s.kC⟩
theorem SupF.supC {P : Program} {K : PySem.W.Frag} {h : Heap} {mg : Str → Option Value} {x : Str} {fs : List Str} (s : SupF P K x fs) (X : K.In h) (G : h.Ns mainGlobals mg) : SupC K mg x (ga K x) (ma K (ga K x) "__init__") :=
  ⟨s.oex, s.iC, s.tI, PySem.W.mg_of X G s.glo⟩
theorem SupF.at_ {P : Program} {K : PySem.W.Frag} {x : Str} {fs : List Str} (s : SupF P K x fs) {oc od osl} {name qual : Str} {params : Arguments} {body : List Stmt} {scope : Scope} {dV kV doc pm ct : Value} {an : Option Addr} {cc cda : Addr}
    (lk : K.lookup (ma K (ga K x) "__init__") = some ⟨oc, od, .func (PySem.W.ksFn name qual params body scope dV kV doc pm an (.ref cda) ct cc), osl⟩) : PySem.Sx.SupAt P K (ga K x) (ma K (ga K x) "__init__") cc cda := by
  have hc := s.cell
  have hf := s.file
  unfold cellB at hc
  unfold fileB at hf
  rw [lk] at hc hf
  dsimp only at hc hf
  refine ⟨?_, ?_, s.sup, s.ve, s.self, s.any, s.cls⟩
  · split at hf
    · rename_i a b vs c e
      split at hf
      · rename_i file tf e2
        exact ⟨_, _, _, _, _, _, e, e2, hf⟩
      · cases hf
    · cases hf
  · split at hc
    · rename_i a b D c e
      have e1 := of_decide_eq_true hc
      subst e1
      exact ⟨_, _, _, e⟩
    · cases hc
/-! ### the Hook -/
def asX (g : Addr → Option Obj) : Nat → List Addr
  | 0 => [mainGlobals, PySem.cStatics]
  | n + 1 => growD g (asX g n)
abbrev AlX : Type := Bool × List FnE
def obsX (fa : List Fa) (fb : List (PySem.W.Frag → Bool)) (fn : List DefE) (K : PySem.W.Frag) : AlX := ((fa.all fun f => f.ok K) && ((fb.all fun f => f K) && fn.all fun d => d.ok K), fn.map fun d => fnE K d.at_)
def valX (fn : List DefE) : AlX := (true, fn.map DefE.val)
def SaysX (fa : List Fa) (fb : List (PySem.W.Frag → Bool)) (fn : List DefE) (K : PySem.W.Frag) : Prop := obsX fa fb fn K = valX fn
def obsXG (n : Nat) (fa : List Fa) (fb : List (PySem.W.Frag → Bool)) (fn : List DefE) (g : Addr → Option Obj) : AlX := obsX fa fb fn (frG g (asX g n))
def hookX (n : Nat) (fa : List Fa) (fb : List (PySem.W.Frag → Bool)) (fn : List DefE) : PySem.W.Hook where
  α := AlX
  obs := fun s => obsXG n fa fb fn s.heap.get?
  val := fun _ => valX fn
  says := fun _ h => ∃ K : PySem.W.Frag, K.In h ∧ SaysX fa fb fn K
  of := fun _ _ eq => ⟨_, frG_in, eq⟩
  keeps := fun _ _ _ ⟨K, inK, say⟩ kp => ⟨K, PySem.W.Frag.In.keeps inK kp, say⟩
theorem obsXG_eq {n : Nat} {fa : List Fa} {fb : List (PySem.W.Frag → Bool)} {fn : List DefE} {g : Addr → Option Obj} {s : Shared} (h : ∀ a, g a = s.heap.get? a) : obsXG n fa fb fn g = (hookX n fa fb fn).obs s := by
  have e : g = s.heap.get? := funext h; rw [e] <;> rfl
section
variable {fa : List Fa} {fb : List (PySem.W.Frag → Bool)} {fn : List DefE} {K : PySem.W.Frag}
theorem SaysX.fact (c : SaysX fa fb fn K) (i : Nat) {f : Fa} (h : fa[i]? = some f := by rfl) : f.ok K = true := by
  have c1 := (ba (show ((fa.all fun f => f.ok K) && ((fb.all fun f => f K) && fn.all fun d => d.ok K)) = true from congrArg (fun z : AlX => z.1) c)).1; exact List.all_eq_true.mp c1 f (List.mem_of_getElem? h)
theorem SaysX.own (c : SaysX fa fb fn K) (i : Nat) {f : PySem.W.Frag → Bool} (h : fb[i]? = some f := by rfl) : f K = true := by
  have c1 := (ba (ba (show ((fa.all fun f => f.ok K) && ((fb.all fun f => f K) && fn.all fun d => d.ok K)) = true from congrArg (fun z : AlX => z.1) c)).2).1; exact List.all_eq_true.mp c1 f (List.mem_of_getElem? h)
theorem SaysX.okD (c : SaysX fa fb fn K) (i : Nat) {d : DefE} (h : fn[i]? = some d := by rfl) : fnE K d.at_ = d.val ∧ d.ok K = true := by
  have c2 := (ba (ba (show ((fa.all fun f => f.ok K) && ((fb.all fun f => f K) && fn.all fun d => d.ok K)) = true from congrArg (fun z : AlX => z.1) c)).2).2
  have e : fn.map (fun d => fnE K d.at_) = fn.map DefE.val := congrArg (fun z : AlX => z.2) c
  have e2 : (fn.map fun d => fnE K d.at_)[i]? = (fn.map DefE.val)[i]? := by rw [e]
  rw [List.getElem?_map, List.getElem?_map, h] at e2; exact ⟨Option.some.inj e2, List.all_eq_true.mp c2 d (List.mem_of_getElem? h)⟩
end
end Hx
namespace L2
open PyProof.Rows PySem.Spec PySem
/-! ### deep data that stand still -/
/-- what is tracked but at b is as it was -/
def KeepB (b : Addr) (H H' : Hp) : Prop := ∀ a o, a ≠ b → H a = some o → H' a = some o
theorem KeepB.refl {b : Addr} {H : Hp} : KeepB b H H := fun _ _ _ h => h
theorem KeepB.trans {b : Addr} {H H1 H2 : Hp} (x : KeepB b H H1) (y : KeepB b H1 H2) : KeepB b H H2 := fun a o n h => y a o n (x a o n h)
theorem KeepB.upd {b : Addr} {H : Hp} {o : HO} : KeepB b H (L2.upd H b o) := fun a u n h => by rw [upd_ne n]; exact h
theorem Same.keepB {b : Addr} {H H' : Hp} (h : Same H H') : KeepB b H H' := fun a o _ e => h a o e
theorem same_new {H : Hp} {p : Addr} {o : HO} (h : H p = none) : Same H (upd H p o) := fun b u e => by rw [upd_ne (ne_of_none e h)]; exact e
/-- a list or a tuple is tracked as it was -/
def Stands (H H' : Hp) : Prop := ∀ a xs, (Rd H a (.lst xs) → Rd H' a (.lst xs)) ∧ (Rd H a (.tup xs) → Rd H' a (.tup xs))
theorem Same.stands {H H' : Hp} (h : Same H H') : Stands H H' := fun a xs => ⟨fun r => r.elim (fun e => .inl (h _ _ e)) (fun ⟨o, e⟩ => .inr ⟨o, h _ _ e⟩), fun r => r.elim (fun e => .inl (h _ _ e)) (fun ⟨o, e⟩ => .inr ⟨o, h _ _ e⟩)⟩
theorem KeepB.stands {b : Addr} {H H' : Hp} {kvs : List (Key × V)} (h : KeepB b H H') (hb : H b = some (.dK kvs)) : Stands H H' := by
  intro a xs
  refine ⟨fun r => ?_, fun r => ?_⟩
  · rcases r with e | ⟨o, e⟩
    · exact .inl (h _ _ (ne_of e hb (by intro z; cases z)) e)
    · exact .inr ⟨o, h _ _ (ne_of e hb (by intro z; cases z)) e⟩
  · rcases r with e | ⟨o, e⟩
    · exact .inl (h _ _ (ne_of e hb (by intro z; cases z)) e)
    · exact .inr ⟨o, h _ _ (ne_of e hb (by intro z; cases z)) e⟩
theorem Stands.l {K : PySem.W.Frag} {H H' : Hp} {a : Addr} {xs : List V} (s : Stands H H') (h : SqL K H a xs) : SqL K H' a xs := h.elim (fun r => .inl ((s a xs).1 r)) .inr
theorem Stands.t {K : PySem.W.Frag} {H H' : Hp} {a : Addr} {xs : List V} (s : Stands H H') (h : SqT K H a xs) : SqT K H' a xs := h.elim (fun r => .inl ((s a xs).2 r)) .inr
mutual
theorem Dp.mono {K : PySem.W.Frag} {H H' : Hp} (s : Stands H H') : ∀ {v : V} {d : PyData}, Dp K H v d → Dp K H' v d
  | _, _, .non => .non
  | _, _, .bl b => .bl b
  | _, _, .int i => .int i
  | _, _, .str x => .str x
  | _, _, .lst h r => .lst (s.l h) (DpAll.mono s r)
  | _, _, .tup h r => .tup (s.t h) (DpAll.mono s r)
theorem DpAll.mono {K : PySem.W.Frag} {H H' : Hp} (s : Stands H H') : ∀ {vs : List V} {ds : List PyData}, DpAll K H vs ds → DpAll K H' vs ds
  | _, _, .nil => .nil
  | _, _, .cons h r => .cons (Dp.mono s h) (DpAll.mono s r)
end
mutual
theorem eqv_self : ∀ d : PyData, d.canLay0 = true → PyData.eqv d d = true
  | .none, _ => (by simp [PyData.eqv])
  | .bool _, _ => (by simp [PyData.eqv])
  | .int _, _ => (by simp [PyData.eqv])
  | .str _, _ => (by simp [PyData.eqv])
  | .list xs, h => by simp only [PyData.eqv]; exact eqvAll_self xs (by simpa [PyData.canLay0] using h)
  | .tuple xs, h => by simp only [PyData.eqv]; exact eqvAll_self xs (by simpa [PyData.canLay0] using h)
  | .dict _, h => by simp [PyData.canLay0] at h
theorem eqvAll_self : ∀ ds : List PyData, PyData.canLayAll0 ds = true → PyData.eqvAll ds ds = true
  | [], _ => (by simp [PyData.eqvAll])
  | d :: ds, h => by
    have h' : (d.canLay0 && PyData.canLayAll0 ds) = true := by simpa [PyData.canLayAll0] using h
    simp only [PyData.eqvAll, eqv_self d (Bool.and_eq_true_iff.mp h').1, eqvAll_self ds (Bool.and_eq_true_iff.mp h').2, Bool.and_self]
end
end L2
namespace PySem.W
open PyProof.Rows PySem.Calls PySem.Spec PySem
section
variable {prog : Program} {w : World} {A : Around} {E : Value → Shared → Prop} {s : Shared} {K : Frag} {x D : Addr} {ox : Obj} {od : Option Obj}
theorem sx_findObj {C : Addr} {name : Str} {a g : Value} (hc : (clsIn K C).isSome = true) (ha : findIn K (.ref C) name = some (some a)) (hg : specialIn K a "__get__" = some (some g)) (ht : takesIn K a = some true) : findObj K C od name = some (.bind g a) := by
  obtain ⟨cd, hc⟩ := Option.isSome_iff_exists.mp hc; unfold findObj
  rw [hc, Option.bind_some, ha, Option.bind_some]; simp [hg, ht]
theorem sx_classE {Q : Option Value → Shared → Prop} (T : L2.ExcC K D) (X : K.In s.heap) (I : InstAt s.heap x ox D od) (h : Q (some (.ref D)) { s with toks := s.toks + 1 }) : wpAny (model prog w) A (getAttr? (.ref x) "__class__") Q E s := by
  obtain ⟨hga, hgt, hsub, hdct, ha, hn, htk, hm⟩ := T
  have hf : findObj K D od "__class__" = some (.bind (.builtin "getset_descriptor.__get__") (.builtin "object.__class__")) := sx_findObj (by obtain ⟨cd, hc, _⟩ := any_some hdct; rw [hc]; rfl) ha hn htk
  obtain ⟨hp, g, d, t, os⟩ := s
  have l0 := I.type (M := model prog w)
  have l1 := looks_findIn (M := model prog w) X hga
  have l2 := looks_findIn (M := model prog w) X hgt
  have l3 := looks_find (M := model prog w) X I hf
  have sub : Looks (model prog w) hp (isInstance (.ref x) (.type "BaseException")) true := l0.andThen (looks_subIn X hsub)
  have e2 : (Value.builtin "BaseException.__getattribute__" == Value.builtin "object.__getattribute__") = false := by decide +kernel
  have e1 : (onTheHeap (Value.ref D) && Value.builtin "BaseException.__getattribute__" == Value.builtin "object.__getattribute__") = false := by rw [e2]; rfl
  unfold getAttr? getAttrBy? getAttrBy; refine wpAny_bind (wpAny_mkText (wpAny_bind (wpAny_attempt (wpAny_holding (wpAny_bind (l0.at (wpAny_bind (l1.at ?_))))))))
  show wpAny _ _ (if (onTheHeap (Value.ref D) && Value.builtin "BaseException.__getattribute__" == Value.builtin "object.__getattribute__") = true then _ else _) _ _ _; rw [e1, if_neg Bool.false_ne_true]
  unfold getAttrByItsOwn hookBefore; refine wpAny_bind ?_
  rw [if_pos (show onTheHeap (Value.ref D) = true from rfl)]; refine l2.at ?_
  refine wpAny_bind (wpAny_attempt (wpAny_holding ?_)); unfold callGetattribute
  rw [show (false && onTheHeap (Value.builtin "BaseException.__getattribute__")) = false from rfl, if_neg Bool.false_ne_true]
  unfold boundAndCalled
  rw [PySem.F.excAttr_ValueError.ga.bind (.ref x)]; refine wpAny_bind (wpAny_pure ?_)
  show wpAny _ _ (call (.builtin "BaseException.__getattribute__") [.ref x, .str "__class__" t]) _ _ _; refine wpAny_call (codeAny_call_builtin PySem.F.excAttr_ValueError.ga.plain PySem.F.entry_bexc_ga ?_)
  refine @check_slot (model prog w) _ _ ⟨hp, g, d, t + 1, os⟩ "BaseException.__getattribute__" "BaseException" "__getattribute__" (.ref x) [.str "__class__" t] [] _ (by decide +kernel) (by decide +kernel) sub (PySem.F.args_bexc_ga (.ref x) (.str "__class__" t)) ?_; unfold Builtin.«object.__getattribute__»
  refine wpAny_bind (wpAny_of_eq (a := ((Value.ref x : Value), [Value.str "__class__" t])) (by first | rfl | (simp only [slotArgs]; rfl)) ?_); refine wpAny_bind (wpAny_pure (wpAny_bind (l0.at (wpAny_bind (l3.at ?_)))))
  show wpAny _ _ (holding [Value.builtin "object.__class__"] (call (.builtin "getset_descriptor.__get__") [.builtin "object.__class__", .ref x, .ref D]) >>= ret) _ _ _; refine wpAny_bind (wpAny_holding (wpAny_call (class_get (s := ⟨hp, g, d, t + 1, os⟩) (ox := ox) (od := od) X I hm ?_)))
  refine wpAny_pure ?_
  show wpAny _ _ (handedOut (.ref D)) _ _ _; rw [handedOut_of (v := .ref D) rfl]
  first
    | exact wpAny_pure <| wpAny_pure h
    | exact wpAny_pure h
    | exact wpAny_pure <| wpAny_bind <| wpAny_pure <| wpAny_pure h
theorem sx_kitx (T : L2.ExcC K D) : KitX K (.ref x) (.ref D) (fun h => InstAt h x ox D od) where
  ty := fun _ _ _ I => I.type
  it := fun _ _ X _ => by
    obtain ⟨cdD, hcD, _⟩ := any_some T.hd
    unfold clsIn at hcD
    split at hcD
    · rename_i c' d' cd' sl' ho
      intro A' Q' E' s' k q
      unfold isType loadHead; exact wpAny_bind (wpAny_loadPart (k _ _ (X _ _ ho)) (wpAny_pure q))
    · cases hcD
  ne := fun hp tp dd its n sl X htp => by
    obtain ⟨cdD, hcD, _⟩ := any_some T.hd
    refine Bool.eq_false_iff.mpr fun q => ?_; have e : D = tp := Value.ref.inj (beq_iff_eq.mp q)
    subst e
    unfold clsIn at hcD
    split at hcD
    · rename_i c' d' cd' sl' ho
      have z := (X _ _ ho).symm.trans htp; cases z
    · cases hcD
  ca := fun X I k => sx_classE T X I k
end
end PySem.W
namespace L2
open PyProof.Rows PySem.Spec PySem
/-! ### a caught exception, tracked -/
/-- at a: an exception of the class cls, its dict at d -/
def excE (a : Addr) (cls : Value) (d : Option Addr) : HO := .ext fun h => ∃ oe vs, h.get? a = some oe ∧ Zc cls d oe ∧ oe.data = .fields vs
theorem excE_ok {P : Program} {w : World} {H : Hp} {h : Heap} {a : Addr} {cls : Value} {d : Option Addr} {oe : Obj} {vs : Array Value} (he : h.get? a = some oe) (hz : Zc cls d oe) (hd : oe.data = .fields vs) : ObjOk P w H h a (excE a cls d) :=
  ⟨⟨oe, vs, he, hz, hd⟩, ⟨_, he⟩, fun h1 h2 z k => by
    obtain ⟨o, v, q1, q2, q3⟩ := z
    exact ⟨o, v, k _ q1, q2, q3⟩⟩
theorem excE_at {P : Program} {w : World} {H : Hp} {h : Heap} {a : Addr} {cls : Value} {d : Option Addr} (hok : HOk P w H h) (he : H a = some (excE a cls d)) : ∃ oe vs, h.get? a = some oe ∧ Zc cls d oe ∧ oe.data = .fields vs := by
  have x : ObjOk P w H h a (.ext fun h => ∃ oe vs, h.get? a = some oe ∧ Zc cls d oe ∧ oe.data = .fields vs) := hok a _ he
  exact x.1
theorem Inv.track {X : Cx} {pins : List (Addr × Obj)} {σ : St} {H : Hp} {s : Shared} {a : Addr} {o : HO} (I : Inv X pins σ H s) (na : H a = none) (ha0 : X.s_0.heap.get? a = none) (nL : a ≠ X.env.locals) (nC : ∀ x c, X.env.cells.lookup x = some c → c ≠ a) (nP : ∀ p ∈ X.pn ++ pins, p.1 ≠ a)
    (new : ObjOk X.prog X.w (upd H a o) s.heap a o) : Inv X pins σ (upd H a o) s := by
  have n0 : ∀ b u, X.s_0.heap.get? b = some u → b ≠ a := fun b u e z => by rw [z, ha0] at e; cases e
  have nh : ∀ b u, H b = some u → b ≠ a := fun b u e z => by rw [z, na] at e; cases e
  refine ⟨I.ok, I.os, I.bare, ⟨I.base.keep, I.base.slot, fun b u e n hx => ?_, I.base.there, fun b xs e => ?_, fun b u v e => ?_, fun b ps e => ?_⟩, I.loc, I.cell, ?_, fun y c e => ?_, fun p hp => ?_, fun b u e => ?_, I.len⟩
  · rw [upd_ne (n0 b u e)]
    exact I.base.free b u e n hx
  · have q := I.base.tups b xs e; rw [upd_ne (nh b _ q)]
    exact q
  · have q := I.base.frzs b u v e
    rw [upd_ne (nh b _ q)]
    exact q
  · obtain ⟨m, q⟩ := I.base.tbls b ps e; exact ⟨m, by rw [upd_ne (nh b _ q)]; exact q⟩
  · rw [upd_ne (Ne.symm nL)]
    exact I.free
  · rw [upd_ne (nC y c e)]
    exact I.freeC y c e
  · obtain ⟨p1, p2, p3, p4, p5⟩ := I.pin p hp
    exact ⟨p1, by rw [upd_ne (nP p hp)]; exact p2, p3, p4, p5⟩
  · by_cases hb : b = a
    · subst hb
      rw [upd_same] at e
      cases e
      exact new
    · rw [upd_ne hb] at e
      exact (I.hok b u e).stay (fun _ _ _ q => q) (fun c q => by rw [upd_ne (nh c _ q)]; exact q) fun c xs q => by rw [upd_ne (nh c _ q)]; exact q
/-- the context of a suite that holds the exception at a, tracked -/
abbrev Cx.suiteT (X : Cx) (a : Addr) (pn : List (Addr × Obj)) : Cx := { X with A := X.A.mark (some (.ref a)), calm := false, pn := pn, xe := fun _ _ => False }
theorem Inv.suiteT {X : Cx} {pins : List (Addr × Obj)} {σ : St} {H : Hp} {s : Shared} (I : Inv X pins σ H s) (a : Addr) : Inv (X.suiteT a (X.pn ++ pins)) [] σ H s :=
  ⟨I.ok.suite a (X.pn ++ pins), I.os, I.bare, I.base, I.loc, I.cell, I.free, I.freeC, fun p hp => I.pin p (by rw [List.append_nil] at hp; exact hp), I.hok, I.len⟩
theorem Inv.unsuiteT {X : Cx} {pins pn' : List (Addr × Obj)} {σ : St} {H : Hp} {s : Shared} {a : Addr} (I : Inv (X.suiteT a (X.pn ++ pins)) pn' σ H s) (ok : X.Ok) : Inv X pins σ H s :=
  ⟨ok, I.os, I.bare, I.base, I.loc, I.cell, I.free, I.freeC, fun pq hq => I.pin pq (List.mem_append_left _ hq), I.hok, I.len⟩
abbrev Clause := Value × Option Nat × (Addr → TS)
def wAll (K : PySem.W.Frag) (Wout : WX) (D : Ends) : List Clause → WX
  | [] => Wout
  | (c, some i, ts) :: r => fun cls d σ H => ∃ b, PySem.W.exmOne K cls c = some b ∧
      (b = true → ∀ a, H a = none → ts a { nx := fun σ' H' => D.nx (σ'.set i none) H', rt := D.rt, bk := fun σ' H' => D.bk (σ'.set i none) H', ct := fun σ' H' => D.ct (σ'.set i none) H' } (σ.set i (some (.ref a))) (upd H a (excE a cls d))) ∧ (b = false → wAll K Wout D r cls d σ H)
  | (c, none, ts) :: r => fun cls d σ H => ∃ b, PySem.W.exmOne K cls c = some b ∧ (b = true → ∀ a, H a = none → ts a D σ (upd H a (excE a cls d))) ∧ (b = false → wAll K Wout D r cls d σ H)
inductive HdsA (X : Cx) : List ExceptHandler → List Clause → Prop
  | nil : HdsA X [] []
  | only {x : Str} {c : Value} {ts : Addr → TS} {b₀ : Stmt} {suite : List Stmt} {np pos' : Pos} {hds : List ExceptHandler} {l : List Clause} (hc : Names X x c)
      (hsu : ∀ (a : Addr) (pn : List (Addr × Obj)), PSs (X.suiteT a pn) (b₀ :: suite) (ts a)) (r : HdsA X hds l) :
      HdsA X (.ExceptHandler (some (.Name x np)) none (b₀ :: suite) pos' :: hds) ((c, none, ts) :: l)
  | as_ {x n : Str} {c : Value} {i : Nat} {ts : Addr → TS} {b₀ : Stmt} {suite : List Stmt} {np pos' : Pos} {hds : List ExceptHandler} {l : List Clause} (hc : Names X x c) (hi : X.N[i]? = some n) (hln : X.env.kindOf n = some .local)
      (hsu : ∀ (a : Addr) (pn : List (Addr × Obj)), PSs (X.suiteT a pn) (b₀ :: suite) (ts a)) (r : HdsA X hds l) :
      HdsA X (.ExceptHandler (some (.Name x np)) (some n) (b₀ :: suite) pos' :: hds) ((c, some i, ts) :: l)
section
variable {X : Cx} {body : List Stmt} {h₀ : ExceptHandler} {hds : List ExceptHandler} {l : List Clause} {pos : Pos} {tb : WX → TS} {Wout : WX}
theorem ps_try_all (hs : X.stack = X.env :: X.outer) (hf : X.env.frame = some X.env.locals) (hN : X.N.Nodup) (hex : X.ex = []) (tk : Takes X Wout)
    (hb : ∀ (W : WX) (pq : List (Addr × Obj)) (xe : Value → Shared → Prop), Takes (X.tr pq xe) W → PassesOwn (model X.prog X.w) X.A X.env xe → PSs (X.tr pq xe) body (tb W))
    (hh : HdsA X (h₀ :: hds) l) : PS X (.Try body (h₀ :: hds) [] [] pos) (fun D σ H => tb (wAll X.K Wout D l) D σ H) := by
  refine ⟨fun pins s σ H D I h => ?_⟩; have ok := I.ok; have hfr : X.A.frames = some (X.env :: X.outer) := by rw [ok.frames, hs]
  refine wpAny_Try_except ?_
  refine wpAny_mono ((hb (wAll X.K Wout D l) (X.pn ++ pins) (fun e s₁ => wpAny (model X.prog X.w) X.A (noteFrame e X.env) (fun _ s₂ => wpAny (model X.prog X.w) X.A (setFlight e none) (fun _ s₃ =>
    wpAny (model X.prog X.w) X.A (handleBy e X.env (h₀ :: hds)) (SP X pins D) X.xe s₃) X.xe s₂) X.xe s₁) (fun u s' xx => ?_) PassesOwn.looking).run [] s σ H D (I.toTry _) h) (fun f s1 hsp => ?_) (fun _ _ he => he)
  · -- the catch
    obtain ⟨a, B, sI, pins', σ', H', cls, d, rfl, J', nb, up, sky, na, os, ag, w⟩ := xx; have J : Inv X pins σ' H' sI := J'.ofTry ok; have sky' : Sky B (X.env :: X.outer) a (Zc cls d) X.env.locals s'.heap := by rw [← hs]; exact sky
    show wpAny (model X.prog X.w) X.A (noteFrame (.ref a) X.env) _ _ _; refine Sky.land Zc.steady hfr hf sky' fun h3 fl3 up3 => ?_
    have J3 : Inv X pins σ' H' { s' with heap := h3 } := J.landed nb fl3.1 (up.trans up3) os ag; obtain ⟨oe3, vs3, he3, hz3, hd3⟩ := fl3.there; have notFr : ∀ {h : Heap} {o : Obj} {vs : Array Value}, h.FunFrames B (X.env :: X.outer) → h.get? a = some o → o.data = .fields vs → a ∉ frs (X.env :: X.outer) := fun {h o vs} ff e dd hm => by
      obtain ⟨_, o', e', hnf⟩ := ff.mem hm; rw [e] at e'; cases e'
      exact hnf _ dd
    have nfr := notFr fl3.2.2.1 he3 hd3; have nL : a ≠ X.env.locals := fun z => nfr (List.mem_filterMap.mpr ⟨X.env, List.mem_cons_self, by rw [hf, z]⟩)
    have nF : a ∉ X.fs := fun (hm) => by
      obtain ⟨e, he, q⟩ := List.mem_filterMap.mp hm; exact nfr (List.mem_filterMap.mpr ⟨e, List.mem_cons_of_mem _ he, q⟩)
    have S3 := J3.suite he3 hd3 na nL nF; have baN : B.get? a = none := fl3.2.1
    have sIn : sI.heap.get? a = none := by
      cases q : sI.heap.get? a with
      | none => rfl
      | some o =>
        have z := nb a o q (by rw [hs]; exact nfr)
        rw [baN] at z
        cases z
    have ha0 : X.s_0.heap.get? a = none := by
      cases q : X.s_0.heap.get? a with
      | none => rfl
      | some o =>
        obtain ⟨o', q'⟩ := J.base.there a o q (by rw [hex]; simp)
        rw [sIn] at q'
        cases q'
    have nP : ∀ p ∈ X.pn ++ pins, p.1 ≠ a := fun p hp z => by
      obtain ⟨q, _⟩ := J.pin p hp
      rw [z, sIn] at q
      cases q
    have nC : ∀ x c, X.env.cells.lookup x = some c → c ≠ a := fun x c e z => by
      obtain ⟨v, o, q, _⟩ := J.cell x c e
      rw [z, sIn] at q
      cases q
    have LT : PySem.W.Looks (model X.prog X.w) h3 (typeOf (.ref a)) cls := fun A Q E s k q => wpAny_typeOf_ref (k _ _ he3) (by rw [hz3.1]; exact q); have testOf : ∀ {x : Str} {c : Value} {np : Pos}, Names X x c → ∀ {Q : Value → Shared → Prop} {E : Value → Shared → Prop}, Q c { s' with heap := h3 } → wpAny (model X.prog X.w) (X.A.mark (some (.ref a))) (eval (.Name x np) X.env) Q E { s' with heap := h3 } := by
      intro x c np hc Q E q; obtain ⟨hg, hdbg, hm | ⟨hm, hv, hnn⟩⟩ := hc
      · exact (ld_glob (X := X.suite a ((a, oe3) :: (X.pn ++ pins))) S3 hg hm q hdbg)
      · exact (ld_blt (X := X.suite a ((a, oe3) :: (X.pn ++ pins))) S3 hg hm hv q hnn hdbg)
    have go : ∀ {hds' : List ExceptHandler} {l' : List Clause}, HdsA X hds' l' → wAll X.K Wout D l' cls d σ' H' →
        (wpAny (model X.prog X.w) X.A (handleBy (.ref a) X.env hds') (SP X pins D) X.xe { s' with heap := h3 }) := by
      intro hds' l' hk
      induction hk with
      | nil =>
        intro w
        refine wpAny_handleBy_nil ?_
        obtain ⟨k1, k2, k3, oe, vs, T, oT, ts', he, hz, hd, h1, hr⟩ := id fl3; unfold PySem.passOn
        refine wpAny_bind (wpAny_field he hd h1 ?_); rw [if_neg (show ¬ ((Value.ref T == Value.none) = true) from by simp)]
        have fin : (wpAny (model X.prog X.w) X.A (setFlight (.ref a) X.env.frame) (fun _ s4 => wpAny (model X.prog X.w) X.A (throw (.ref a) : Sem Flow) (SP X pins D) X.xe s4) X.xe { s' with heap := h3 }) := by
          rw [hf]
          refine HandSPX.setFlight_upZ fl3 fun h4 hh4 up4 => wpAny_throw (tk _ _ ?_); exact ⟨a, B, sI, pins, σ', H', cls, d, rfl, J, nb, (up.trans up3).trans up4, .inr (.inr (by rw [hs]; exact hh4)), na, os, ag, w⟩
        first
          | exact wpAny_bind <| wpAny_pure <| wpAny_bind fin
          | exact wpAny_bind fin
      | @only x c ts b₀ suite np pos' hds2 l2 hc hsu r ih =>
        intro w
        obtain ⟨b, hb1, hyes, hno⟩ := w; refine wpAny_handleBy_cons (codeAny_handlers_test ?_) (by intro q; cases q)
        have LM := PySem.W.exm_one (M := model X.prog X.w) (J3.kIn) LT hb1; refine testOf hc (LM.here ?_)
        cases b with
        | true =>
          refine codeAny_handlers_suite ?_; refine HandSPX.lands_againZ fl3 fun h4 fl4 up4 => ?_
          have J4 : Inv X pins σ' H' { s' with heap := h4 } := J.landed nb fl4.1 ((up.trans up3).trans up4) os ag; obtain ⟨oe4, vs4, he4, hz4, hd4⟩ := fl4.there
          have S4 := (J4.track na ha0 nL nC nP (excE_ok he4 hz4 hd4)).suiteT a
          refine wpAny_mono ((hsu a (X.pn ++ pins)).run [] _ _ _ _ S4 (hyes rfl a na)) (fun f s6 hsp => ?_) (fun _ _ z => False.elim z)
          cases f with
          | next =>
            obtain ⟨σ6, H6, S6, q6⟩ := hsp; exact ⟨_, _, S6.unsuiteT ok, q6⟩
          | brk =>
            obtain ⟨σ6, H6, S6, q6⟩ := hsp; exact ⟨_, _, S6.unsuiteT ok, q6⟩
          | cont =>
            obtain ⟨σ6, H6, S6, q6⟩ := hsp; exact ⟨_, _, S6.unsuiteT ok, q6⟩
          | ret u =>
            obtain ⟨v6, σ6, H6, S6, r6, q6⟩ := hsp; exact ⟨_, _, _, S6.unsuiteT ok, r6, q6⟩
        | false =>
          show wpAny _ X.A (handleBy (.ref a) X.env hds2) _ _ _; exact ih (hno rfl)
      | @as_ x n c i ts b₀ suite np pos' hds2 l2 hc hi hln hsu r ih =>
        intro w
        obtain ⟨b, hb1, hyes, hno⟩ := w; have hloc : Loc X.env.scope n := .inl hln
        refine wpAny_handleBy_cons (codeAny_handlers_test ?_) (by intro q; cases q); have LM := PySem.W.exm_one (M := model X.prog X.w) (J3.kIn) LT hb1
        refine testOf hc (LM.here ?_)
        cases b with
        | true =>
          refine codeAny_handlers_suite_as ?_; refine HandSPX.lands_againZ fl3 fun h4 fl4 up4 => ?_
          have J4 : Inv X pins σ' H' { s' with heap := h4 } := J.landed nb fl4.1 ((up.trans up3).trans up4) os ag; obtain ⟨oe4, vs4, he4, hz4, hd4⟩ := fl4.there
          have S4 := (J4.track na ha0 nL nC nP (excE_ok he4 hz4 hd4)).suiteT a
          refine store_ok (X := X.suiteT a (X.pn ++ pins)) (v := .ref a) S4 hN hi hloc rfl (fun s5 S5 => ?_) (.inr hln)
          refine wpAny_mono ((hsu a (X.pn ++ pins)).run [] s5 _ _ _ S5 (hyes rfl a na)) (fun f s6 hsp => ?_) (fun _ _ z => False.elim z)
          have end_ : ∀ {σ6 : St} {H6 : Hp} {Q : Shared → Prop}, Inv (X.suiteT a (X.pn ++ pins)) [] σ6 H6 s6 → (∀ s7, Inv X pins (σ6.set i none) H6 s7 → Q s7) →
              wpAny (model X.prog X.w) X.A (do bindName X.env n .none; unbindBehindTheSuite X.env n pos') (fun _ s7 => Q s7) X.xe s6 := fun {σ6 H6 Q} S6 hq => gone_ok (S6.unsuiteT ok) hN hi hln hq
          cases f with
          | next =>
            obtain ⟨σ6, H6, S6, q6⟩ := hsp; exact end_ S6 fun s7 J7 => ⟨_, _, J7, q6⟩
          | brk =>
            obtain ⟨σ6, H6, S6, q6⟩ := hsp; exact end_ S6 fun s7 J7 => ⟨_, _, J7, q6⟩
          | cont =>
            obtain ⟨σ6, H6, S6, q6⟩ := hsp; exact end_ S6 fun s7 J7 => ⟨_, _, J7, q6⟩
          | ret u =>
            obtain ⟨v6, σ6, H6, S6, r6, q6⟩ := hsp; exact end_ S6 fun s7 J7 => ⟨_, _, _, J7, r6, q6⟩
        | false =>
          show wpAny _ X.A (handleBy (.ref a) X.env hds2) _ _ _; exact ih (hno rfl)
    exact go hh w
  · cases f with
    | next =>
      obtain ⟨σ', H', J', q⟩ := hsp; exact wpAny_execs_nil ⟨σ', H', J'.ofTry ok, q⟩
    | brk =>
      obtain ⟨σ', H', J', q⟩ := hsp; exact ⟨σ', H', J'.ofTry ok, q⟩
    | cont =>
      obtain ⟨σ', H', J', q⟩ := hsp; exact ⟨σ', H', J'.ofTry ok, q⟩
    | ret u =>
      obtain ⟨v, σ', H', J', r, q⟩ := hsp; exact ⟨v, σ', H', J'.ofTry ok, r, q⟩
end
theorem takes_noX {X : Cx} : Takes X (fun _ _ _ _ => False) := fun _ _ ⟨_, _, _, _, _, _, _, _, _, _, _, _, _, _, _, _, w⟩ => w.elim
/-! ### in a suite, and wherever such an exception is held -/
/-- e.f -/
def tXfT (K : PySem.W.Frag) (f : Str) (te : TE) : TE := fun σ H Q => te σ H fun x H1 => ∃ (a C d : Addr) (fs : List (Str × V)) (v : V), x = .ref a ∧ H1 a = some (excE a (.ref C) (some d)) ∧ H1 d = some (.xd fs) ∧ XfC K C ∧ PySem.W.findIn K (.ref C) f = some none ∧ fs.lookup f = some v ∧ Q v H1
theorem pe_xfT {X : Cx} {e : Expr} {te : TE} {pos : Pos} {n : Str} (he : PE X e te) (hb : attributeBase e n X.env (eval e X.env) = eval e X.env := by rfl) : PE X (.Attribute e n pos) (tXfT X.K n te) := by
  refine ⟨fun pins s σ H Q I h => ?_⟩; refine attr_of hb (thn (he.run pins s σ H _ I h) fun u s1 hh => ?_)
  obtain ⟨x, H1, I1, rx, a, C, dd, fs, v, ex, ea, ed, T, hno, l, q⟩ := hh
  subst ex
  obtain rfl : u = Value.ref a := rx; obtain ⟨oe, vs, ha, hz, hd⟩ := excE_at I1.hok ea
  have hx : ObjOk X.prog X.w H1 s1.heap dd (.xd fs) := I1.hok dd _ ed
  obtain ⟨mA, hns, hr⟩ := hx
  obtain ⟨od, ho, hl⟩ := lookIn_ns hns; obtain ⟨u, hu, ru⟩ := RelO.some_of (v := v) (o := mA n) (by rw [← l]; exact hr n); have J : PySem.W.InstAt s1.heap a oe C (some od) := ⟨ha, hz.1, by unfold PySem.W.notCls; rw [hd] <;> rfl, by rw [hz.2]; exact ho⟩
  exact HandSPX.exc_get I1.kIn J T.ga T.gg T.exC (PySem.W.findObj_own T.hdC hno rfl (by rw [hl, hu])) (handed_of ru) (⟨v, H1, I1.tok _, ru, q⟩)
/-- isinstance(e, c) -/
def rIsT (K : PySem.W.Frag) : List V → Hp → VK → Prop := fun xs H Q => ∃ (a D : Addr) (d : Option Addr) (c : V) (cv : Value) (b : Bool), xs = [.ref a, c] ∧ H a = some (excE a (.ref D) d) ∧ (∀ dd, d = some dd → ∃ fs, H dd = some (.xd fs)) ∧ ExcC K D ∧ (∀ u, RelV c u → u = cv) ∧ PySem.W.kitOne K (.ref D) cv = some b ∧ Q (.bl b) H
theorem call_isT {X : Cx} : CallR X (.builtin "isinstance") (rIsT X.K) := by
  intro pins s σ H xs us Q I r h; obtain ⟨a, D, d, c, cv, b, rfl, ha, hd, C, hcv, e, q⟩ := h
  cases r with
  | cons rx rr =>
    cases rr with
    | cons rt rr =>
      cases rr
      cases rx
      have ec := hcv _ rt
      subst ec
      obtain ⟨oe, vs, hget, hz, hv⟩ := excE_at I.hok ha
      have J : ∃ od, PySem.W.InstAt s.heap a oe D od := by
        cases d with
        | none => exact ⟨none, hget, hz.1, by unfold PySem.W.notCls; rw [hv] <;> rfl, by rw [hz.2]; trivial⟩
        | some dd =>
          obtain ⟨fs, hx⟩ := hd dd rfl
          have hx' : ObjOk X.prog X.w H s.heap dd (.xd fs) := I.hok dd _ hx
          obtain ⟨mA, hns, hr⟩ := hx'
          obtain ⟨od, ho, hl⟩ := lookIn_ns hns; exact ⟨some od, hget, hz.1, by unfold PySem.W.notCls; rw [hv] <;> rfl, by rw [hz.2]; exact ho⟩
      obtain ⟨od, J⟩ := J
      exact PySem.W.kia_one (PySem.W.sx_kitx C) I.kIn J e (fun z => nomatch z) fun tk => ⟨.bl b, H, I.kept (t' := tk) fun _ _ z => z, rfl, q⟩
end L2
namespace L2
open PyProof.Rows PySem.Spec PySem
/-! ### rules whose reading names the written part K itself (wanted within comprehensions, where the context depends on what is bound) -/
section
variable {X : Cx}
theorem pg_tupK (K : PySem.W.Frag) (e : X.K = K) {es : List Expr} {k : Nat} {t : TGs} {n : Nat} {pos : Pos} (hc : X.calm = true) (h : PGs X es t) (hn : (assignEach es X.env).length = n := by rfl) (hst : (assignEach es X.env).findIdx? (·.1) = none := by rfl) : PG X (.Tuple es k pos) (gTup K n t) := by
  subst e
  exact pg_tup hc h hn hst
theorem ix_listK (K : PySem.W.Frag) (e : X.K = K) : IxR X (rIxL K) := by
  subst e
  exact ix_list
theorem ix_tupK (K : PySem.W.Frag) (e : X.K = K) : IxR X (rIxT K) := by
  subst e
  exact ix_tup
theorem op_inK (K : PySem.W.Frag) (e : X.K = K) : OpR X (compareOp .In) (rIn K false) := by
  subst e
  exact op_in_seq
theorem op_notInK (K : PySem.W.Frag) (e : X.K = K) : OpR X (compareOp .NotIn) (rIn K true) := by
  subst e
  exact op_notIn_seq
theorem op_eqDK (K : PySem.W.Frag) (e : X.K = K) (hu : X.A.units + 64 < cLine) : OpR X (compareOp .Eq) (rEqD K) := by
  subst e
  exact op_eqD hu
theorem op_neDK (K : PySem.W.Frag) (e : X.K = K) (hu : X.A.units + 64 < cLine) : OpR X (compareOp .NotEq) (rNeD K) := by
  subst e
  exact op_neD hu
theorem sl_listK (K : PySem.W.Frag) (e : X.K = K) : SlR X (rSlL K) := by
  subst e
  exact sl_list
end
/-! ### a dict comprehension over a list that stays -/
theorem dc_list {K : PySem.W.Frag} {a : Addr} {xs : List V} {g : TG} {tt : TT} {tk tv : TE} {vs : List Nat} {σ : St} {H1 : Hp} {D : Addr} {Qd : Hp → Prop} (Pv : Nat → Hp → Prop) (h0 : Pv 0 (upd H1 D (.dK []))) (hl : ∀ i H, i ≤ xs.length → Pv i H → SqL K H a xs)
    (step : ∀ i x H, xs[i]? = some x → Pv i H → g x (wipe σ vs) H fun σ2 H2 => wipe σ2 vs = wipe σ vs ∧ tt σ2 H2 fun b H3 => if b = true then tk σ2 H3 fun y H4 => tv σ2 H4 fun z H5 => ∃ kvs k, y = kV k ∧ H5 D = some (.dK kvs) ∧ kvs.length < sizeLine ∧ Pv (i + 1) (upd H5 D (.dK (putK kvs k z))) else Pv (i + 1) H3)
    (hd : ∀ H, Pv xs.length H → Qd H) : ∃ W : Nat → Nat → Hp → Prop, (∃ m, W 0 m (upd H1 D (.dK []))) ∧ ∀ i m H, W i m H → ((Itl K a).stop i H ∧ Qd H) ∨ ((Itl K a).go i H ∧ ∃ Nx : Hp → Prop, (∀ H', Nx H' → ∃ m', m' < m ∧ W (i + 1) m' H') ∧ ∀ x H', (Itl K a).yld i H x H' → g x (wipe σ vs) H' fun σ2 H2 => wipe σ2 vs = wipe σ vs ∧ tt σ2 H2 fun b H3 =>
        if b = true then (tk σ2 H3 fun y H4 => tv σ2 H4 fun z H5 => ∃ kvs k, y = kV k ∧ H5 D = some (.dK kvs) ∧ kvs.length < sizeLine ∧ Nx (upd H5 D (.dK (putK kvs k z)))) else Nx H3) := by
  refine ⟨fun i m H => m = xs.length - i ∧ i ≤ xs.length ∧ Pv i H, ⟨xs.length, (Nat.sub_zero _).symm, Nat.zero_le _, h0⟩, fun i m H ⟨em, hi, p⟩ => ?_⟩
  have q := hl i H hi p
  rcases Nat.lt_or_ge i xs.length with lt | ge
  · refine .inr ⟨⟨xs, xs[i], q, List.getElem?_eq_getElem lt⟩, Pv (i + 1), fun H' p' => ⟨xs.length - (i + 1), by omega, rfl, lt, p'⟩, fun x H' yl => ?_⟩
    obtain ⟨e, y⟩ := yl
    subst e
    exact step i x _ (y xs q) p
  · have e : i = xs.length := Nat.le_antisymm hi ge
    subst e; exact .inl ⟨⟨xs, q, Nat.le_refl _⟩, hd H p⟩
theorem Same.step {H H1 : Hp} {p : Addr} {o : HO} (s : Same H H1) (h : H1 p = none) : Same H (upd H1 p o) := fun a u e => same_new h a u (s a u e)
theorem Same.back {H H1 : Hp} {p : Addr} (s : Same H H1) (h : H1 p = none) : H p = none := s.free h
end L2
namespace L2
open PyProof.Rows PySem.Spec PySem
/-! ### C(..) of a plain class whose __init__ may raise: what is raised is wished for at the caller's slots -/
def tMakeS (C : Addr) (sp : Sp) (dvs : List V) (E : St → XK) (t : TA) : TE := fun σ H Q => t σ H fun vs H1 => ∀ x dx, H1 x = none → H1 dx = none → dx ≠ x → sp (.ref x :: (vs ++ dvs)) (upd (upd H1 dx (.own x)) x (.ins C dx [])) (fun v H2 => v = .non ∧ Q (.ref x) H2) (E σ)
section
variable {X : Cx} {CX : CXT} {k : Nat} {f C : Addr} {fd : FuncData} {ps : List Str} {sp : Sp} {dvs : List V} {ds : List Value} {E : St → XK} {x : Str} {p pos : Pos} {e : Expr} {es : List Expr} {t : TA}
theorem mk_slots {pins : List (Addr × Obj)} {σ : St} {H : Hp} {s : Shared} {Q : VK} {us : List Value} {vs : List V} {XE0 : XK} (M : Mk X.K C f) (F : FnOk X.prog X.w X.K X.mg X.base CX k f fd ps sp) (hr : Room (k + 1) X.A) (hb : Binds X.K fd ps ds) (hd : Vals dvs ds) (hx : PassesAt CX X σ XE0)
    (I : Inv X pins σ H s) (rel : Vals vs us) (wish : ∀ o d, H o = none → H d = none → d ≠ o → sp (.ref o :: (vs ++ dvs)) (upd (upd H d (.own o)) o (.ins C d [])) (fun v H2 => v = .non ∧ Q (.ref o) H2) XE0) : wpAny (model X.prog X.w) X.A (call (.ref C) us) (EP X pins σ Q) X.xe s := by
  let d := s.heap.objs.size
  have w0 := wish (d + 1) d (I.hok.fresh (Nat.le_succ _)) (I.hok.fresh (Nat.le_refl _)) (Nat.ne_of_lt (Nat.lt_succ_self d))
  have J := Inv.made (C := C) I
  have rr : Vals (V.ref (d + 1) :: (vs ++ dvs)) (Value.ref (d + 1) :: (us ++ ds)) := .cons rfl (rel.append hd)
  have len : (Value.ref (d + 1) :: us ++ ds).length = ps.length := (rr.length.symm.trans (F.len _ _ _ _ w0))
  have body := F.run _ X.stack _ _ ⟨Value.ref (d + 1) :: us, []⟩ (Value.ref (d + 1) :: (us ++ ds)) _ _ XE0 (hr.make C us []) (J.env0.make C us []) (hb _ (Value.ref (d + 1) :: us) J.kIn len) rr w0
  refine wpAny_call (make_map (f := f) I.kIn M.makes M.init (beq_iff_eq.mp M.fn) (codeAny_mono body fun r s' out => ?_))
  rcases r with er | fl
  · exact hx pins _ _ er s' J out
  · cases fl with
    | ret u =>
      obtain ⟨v, H', J', rv, ev, q⟩ := J.after out
      subst ev
      exact ⟨rv, V.ref (d + 1), H', J', rfl, q⟩
    | next => exact out.elim
    | brk => exact out.elim
    | cont => exact out.elim
theorem pe_makeS (M : Mk X.K C f) (F : FnOk X.prog X.w X.K X.mg X.base CX k f fd ps sp) (hr : Room (k + 1) X.A) (hg : Gl X x) (hm : X.mg x = some (.ref C)) (hb : Binds X.K fd ps ds) (hd : Vals dvs ds) (hx : ∀ σ, PassesAt CX X σ (E σ)) (ha : PA X (e :: es) t) (hdb : (x == ("__debug__" : Str)) = false := by decide)
    (he : starEach (e :: es) X.env = (false, eval e X.env) :: starEach es X.env := by rfl) (hpl : (backTo pos (starEach es X.env)).any (·.1) = false := by rfl) : PE X (.Call (.Name x p) (e :: es) [] pos) (tMakeS C sp dvs E t) := by
  refine ⟨fun pins s σ H Q I h => wpAny_Call_Name_kw (ld_glob I hg hm (PySem.W.callWith_K (h₀ := X.base) I.ok.mod.kin M.kp (thn (ha.run pos pins s σ H _ I h) fun us s1 z => ?_) he hpl) hdb)⟩
  obtain ⟨vs, H1, I1, rel, q⟩ := z
  exact ⟨I1.kIn, mk_slots M F hr hb hd (hx σ) I1 rel q⟩
/-- a callee that is known to raise nothing here -/
theorem passF {X : Cx} : Passes (L2.CX X.prog X.w) X (fun _ _ _ => False) := fun pins σ H s e s' I c => passAt (takes_noX (X := X)) σ pins H s e s' I c
end
end L2
namespace L2
open PyProof.Rows PySem.Spec PySem
/-! ### min(xs, default=d), xs a list of ints -/
theorem ints_read {h : Heap} : ∀ {us : List Value} {ns : List Int}, Vals (ns.map V.int) us → ReadsAll h us (ns.map PyData.int) []
  | _, [], .nil => .nil
  | _, n :: ns, .cons r rs => by
    obtain ⟨t, rfl⟩ := r
    exact .cons (.int n t) (ints_read rs)
theorem min_fold : ∀ (ns : List Int) (n : Int), (ns.foldl min n = n ∨ ns.foldl min n ∈ ns) ∧ ns.foldl min n ≤ n ∧ ∀ y ∈ ns, ns.foldl min n ≤ y
  | [], n => ⟨.inl rfl, Int.le_refl _, fun _ h => by cases h⟩
  | k :: ns, n => by
    obtain ⟨h1, h2, h3⟩ := min_fold ns (min n k)
    rw [List.foldl_cons]
    have a1 : min n k ≤ n := Int.min_le_left n k
    have a2 : min n k ≤ k := Int.min_le_right n k
    refine ⟨?_, Int.le_trans h2 a1, fun y hy => ?_⟩
    · rcases h1 with e | e
      · rw [e]
        rcases Int.le_total n k with z | z
        · exact .inl (Int.min_eq_left z)
        · exact .inr (by rw [Int.min_eq_right z]; simp)
      · exact .inr (List.mem_cons_of_mem _ e)
    · rcases List.mem_cons.mp hy with e | e
      · rw [e]
        exact Int.le_trans h2 a2
      · exact h3 y e
def rMinD (K : PySem.W.Frag) : List V → List V → Hp → VK → Prop := fun vs zs H Q => ∃ (a : Addr) (ns : List Int) (d : V), vs = [.ref a] ∧ zs = [d] ∧ SqL K H a (ns.map V.int) ∧ (ns = [] → Q d H) ∧ ∀ m, m ∈ ns → (∀ y ∈ ns, m ≤ y) → Q (.int m) H
theorem crk_minD {X : Cx} (K : PySem.W.Frag) (eK : X.K = K) (hc : X.calm = true) (hu : X.A.units + 1 < cLine) : CallRK X (.builtin "min") ["default"] (rMinD K) := by
  subst eK
  intro pins s σ H vs zs us ws Q I r rz h; obtain ⟨a, ns, d, rfl, rfl, hs, q0, q1⟩ := h
  obtain ⟨its, rv, hl, _⟩ := I.list hs; rw [Vals.ref1 r]
  cases rz with
  | cons rd rn =>
    cases rn
    rename_i u
    have al : PySem.W.AlikeAll (ns.map PyData.int) := ⟨fun x hx y hy => by
      obtain ⟨i, _, rfl⟩ := List.mem_map.mp hx
      obtain ⟨j, _, rfl⟩ := List.mem_map.mp hy
      simp [PySem.W.alike], fun x hx => by
      obtain ⟨i, _, rfl⟩ := List.mem_map.mp hx
      intro z
      cases z⟩
    show wpAny _ _ (call (.builtin "min") [.ref a] [(Str.ofString "default", u)]) _ _ _
    refine PySem.W.min_list_default (I.ok.hd hc) hl.isList (ints_read rv) al (by rw [PySem.W.depth_ints]; exact hu) (fun e h' tk hk => ?_) fun y ys i v h' tk bs e hv hr hk => ?_
    · have e2 : ns = [] := List.map_eq_nil_iff.mp e
      exact ⟨d, H, I.kept hk, rd, q0 e2⟩
    · cases ns with
      | nil => cases e
      | cons n ns =>
        rw [List.map_cons] at e
        injection e with e1 e2
        subst e1 e2
        rw [PySem.W.minD_ints] at hr
        obtain ⟨m1, m2, m3⟩ := min_fold ns n
        cases hr with
        | int _ t => exact ⟨.int _, H, I.kept hk, ⟨t, rfl⟩, q1 _ (by rcases m1 with z | z <;> simp [z]) fun y hy => (List.mem_cons.mp hy).elim (fun z => by rw [z]; exact m2) (m3 y)⟩
end L2
namespace PySem.W
open PyProof.Rows PySem.Spec PySem
section
variable {prog : Program} {w : World} {A : Around} {E : Value → Shared → Prop} {s : Shared} {K : Frag} {x C f L : Addr} {h₀ : Heap} {m : Str → Option Value} {ox : Obj} {od : Option Obj} {b tb : Value}
/-- x.__ne__(b) by object's own, where the class has an __eq__ -/
theorem own_ne {Q : Option Value → Shared → Prop} (hu : A.units + 1 < cLine) (X : K.In s.heap) (I : InstAt s.heap x ox C od) (hne : findIn K (.ref C) "__ne__" = some (some (.builtin "object.__ne__"))) (hob : subIn K (.ref C) (.type "object") = some true)
    (hs : findIn K (.ref C) "__eq__" = some (some (.ref f))) (hf : isFn K (.ref f) = true) (h : wpAny (model prog w) A.in1 (call (.ref f) [.ref x, b]) (fun v s' => ∃ t, v = .bool t ∧ Q (some (.bool !t)) s') E s) : wpAny (model prog w) A (tryCompare (.ref x) "__ne__" b) Q E s := by
  have l0 := I.type (M := model prog w)
  have isO : Looks (model prog w) s.heap (isInstance (.ref x) (.type "object")) true := l0.andThen (looks_subIn X hob)
  have body : wpAny (model prog w) A.in1 (Builtin.«object.__ne__» ⟨[.ref x, b], []⟩) (fun fin s' => match fin with
      | .done (.ret (.bool t)) => Q (some (.bool t)) s'
      | _ => False) E s := by
    unfold Builtin.«object.__ne__»; refine wpAny_bind (wpAny_of_eq (a := ((Value.ref x : Value), [b])) (by first | rfl | (simp only [slotArgs]; rfl)) ?_)
    refine wpAny_bind (wpAny_cRoomFor (by exact hu) ?_)
    refine wpAny_bind (ifBound_K X I hs hf (wpAny_mono h (fun v s' hv => ?_) fun _ _ e => e)); obtain ⟨t, rfl, q⟩ := hv
    exact wpAny_bind (wpAny_truthy_bool (wpAny_pure q))
  have ask : wpAny (model prog w) A (callSpecialIfBound? (.ref x) "__ne__" [b]) (fun r s' => ∃ t, r = some (.bool t) ∧ Q (some (.bool t)) s') E s := by
    simp only [callSpecialIfBound?, bindSpecialIfBound?]; refine wpAny_holding (wpAny_bind (wpAny_bind (wpAny_bind (l0.here ((looks_findIn X hne).here ?_)))))
    simp only [PySem.F.cmp_object.ne.bind]
    refine wpAny_bind (wpAny_askSetting (wpAny_ite ?_)); have fin : wpAny (model prog w) A (call (.builtin "object.__ne__") ([.ref x] ++ [b]) >>= fun v => pure (some v)) (fun r s' => ∃ t, r = some (.bool t) ∧ Q (some (.bool t)) s') E s := by
      refine wpAny_bind (wpAny_call (codeAny_call_builtin PySem.F.cmp_object.ne.plain PySem.F.cmpEntry_ne (check_slot PySem.F.cmpKind_ne PySem.F.cmpSplit_ne isO (PySem.F.cmpArgs_ne _ _) (wpAny_mono body (fun fn s' q => ?_) fun _ _ e => e))))
      cases fn with
      | done fl =>
        cases fl with
        | ret v =>
          cases v with
          | bool t => exact wpAny_pure ⟨t, rfl, q⟩
          | _ => exact q.elim
        | _ => exact q.elim
      | again _ => exact q.elim
    split
    · exact wpAny_bind <| wpAny_pure <| wpAny_pure fin
    · exact wpAny_tryCatch <| wpAny_bind <| wpAny_pure <| wpAny_pure fin
  unfold tryCompare
  refine wpAny_bind (wpAny_mono ask (fun r s' z => ?_) fun _ _ e => e)
  obtain ⟨t, rfl, q⟩ := z
  exact wpAny_pure q
/-- x != b by that road -/
theorem rich_ne {Q : Value → Shared → Prop} (hu : A.units + 1 < cLine) (F : Fr h₀ L s.heap m) (X₀ : K.In h₀) (I : InstAt s.heap x ox C od) (hb : Looks (model prog w) s.heap (typeOf b) tb) (hn : notFirst K C tb = true)
    (hne : findIn K (.ref C) "__ne__" = some (some (.builtin "object.__ne__"))) (hob : subIn K (.ref C) (.type "object") = some true) (hs : findIn K (.ref C) "__eq__" = some (some (.ref f))) (hf : isFn K (.ref f) = true)
    (h : wpAny (model prog w) A.in1 (call (.ref f) [.ref x, b]) (fun v s' => ∃ t, v = .bool t ∧ Q (.bool !t) s') E s) : wpAny (model prog w) A (richCompare .NotEq (.ref x) b) Q E s := by
  have X := X₀.keeps F.keep
  have one : wpAny (model prog w) A (tryCompare (.ref x) "__ne__" b) (fun r s' => ∃ t, r = some (.bool t) ∧ Q (.bool t) s') E s :=
    own_ne hu X I hne hob hs hf (wpAny_mono h (fun v s' z => by
      obtain ⟨t, e, q⟩ := z
      exact ⟨t, e, !t, rfl, q⟩) fun _ _ e => e)
  unfold richCompare
  simp only [cmpInfo_NotEq, oneThing_ref]
  refine wpAny_holding (wpAny_bind (wpAny_cRoomFor (Nat.lt_of_succ_lt hu) (wpAny_bind (I.type.here (wpAny_bind (hb.here ?_))))))
  split
  · rename_i q
    have e : (subIn K tb (.ref C) = some false) := by
      rcases (Bool.or_eq_true_iff.mp hn) with e | e
      · rw [beq_iff_eq.mp e] at q
        simp at q
      · exact beq_iff_eq.mp e
    refine wpAny_bind ((looks_subIn X e).here ?_); simp only [Bool.false_eq_true, if_false]
    refine wpAny_bind (wpAny_mono one (fun r s' z => ?_) fun _ _ e => e); obtain ⟨t, rfl, hq⟩ := z
    exact wpAny_pure hq
  · refine wpAny_bind (wpAny_pure ?_); simp only [Bool.false_eq_true, if_false]
    refine wpAny_bind (wpAny_mono one (fun r s' z => ?_) fun _ _ e => e); obtain ⟨t, rfl, hq⟩ := z
    exact wpAny_pure hq
end
end PySem.W
namespace L2
open PyProof.Rows PySem.Spec PySem
/-! ### x == y, x != y, x an instance of a plain class with its own __eq__, y of any known type: what __eq__ answers -/
structure EqC (K : PySem.W.Frag) (C f : Addr) : Prop where
  eq : PySem.W.findIn K (.ref C) "__eq__" = some (some (.ref f))
  fn : (PySem.W.isFn K (.ref f)) = true
  ne : PySem.W.findIn K (.ref C) "__ne__" = some (some (.builtin "object.__ne__"))
  ob : PySem.W.subIn K (.ref C) (.type "object") = some true
def rEqI (K : PySem.W.Frag) (C : Addr) (sp : Sp) : R2 := fun x y H Q => ∃ (a dx : Addr) (fs : List (Str × V)) (t : Value), x = .ref a ∧ H a = some (.ins C dx fs) ∧ TyX K H y t ∧ PySem.W.notFirst K C t = true ∧ sp [.ref a, y] H (fun v H' => ∃ b, v = .bl b ∧ Q (.bl b) H') E0
def rNeI (K : PySem.W.Frag) (C : Addr) (sp : Sp) : R2 := fun x y H Q => ∃ (a dx : Addr) (fs : List (Str × V)) (t : Value), x = .ref a ∧ H a = some (.ins C dx fs) ∧ TyX K H y t ∧ PySem.W.notFirst K C t = true ∧ sp [.ref a, y] H (fun v H' => ∃ b, v = .bl b ∧ Q (.bl !b) H') E0
section
variable {X : Cx} {n : Nat} {C f : Addr} {fd : FuncData} {ps : List Str} {sp : Sp}
theorem run_own {A : Around} {pins : List (Addr × Obj)} {σ : St} {H : Hp} {s : Shared} {a : Addr} {y : V} {u : Value} {R : Value → Shared → Prop} {Q : VK} (F : FnOk X.prog X.w X.K X.mg X.base CX0 n f fd ps sp) (hb : Binds X.K fd ps []) (hr : Room n A) (fr : A.frames = X.A.frames)
    (I : Inv X pins σ H s) (ry : RelV y u) (h : sp [.ref a, y] H Q E0) (out : ∀ v H' w s', Inv X pins σ H' s' → RelV v w → Q v H' → R w s') : wpAny (model X.prog X.w) A (call (.ref f) [.ref a, u]) R X.xe s := by
  have ev := I.env0
  have e0 : Env0 X.prog X.w X.K X.mg X.base A X.stack s H := ⟨fr.trans ev.frames, ev.mod, ev.bs, ev.bsz, ev.funs, ev.frf, ev.hok, ev.bare⟩
  have rel : Vals [V.ref a, y] [Value.ref a, u] := .cons rfl (.cons ry .nil)
  have hl := F.len _ _ _ _ h
  have bt := hb s [.ref a, u] I.kIn (by simpa using hl)
  rw [List.append_nil] at bt
  refine wpAny_call (codeAny_mono (F.run A X.stack s H ⟨[.ref a, u], []⟩ [.ref a, u] [.ref a, y] Q E0 hr e0 bt rel h) fun r s' o => ?_)
  cases r with
  | error _ => exact o.elim
  | ok fl =>
    cases fl with
    | ret w =>
      obtain ⟨v, H', I', rv, q⟩ := I.after o
      exact out v H' w s' I' rv q
    | next => exact o.elim
    | brk => exact o.elim
    | cont => exact o.elim
theorem op_eqI (K : PySem.W.Frag) (eK : X.K = K) (EC : EqC K C f) (F : FnOk X.prog X.w X.K X.mg X.base CX0 n f fd ps sp) (hb : Binds X.K fd ps []) (hr : Room n X.A) : OpR X (compareOp .Eq) (rEqI K C sp) := by
  subst eK
  intro pins s σ H x y v u Q I rx ry h; obtain ⟨a, dx, fs, t, rfl, ha, ty, hn, q⟩ := h
  cases rx
  obtain ⟨mA, J, _⟩ := ins_get I.hok ha; obtain ⟨od, J, _⟩ := J.look
  obtain ⟨m, hF⟩ := I.fr
  obtain ⟨P, Z, p, _⟩ := kit_of I ry ty
  refine PySem.W.cmp_K (op := .Eq) hr.units0 hF I.ok.mod.kin J (Z.ty _ _ I.kIn p) hn EC.eq EC.fn ?_
  refine run_own F hb hr rfl I ry q fun v H' w s' I' rv z => ?_
  obtain ⟨b, rfl, q2⟩ := z
  cases rv
  exact ⟨.bl b, H', I', rfl, q2⟩
theorem op_neI (K : PySem.W.Frag) (eK : X.K = K) (EC : EqC K C f) (F : FnOk X.prog X.w X.K X.mg X.base CX0 n f fd ps sp) (hb : Binds X.K fd ps []) (hr : Room (n + 1) X.A) : OpR X (compareOp .NotEq) (rNeI K C sp) := by
  subst eK
  intro pins s σ H x y v u Q I rx ry h; obtain ⟨a, dx, fs, t, rfl, ha, ty, hn, q⟩ := h
  cases rx
  obtain ⟨mA, J, _⟩ := ins_get I.hok ha; obtain ⟨od, J, _⟩ := J.look
  obtain ⟨m, hF⟩ := I.fr
  obtain ⟨P, Z, p, _⟩ := kit_of I ry ty
  refine PySem.W.rich_ne (by have := hr.units; omega) hF I.ok.mod.kin J (Z.ty _ _ I.kIn p) hn EC.ne EC.ob EC.eq EC.fn ?_
  refine run_own (A := X.A.in1) F hb hr.in1 rfl I ry q fun v H' w s' I' rv z => ?_
  obtain ⟨b, rfl, q2⟩ := z
  cases rv
  exact ⟨b, rfl, .bl !b, H', I', rfl, q2⟩
end
end L2
namespace LamX
open L2 PyProof.Rows PySem.Spec PySem
/-! ### lambdas that are kept in a list and called later, where they were made -/
def LamO (cells : List (Str × Addr)) (q : Str) (params : Arguments) (body : Expr) (scope : Scope) (c' f : Addr) : HO :=
  .ext fun h => ∃ pm ctv, h.get? f = some (PySem.W.kla_obj "<lambda>" q params body scope (cloFrom cells scope.names []) pm c' ctv)
section
variable {pins : List (Addr × Obj)} {X : Cx} {s : Shared} {H : Hp} {σ : L2.St}
theorem lam_make3 {T : List (Addr × Str)} {c P : Addr} {params : Arguments} {body : Expr} {scope : Scope} {pos : Pos} {E : Value → Shared → Prop} {Q : Value → Shared → Prop} (I : Inv X pins σ H s) (TB : TabB X.base X.mg c P) (hcode : X.env.code = .ref c)
    (hm : (P, X.env.qual ++ "<lambda>") ∈ T) (hu : ∀ tq ∈ T, tq.1 = P → tq.2 = X.env.qual ++ "<lambda>") (hT : Tabs T H) (hdef : defaultsOf params X.env = ([], [])) (hfree : ∀ nk ∈ scope.names, nk.2 = .free → ∃ c, X.env.cells.lookup nk.1 = some c)
    (h : ∀ (f c' : Addr) (H1 : Hp) (s' : Shared), Inv X pins σ (upd H1 f (LamO X.env.cells (X.env.qual ++ "<lambda>") params body scope c' f)) s' → ExtN H H1 → Tabs T H1 → H1 f = none → H1 c' = some (CodeO c' (X.env.qual ++ "<lambda>")) → Q (.ref f) s') :
    (wpAny (model X.prog X.w) X.A (eval (.Lambda params body scope pos) X.env) Q E s) := by
  obtain ⟨ps, hP, ht, ha⟩ := hT _ hm; refine PySem.W.kla_eval hdef ?_
  have bP : s.heap.BuiltinsAt X.mg P := TB.bm.keeps I.bk; have hP' : s.heap.get? P = some { cls := .none, data := .fields ps } := I.hok P _ hP
  have track : ∀ {H1 : Hp} {h' : Heap} {tk : Tok} {c' : Addr} {ctv : Value}, Inv X pins σ H1 { s with heap := h', toks := tk } → Inv X pins σ (upd H1 h'.objs.size (LamO X.env.cells (X.env.qual ++ "<lambda>") params body scope c' h'.objs.size)) { s with heap := h'.push (PySem.W.kla_obj "<lambda>" (X.env.qual ++ "<lambda>") params body scope (cloFrom X.env.cells scope.names []) ((X.mg "__name__").getD .none) c' ctv), toks := tk } := fun {H1 h' tk c' ctv} J => by
    have e0 := Heap.get?_push_size h' (o := PySem.W.kla_obj "<lambda>" (X.env.qual ++ "<lambda>") params body scope (cloFrom X.env.cells scope.names []) ((X.mg "__name__").getD .none) c' ctv) rfl
    exact J.laid (a := h'.objs.size) (t' := tk) (fun b u q => Heap.get?_push_of_some _ q) (Nat.le_refl _) ⟨⟨_, _, e0⟩, ⟨_, e0⟩, fun h1 h2 ⟨pm, ct, e⟩ st => ⟨pm, ct, st _ e⟩⟩
  cases hc : (codeAmong pos ps.toList) with
  | none =>
    refine PySem.W.kla_makeFunction (mg := X.mg) (c := c) (P := P) (ps := ps) (closure_ok hfree) I.ok.glob (I.mod.glob.keeps I.bk) hcode (TB.code.keeps I.bk) hP' ht hc TB.gP bP fun c' ctv h' tk hx hge hlt hrec htb => ?_; obtain ⟨c2, oc, vs, t, e2, hoc, hd, hv⟩ := hrec
    cases e2
    have hsz : s.heap.objs.size ≤ h'.objs.size := Nat.le_trans hge (Nat.le_of_lt hlt); have nC : H c' = none := I.hok.fresh hge
    have I1 := inv_table (t' := tk) (more := #[rawInt pos.line, rawInt pos.col, .ref c']) (h' := h') I hP
      (fun b o hb e => hx b o hb e) htb hge ⟨oc, vs, t, hoc, hd, hv⟩
    have hE : (ExtN H (upd (upd H P (.tbl (ps ++ #[rawInt pos.line, rawInt pos.col, .ref c']))) c' (CodeO c' (X.env.qual ++ "<lambda>")))) := fun b o e n => by
      rw [upd_ne (ne_of_none e nC), upd_ne (fun z => n ps (Option.some.inj (e.symm.trans (by rw [z]; exact hP))))]; exact e
    have eL : (ps ++ #[rawInt pos.line, rawInt pos.col, .ref c']).toList = ps.toList ++ [rawInt pos.line, rawInt pos.col, .ref c'] := (by simp)
    refine h h'.objs.size c' _ _ (track I1) hE (fun p hp => ?_) ?_ upd_same
    · by_cases hb : p.1 = P
      · rw [hu p hp hb, hb]; refine ⟨_, by rw [upd_ne (ne_of_none hP nC), upd_same], by rw [eL]; exact PySem.TriplesOk_snoc _ _ _ _ ht, fun p' cv hcv => ?_⟩
        rw [eL] at hcv; rcases among_app _ ht hcv with z | z
        · obtain ⟨c0, e1, e2⟩ := ha p' cv z; exact ⟨c0, e1, hE _ _ e2 codeO_ne⟩
        · exact ⟨c', z, upd_same⟩
      · obtain ⟨ps', a1, a2, a3⟩ := hT p hp; refine ⟨ps', by rw [upd_ne (ne_of_none a1 nC), upd_ne hb]; exact a1, a2, fun p' cv hcv => ?_⟩
        obtain ⟨c0, e1, e2⟩ := a3 p' cv hcv; exact ⟨c0, e1, hE _ _ e2 codeO_ne⟩
    · have n1 : h'.objs.size ≠ c' := Nat.ne_of_gt hlt; have n2 : h'.objs.size ≠ P := Nat.ne_of_gt (Nat.lt_of_lt_of_le (Heap.lt_size hP') hsz)
      rw [upd_ne n1, upd_ne n2]
      exact I.hok.fresh hsz
  | some cv =>
    obtain ⟨c', e, hco⟩ := ha pos cv hc; subst e
    refine PySem.W.kla_makeFunctionHit (mg := X.mg) (c := c) (P := P) (ps := ps) (closure_ok hfree) I.ok.glob (I.mod.glob.keeps I.bk) hcode (TB.code.keeps I.bk) hP' ht hc bP fun ctv h' tk hx hsz => ?_; have I1 : Inv X pins σ H { s with heap := h', toks := tk } := I.kept hx
    exact h h'.objs.size c' H _ (track I1) (ExtN.refl H) hT (I.hok.fresh hsz) hco
end
def tLamV (T : List (Addr × Str)) (ce : List (Str × Addr)) (q : Str) (params : Arguments) (body : Expr) (scope : Scope) : TE := fun _ H Q =>
  Tabs T H ∧ ∀ f c' H1, ExtN H H1 → Tabs T H1 → H1 f = none → H1 c' = some (CodeO c' q) → Q (.ref f) (upd H1 f (LamO ce q params body scope c' f))
section
variable {X : Cx}
/-- lambda: body, as a value -/
theorem pe_lamV {T : List (Addr × Str)} {ce : List (Str × Addr)} {q : Str} {c P : Addr} {params : Arguments} {body : Expr} {scope : Scope} {lpos : Pos} (eC : X.env.cells = ce) (eQ : X.env.qual ++ "<lambda>" = q) (TB : TabB X.base X.mg c P) (hcode : X.env.code = .ref c) (hmT : (P, q) ∈ T) (hu : ∀ p ∈ T, p.1 = P → p.2 = q)
    (L : LamS X.env.scope scope) (hdef : defaultsOf params X.env = ([], [])) : PE X (.Lambda params body scope lpos) (tLamV T ce q params body scope) := by
  refine ⟨fun pins s σ H Q I h => ?_⟩; obtain ⟨hT, h⟩ := h
  subst eC eQ
  exact lam_make3 I TB hcode hmT hu hT hdef (L.has I.ok) fun f c' H1 s' I1 eN T1 hf hc => ⟨.ref f, _, I1, rfl, h f c' H1 eN T1 hf hc⟩
/-- x(), where the lambda was made; ι: which of them it is -/
theorem pe_lamS {ι : Type} {params : ι → Arguments} {body : ι → Expr} {scope : ι → Scope} {ce : List (Str × Addr)} {q a : Str} {i k : Nat} {W : WX} {tb : ι → XK → TE} {p1 p2 : Pos} (eC : X.env.cells = ce) (eQ : X.env.qual ++ "<lambda>" = q) (L : ∀ j, LamS X.env.scope (scope j)) (tk : Takes X W) (hr : Room (k + 1) X.A)
    (hbind : ∀ (j : ι) (q : Str) (cl : List (Str × Addr)) (pm cv ctv : Value), bindArgs (PySem.W.kla_fn "<lambda>" q (params j) (body j) (scope j) cl pm cv ctv) ⟨[], []⟩ = pure [])
    (hbody : ∀ (j : ι) (A : Around) (outer : List Env) (s : Shared) (H : Hp) (E : XK) (f c' : Addr), Room k (A.deeper (lamEnv X (scope j) s.heap.objs.size f c')) → PE (lamCx X A outer s H E (scope j) f c') (body j) (tb j E))
    (hN : X.N[i]? = some a) (hv : Vis X.env.scope a) (hd : (a == ("__debug__" : Str)) = false := by decide) (hcd : (a == ("__classdict__" : Str)) = false := by decide) :
    PE X (.Call (.Name a p1) [] [] p2) (fun σ H Q => ∃ j f c', σ[i]? = some (some (.ref f)) ∧ H f = some (LamO ce q (params j) (body j) (scope j) c' f) ∧ H c' = some (CodeO c' q) ∧ tb j (fun cls d H => W cls d σ H) σ H Q) := by
  subst eC eQ
  refine ⟨fun pins s σ H Q I h => ?_⟩; obtain ⟨j, f, c', hs, hf, hc, ht⟩ := h
  refine wpAny_Call_Name_kw (thn ((pe_var (pos := p1) (i := i) hN hv hd hcd).run pins s σ H (fun v H1 => v = .ref f ∧ H1 = H) I ⟨.ref f, hs, rfl, rfl⟩) fun u s1 ⟨v, H1, I1, r1, q1⟩ => ?_)
  obtain ⟨ev, eH⟩ := q1
  subst ev
  rw [eH] at I1
  obtain rfl : u = Value.ref f := r1; obtain ⟨⟨pm, ctv, of1⟩, _, _⟩ := I1.hok f _ hf
  refine PySem.W.callWith_F0 ⟨_, _, _, _, of1⟩ ?_; obtain ⟨⟨oc, vs, t, hoc, hdc, hvc⟩, _, _⟩ := I1.hok c' _ hc
  have rc : codeAny (model X.prog X.w) X.A (.call (.ref f) ⟨[], []⟩) (CR (L2.CX X.prog X.w) X.stack X.prog X.w H s1 Q (fun cls d H => W cls d σ H)) s1 := by
    refine PySem.W.kla_callFunE hr.depth of1 rfl (L j).co (L j).gen rfl ⟨c', oc, vs, t, rfl, hoc, hdc, hvc⟩ ?_
    rw [hbind]
    refine wpAny_pure (wpAny_newFunctionEnv (fun y hy => ((L j).own y hy).2) (fun y hy => absurd hy (by simp)) (fun h₁ hns hsb => ⟨I1.nolimit.fresh _ hsb, ?_⟩) (L j).kind)
    show codeAny _ _ (.expr (body j) (lamEnv X (scope j) s1.heap.objs.size f c')) _ _
    have kp : ∀ b o, s1.heap.get? b = some o → h₁.get? b = some o := fun b o e => hsb.extBut b o (Nat.ne_of_lt (Heap.lt_size e)) (Heap.get?_push_of_some _ e); have J : Inv (lamCx X X.A X.stack s1 H (fun cls d H => W cls d σ H) (scope j) f c') [] σ H { s1 with heap := h₁, toks := s1.toks + ([] : List (Str × Value)).length } :=
      lam_start2 I1 (L j) I1.env0 hr.hd Un.refl hns kp
    refine PySem.W.kla_codeExpr (wpAny_mono ((hbody j _ _ s1 H _ f c' (hr.deeper _)).run [] _ _ H Q J ht) (fun v s' hq => ?_) fun e s' hq => hq)
    obtain ⟨w', H', J', rv, q⟩ := hq; exact ⟨w', H', J'.os, J'.bare, J'.base, J'.hok, rv, q⟩
  refine wpAny_call (codeAny_mono rc fun r s' hq => ?_); cases r with
  | error e => exact tk e s' (XE.of_call I1 (fun cls d H' h => h) hq)
  | ok fl =>
    cases fl with
    | ret u => exact I1.after hq
    | next => exact False.elim hq
    | brk => exact False.elim hq
    | cont => exact False.elim hq
end
/-- a def whose code object is told -/
theorem okC {P : Program} {w : World} {K : PySem.W.Frag} {mg : Str → Option Value} {base : Heap} {x qual : Str} {params : Arguments} {body : List Stmt} {scope : Scope} {dvs : List V} {kws : List (Str × V)} {f : Addr} {fd : FuncData}
    {CX : CXT} {N ps : List Str} {k : Nat} {sp : Sp} (F : FunD K x qual params body scope dvs kws f fd) (S : FnScope N ps scope) (len : ∀ vs H Q E, sp vs H Q E → vs.length = ps.length)
    (hbody : ∀ (A : Around) (outer : List Env) (s : Shared) (H : Hp) (vs : List V) (Q : VK) (E : XK), Room k (A.deeper (envOfC qual scope s.heap.objs.size f fd.code)) → sp vs H Q E →
      ∃ t, PSs (cxOf CX P w K mg base N qual scope f fd.code A outer s H E) body t ∧ t { nx := fun _ H' => Q .non H', rt := Q } (start N vs) H) : FnOk P w K mg base CX (k + 1) f fd ps sp := by
  obtain ⟨oc, od, dV, kV, doc, pm, an, cdv, ct, osl, rfl, lk, hcd, _, _⟩ := F.ex; exact fn_of lk hcd S len fun A outer s H vs Q E hr hsp => hbody A outer s H vs Q E hr hsp
end LamX
namespace L2
open PyProof.Rows PySem.Spec PySem
/-- a try with clauses, its reading by a name (wanted in loops) -/
def tTry (K : PySem.W.Frag) (Wout : WX) (l : List Clause) (tb : WX → TS) : TS := fun D σ H => tb (wAll K Wout D l) D σ H
theorem ps_try_allD {X : Cx} {body : List Stmt} {h₀ : ExceptHandler} {hds : List ExceptHandler} {l : List Clause} {pos : Pos} {tb : WX → TS} {Wout : WX} (K : PySem.W.Frag) (eK : X.K = K) (hs : X.stack = X.env :: X.outer) (hf : X.env.frame = some X.env.locals) (hN : X.N.Nodup) (hex : X.ex = []) (tk : Takes X Wout)
    (hb : ∀ (W : WX) (pq : List (Addr × Obj)) (xe : Value → Shared → Prop), Takes (X.tr pq xe) W → PassesOwn (model X.prog X.w) X.A X.env xe → PSs (X.tr pq xe) body (tb W))
    (hh : HdsA X (h₀ :: hds) l) : PS X (.Try body (h₀ :: hds) [] [] pos) (tTry K Wout l tb) := by
  subst eK
  exact ps_try_all hs hf hN hex tk hb hh
theorem pe_bmK {X : Cx} {name : Str} {T id : String} {o e : Expr} {es : List Expr} {to : TE} {t : TA} {r : V → List V → Hp → VK → Prop} {apos cpos : Pos} (K : PySem.W.Frag) (eK : X.K = K) (pa : PlainAttrs T) (slot : Slot T name id) (hty : typeOf (.builtin id) = pure (.type "method_descriptor")) (hm : MtR X id r) (ho : PE X o to) (ha : PA X (e :: es) t)
    (hbase : (attributeBase o name X.env (eval o X.env)) = (eval o X.env) := by rfl)
    (hfew : ((backTo cpos (starEach (e :: es) X.env)).all (fun z => !z.1) && (backToKw cpos (keywordEach [] X.env)).all (fun z => z.1.isSome)
      && (decide ((e :: es).length + ([] : List Keyword).length + (if ([] : List Keyword).isEmpty then 0 else 1) < 30))) = true := by rfl)
    (hline : (apos.endLine == cpos.line) = true := by rfl) (hs : starEach (e :: es) X.env = (false, eval e X.env) :: starEach es X.env := by rfl) (hplain : ((backTo cpos (starEach es X.env)).any fun z => z.1) = false := by rfl) :
    PE X (.Call (.Attribute o name apos) (e :: es) [] cpos) (tBM K T r to t) := by
  subst eK
  exact pe_bm pa slot hty hm ho ha hbase hfew hline hs hplain
end L2
namespace L2
open PyProof.Rows PySem.Spec PySem
/-! ### a text times a number from 2 on -/
def repS (z : Str) (n : Nat) : Str := ⟨(List.replicate n z.cps).foldl (· ++ ·) #[]⟩
def rTimesN : R2 := fun x y H Q => ∃ (z : Str) (n : Nat), x = .str z ∧ y = .int (n : Nat) ∧ 2 ≤ n ∧ n ≤ 1000000 ∧ 0 < z.length ∧ z.length ≤ 1000 ∧ z.length * n ≤ 900000 ∧ (repS z n).length ≤ sizeLine ∧ Q (.str (repS z n)) H
theorem op_timesN {X : Cx} : OpR X (binaryOp .Mult) rTimesN := by
  intro pins s σ H x y v u Q I rx ry h; obtain ⟨z, n, rfl, rfl, n2, nx, z0, z1, zn, zl, q⟩ := h
  obtain ⟨t, rfl⟩ := rx
  obtain ⟨t', rfl⟩ := ry
  refine P.mul_str (n := (n : Int)) ?_ (fun _ _ => ?_) (fun _ _ => ?_) ?_
  · rw [decide_eq_false (show ¬ (n : Int) < -(2 ^ 63 : Int) by omega), decide_eq_false (show ¬ (n : Int) ≥ 2 ^ 63 by omega)]
    rfl
  · have h1 : (1000 : Int) ≤ (2 ^ 63 - 1) / (n : Int) := Int.le_ediv_of_mul_le (by omega) (by omega)
    omega
  · have e : (n : Int).toNat = n := rfl
    rw [e]
    show decide (z.length * n > _) = false
    exact decide_eq_false (by
      have k : (900000 : Nat) ≤ sizeLine := by decide
      exact Nat.not_lt.mpr (Nat.le_trans zn k))
  · have e1 : ((n : Int) == 1 || z.length == 0) = false := by
      rw [show ((n : Int) == 1) = false by simpa using (show ¬ (n : Int) = 1 by omega), show (z.length == 0) = false by simpa using (show ¬ z.length = 0 by omega)]
      rfl
    rw [if_neg (show ¬ (n : Int) < 1 by omega), e1, if_neg (by decide)]
    exact ⟨zl, .str _, H, I.tok _, ⟨_, rfl⟩, q⟩
end L2
namespace L2
open PyProof.Rows PySem.Spec PySem
theorem pi_listK {X : Cx} {tg l : Expr} {tl : TE} (K : PySem.W.Frag) (e : X.K = K) (hl : PE X l tl) : PI X tg l (iList K tl) := by
  subst e
  exact pi_list hl
/-! ### a walk over a list that stays, whatever is done in a turn (clauses of comprehensions too) -/
theorem turns_list {K : PySem.W.Frag} {a : Addr} {xs : List V} {Qd : Hp → Prop} {B : (Hp → Prop) → V → Hp → Prop} {H0 : Hp} (Pv : Nat → Hp → Prop) (h0 : Pv 0 H0) (hl : ∀ i H, i ≤ xs.length → Pv i H → SqL K H a xs) (hs : ∀ i x H, xs[i]? = some x → Pv i H → B (Pv (i + 1)) x H) (hd : ∀ H, Pv xs.length H → Qd H) :
    ∃ W : Nat → Nat → Hp → Prop, (∃ m, W 0 m H0) ∧ ∀ i m H, W i m H → ((Itl K a).stop i H ∧ Qd H) ∨ ((Itl K a).go i H ∧ ∃ Nx : Hp → Prop, (∀ H', Nx H' → ∃ m', m' < m ∧ W (i + 1) m' H') ∧ ∀ x H', (Itl K a).yld i H x H' → B Nx x H') := by
  refine ⟨fun i m H => m = xs.length - i ∧ i ≤ xs.length ∧ Pv i H, ⟨_, rfl, Nat.zero_le _, h0⟩, fun i m H w => ?_⟩
  obtain ⟨em, hi, p⟩ := w
  have q := hl i H hi p
  rcases Nat.lt_or_ge i xs.length with lt | ge
  · refine .inr ⟨⟨xs, xs[i], q, List.getElem?_eq_getElem lt⟩, Pv (i + 1), fun H' p' => ⟨xs.length - (i + 1), by omega, rfl, lt, p'⟩, fun x H' y => ?_⟩
    obtain ⟨e1, y⟩ := y
    rw [e1]
    exact hs i x H (y xs q) p
  · have e : i = xs.length := Nat.le_antisymm hi ge
    exact .inl ⟨⟨xs, q, Nat.le_of_eq e.symm⟩, hd H (e ▸ p)⟩
end L2
namespace StX
open L2 PyProof.Rows PySem.Spec PySem
theorem pa_starK {X : Cx} {e : Expr} {es : List Expr} {te : TE} {t : TA} {p : Pos} (K : PySem.W.Frag) (eK : X.K = K) (he : PE X e te) (hr : PA X es t) (hs : starEach (.Starred e p :: es) X.env = (true, eval e X.env) :: starEach es X.env := by rfl) : PA X (.Starred e p :: es) (tStar K te t) := by
  subst eK
  exact pa_star he hr hs
end StX
namespace L2
open PyProof.Rows PySem.Spec PySem
theorem pi_tupK {X : Cx} {tg l : Expr} {tl : TE} (K : PySem.W.Frag) (e : X.K = K) (hl : PE X l tl) : PI X tg l (iTup K tl) := by
  subst e
  exact pi_tup hl
theorem cr_anyK {X : Cx} (K : PySem.W.Frag) (e : X.K = K) (hc : X.calm = true) : CallR X (.builtin "any") (rAny K) := by
  subst e
  exact cr_any hc
theorem cr_allK {X : Cx} (K : PySem.W.Frag) (e : X.K = K) (hc : X.calm = true) : CallR X (.builtin "all") (rAll K) := by
  subst e
  exact cr_all hc
end L2
namespace L2
open PyProof.Rows PySem.Spec PySem
/-! ### len(x), x[k], x an instance of a plain class with its own __len__, __getitem__: what these answer -/
structure OwnC (K : PySem.W.Frag) (C f : Addr) (name : Str) : Prop where
  at_ : PySem.W.findIn K (.ref C) name = some (some (.ref f))
  fn : PySem.W.typeIn K (.ref f) = some (.type "function")
  fnIn : PySem.W.fnIn K f = true
section
variable {X : Cx} {n : Nat} {C f : Addr} {fd : FuncData} {ps : List Str} {sp : Sp}
theorem run_any {A : Around} {pins : List (Addr × Obj)} {σ : St} {H : Hp} {s : Shared} {vs : List V} {us : List Value} {R : Value → Shared → Prop} {Q : VK} (F : FnOk X.prog X.w X.K X.mg X.base CX0 n f fd ps sp) (hb : Binds X.K fd ps []) (hr : Room n A) (fr : A.frames = X.A.frames)
    (I : Inv X pins σ H s) (rel : Vals vs us) (h : sp vs H Q E0) (out : ∀ v H' w s', Inv X pins σ H' s' → RelV v w → Q v H' → R w s') : wpAny (model X.prog X.w) A (call (.ref f) us) R X.xe s := by
  have ev := I.env0
  have e0 : Env0 X.prog X.w X.K X.mg X.base A X.stack s H := ⟨fr.trans ev.frames, ev.mod, ev.bs, ev.bsz, ev.funs, ev.frf, ev.hok, ev.bare⟩
  have hl := F.len _ _ _ _ h
  have bt := hb s us I.kIn (by rw [List.append_nil, ← Vals.length rel]; exact hl)
  rw [List.append_nil] at bt
  refine wpAny_call (codeAny_mono (F.run A X.stack s H ⟨us, []⟩ us vs Q E0 hr e0 bt rel h) fun r s' o => ?_)
  cases r with
  | error _ => exact o.elim
  | ok fl =>
    cases fl with
    | ret w =>
      obtain ⟨v, H', I', rv, q⟩ := I.after o
      exact out v H' w s' I' rv q
    | next => exact o.elim
    | brk => exact o.elim
    | cont => exact o.elim
def rLenI (C : Addr) (sp : Sp) : List V → Hp → VK → Prop := fun xs H Q => ∃ (a dx : Addr) (fs : List (Str × V)), xs = [.ref a] ∧ H a = some (.ins C dx fs) ∧ sp [.ref a] H (fun v H' => ∃ k : Nat, v = .int (k : Nat) ∧ k < 2 ^ 62 ∧ Q (.int (k : Nat)) H') E0
theorem call_lenI (OC : OwnC X.K C f "__len__") (F : FnOk X.prog X.w X.K X.mg X.base CX0 n f fd ps sp) (hb : Binds X.K fd ps []) (hr : Room (n + 1) X.A) : CallR X (.builtin "len") (rLenI C sp) := by
  intro pins s σ H vs us Q I r h; obtain ⟨a, dx, fs, rfl, ha, q⟩ := h
  rw [Vals.ref1 r]
  obtain ⟨mA, J, _⟩ := ins_get I.hok ha; obtain ⟨od, J, _⟩ := J.look
  refine Calls.call_function_entry kind_len plain_len entry_len (args_len1 _) ?_; unfold Builtin.«len»
  refine wpAny_bind (m := oneArg "len" _) (wpAny_pure ?_); refine wpAny_bind (m := callSpecial? (.ref a) (Str.ofString "__len__")) (PySem.W.special_fn I.kIn J OC.at_ OC.fn ?_)
  have rel : Vals [V.ref a] [Value.ref a] := .cons rfl .nil
  refine run_any (A := X.A.in1) F hb hr.in1 rfl I rel q fun v H' w s' I' rv z => ?_
  obtain ⟨k, rfl, hk, q2⟩ := z
  obtain ⟨t, rfl⟩ := rv
  refine wpAny_bind (wpAny_holding (wpAny_pure ?_)); refine wpAny_bind (wpAny_letGo ?_)
  show wpAny _ _ (if ((k : Nat) : Int) < 0 then _ else _) _ _ _
  rw [if_neg (by omega)]
  show wpAny _ _ (if ((k : Nat) : Int) ≥ 2 ^ 63 then _ else _) _ _ _
  rw [if_neg (by omega)]
  exact wpAny_bind (wpAny_mkInt (wpAny_pure ⟨_, rfl, .int k, H', I'.tok _, ⟨_, rfl⟩, q2⟩))
def rIxI (C : Addr) (sp : Sp) : R2 := fun x y H Q => ∃ (a dx : Addr) (fs : List (Str × V)), x = .ref a ∧ H a = some (.ins C dx fs) ∧ sp [.ref a, y] H Q E0
theorem pe_ixI {a b : Expr} {ta tb : TE} {pos : Pos} (K : PySem.W.Frag) (eK : X.K = K) (OC : OwnC K C f "__getitem__") (F : FnOk X.prog X.w X.K X.mg X.base CX0 n f fd ps sp) (hb : Binds X.K fd ps []) (hr : Room (n + 1) X.A) (ha : PE X a ta) (hi : PE X b tb)
    (hsl : ∀ x i, subscripted b true (.ref x) i = runValue (.builtin "lifetime.subscript" ⟨[.ref x, i], []⟩) := by intro _ _; with_unfolding_all rfl) : PE X (.Subscript a b pos) (tOp (rIxI C sp) ta tb) := by
  subst eK
  refine ⟨fun pins s σ H Q I h => ?_⟩; refine Subscript_ (binT ha hi I h fun v u s2 x y H2 I2 rx ry q => ?_)
  obtain ⟨o, dx, fs, rfl, ho, q⟩ := q
  cases rx
  obtain ⟨mA, J, _⟩ := ins_get I2.hok ho
  obtain ⟨od, J, _⟩ := J.look
  obtain ⟨m, hF⟩ := I2.fr
  refine PySem.W.sub_K hF I2.ok.mod.kin J OC.at_ OC.fnIn (by unfold PySem.W.isFn; rw [OC.fn]; rfl) ?_ (hsl _ _)
  have rel : Vals [V.ref o, y] [Value.ref o, u] := .cons rfl (.cons ry .nil)
  exact run_any (A := X.A.in1) F hb hr.in1 rfl I2 rel q fun v H' w s' I' rv z => ⟨v, H', I', rv, z⟩
end
end L2
namespace L2
open PyProof.Rows PySem.Spec PySem
def rJoin (K : PySem.W.Frag) : V → List V → Hp → VK → Prop := fun x xs H Q => ∃ a p, ∃ ys : List Str, x = .str a ∧ xs = [.ref p] ∧ (SqL K H p (ys.map V.str) ∨ SqT K H p (ys.map V.str)) ∧ (ys.map (·.length)).sum + ys.length * a.length ≤ 16777216 ∧ Q (.str (Txt.join a ys)) H
theorem pe_joinK {X : Cx} {o e : Expr} {to te : TE} {apos pos : Pos} (K : PySem.W.Frag) (eK : X.K = K) (ho : PE X o to) (he : PE X e te) (hs : starEach [e] X.env = [(false, eval e X.env)] := by rfl) (hbase : attributeBase o "join" X.env (eval o X.env) = eval o X.env := by rfl) (hline : (apos.endLine == pos.line) = true := by rfl) :
    PE X (.Call (.Attribute o "join" apos) [e] [] pos) (tM1 (rJoin K) to te) := by
  subst eK
  exact pe_join ho he hs hbase hline
end L2
namespace Hx
open PySem PySem.Spec PyProof.Rows L2 He
/-- an error class of the program with its __init__, as the top has left them -/
structure InitF (P : Program) (K : PySem.W.Frag) (mg : Str → Option Value) (x qual : Str) (st : Stmt) (fs : List Str) (C fI : Addr) (fd : FuncData) : Prop where
  sup : SupC K mg x C fI
  xf : XfC K C
  no : ∀ f ∈ fs, PySem.W.findIn K (.ref C) f = some none
  fn : ∃ oc od osl kV doc pm an cda ct cc, fd = PySem.W.ksFn "__init__" qual (defArgs st) (defBody st) (defScope st) .none kV doc pm an (.ref cda) ct cc ∧ K.lookup fI = some ⟨oc, od, .func fd, osl⟩ ∧ PySem.W.codeIn K (.ref cda) qual = true ∧ PySem.Sx.SupAt P K C fI cc cda
theorem codeIn_refX {K : PySem.W.Frag} {cd : Value} {q : Str} (h : PySem.W.codeIn K cd q = true) : ∃ c, cd = .ref c := by
  cases cd with
  | ref c => exact ⟨c, rfl⟩
  | _ => cases h
section
variable {P : Program} {K : PySem.W.Frag} {h : Heap} {mg : Str → Option Value} {fa : List Fa} {fb : List (PySem.W.Frag → Bool)} {fn : List DefE}
theorem SaysX.init (c : SaysX fa fb fn K) (X : K.In h) (G : h.Ns mainGlobals mg) (i j : Nat) {x qual : Str} {st : Stmt} {fs : List Str} (hd : fn[i]? = some ⟨(x, some "__init__"), "__init__", qual, st, [("__class__" : Str)], []⟩ := by rfl)
    (hb : fb[j]? = some (fun K => supB P K x fs) := by rfl) : ∃ fd, InitF P K mg x qual st fs (ga K x) (ma K (ga K x) "__init__") fd := by
  obtain ⟨e, ok⟩ := c.okD i hd
  have s : SupF P K x fs := supB_ok (c.own j hb)
  obtain ⟨oc, od, osl, dV, kV, doc, pm, an, cdv, ct, cc, lk, hcd, _, hdf⟩ := DefE.supD e ok rfl
  obtain ⟨cda, rfl⟩ := codeIn_refX hcd
  have hdV : dV = .none := by
    cases dV with
    | none => rfl
    | _ => cases hdf
  subst hdV
  exact ⟨_, s.supC X G, s.xf, s.no, oc, od, osl, kV, doc, pm, an, cda, ct, cc, rfl, lk, hcd, s.at_ lk⟩
theorem SaysX.def_ (c : SaysX fa fb fn K) (i : Nat) {x : Str} {p : Str × Option Str} {qual : Str} {st : Stmt} {dfl : List Dv} (hd : fn[i]? = some ⟨p, x, qual, st, [], dfl⟩ := by rfl) : ∃ fd, FunD K x qual (defArgs st) (defBody st) (defScope st) (dfl.map (Dv.v K)) [] (fAd K p) fd := by
  obtain ⟨e, ok⟩ := c.okD i hd
  exact DefE.funD e ok rfl
end
end Hx
namespace L2
open PyProof.Rows PySem.Spec PySem
/-! ### defs that are called while an exception is handled -/
/-- such a def's body's context: not calm -/
def cxW (CX : CXT) (P : Program) (w : World) (K : PySem.W.Frag) (mg : Str → Option Value) (base : Heap) (N : List Str) (qual : Str) (scope : Scope) (f : Addr) (cd : Value) (A : Around) (outer : List Env) (s : Shared) (H : Hp) (E : XK) : Cx :=
  { cxOf CX P w K mg base N qual scope f cd A outer s H E with calm := false }
structure FnW (P : Program) (w : World) (K : PySem.W.Frag) (mg : Str → Option Value) (base : Heap) (CX : CXT) (k : Nat) (f : Addr) (fd : FuncData) (ps : List Str) (sp : Sp) : Prop where
  arity : ∀ vs H Q E, sp vs H Q E → vs.length = ps.length
  goes : ∀ (A : Around) (outer : List Env) (s : Shared) (H : Hp) (args : Args) (us : List Value) (vs : List V) (Q : VK) (E : XK), L2H.RoomH k A → Env0 P w K mg base A outer s H → BindsTo s fd args (ps.zip us) → Vals vs us → sp vs H Q E →
    (codeAny (model P w) A (.call (.ref f) args) (CR CX outer P w H s Q E) s)
theorem env0_unmark {P : Program} {w : World} {K : PySem.W.Frag} {mg : Str → Option Value} {base : Heap} {A : Around} {outer : List Env} {s : Shared} {H : Hp} (e : Env0 P w K mg base A outer s H) : Env0 P w K mg base { A with handled := none } outer s H :=
  ⟨e.frames, e.mod, e.bs, e.bsz, e.funs, e.frf, e.hok, e.bare⟩
theorem warm_start {CX : CXT} {P : Program} {w : World} {K : PySem.W.Frag} {mg : Str → Option Value} {base : Heap} {N ps : List Str} {qual : Str} {scope : Scope} {f : Addr} {cd : Value} {A : Around} {outer : List Env} {s s1 : Shared} {H : Hp} {E : XK} {us : List Value} {vs : List V}
    (S : FnScope N ps scope) (e0 : Env0 P w K mg base A outer s H) (hl : vs.length = ps.length) (r : Vals vs us)
    (x : InCallC s s.heap.objs.size (bindL (envOfC qual scope s.heap.objs.size f cd).kindOf (ps.zip us) (fun _ => none)) (cellsFrom (s.heap.objs.size + 1) scope.names []) (bindC (envOfC qual scope s.heap.objs.size f cd).kindOf (ps.zip us) (fun _ => none)) s1) :
    Inv (cxW CX P w K mg base N qual scope f cd A outer s H E) [] (L2.start N vs) H s1 := by
  have J := inv_start (CX := CX) (E := E) (qual := qual) (f := f) (cd := cd) (A := { A with handled := none }) S rfl (env0_unmark e0) hl r x
  obtain ⟨o, j1, j2, j3, j4, j5, j6, j7, j8, j9, j10⟩ := J
  exact ⟨⟨o.mod, o.kind, o.glob, o.blt, o.above, o.inj, o.has, o.cab, (fun z => nomatch z), Around.frames_deeper e0.frames, .inr ⟨rfl, rfl⟩, o.exf, o.bs, o.bsz, o.noex, o.exfs, o.funs, o.frf⟩, j1, j2, j3, j4, j5, j6, j7, j8, j9, j10⟩
theorem FunD.warm {P : Program} {w : World} {K : PySem.W.Frag} {mg : Str → Option Value} {base : Heap} {CX : CXT} {k : Nat} {f : Addr} {fd : FuncData} {name qual : Str} {params : Arguments} {body : List Stmt} {scope : Scope} {ds : List V} {ks : List (Str × V)} {N ps : List Str} {sp : Sp}
    (F : FunD K name qual params body scope ds ks f fd) (S : FnScope N ps scope) (len : ∀ vs H Q E, sp vs H Q E → vs.length = ps.length)
    (hbody : ∀ (cdv : Value) (A : Around) (outer : List Env) (s : Shared) (H : Hp) (vs : List V) (Q : VK) (E : XK), L2H.RoomH k (A.deeper (envOfC qual scope s.heap.objs.size f cdv)) → sp vs H Q E →
      ∃ t, PSs (cxW CX P w K mg base N qual scope f cdv A outer s H E) body t ∧ t { nx := fun _ H' => Q .non H', rt := Q } (L2.start N vs) H) : FnW P w K mg base CX (k + 1) f fd ps sp := by
  obtain ⟨⟨oc, od, dV, kV, doc, pm, an, cdv, ct, osl, rfl, lk, hcd, _⟩, _⟩ := F
  refine ⟨len, fun A outer s H args us vs Q E hr e0 hb r hsp => ?_⟩; have lv := len vs H Q E hsp
  have KX : K.In s.heap := e0.mod.kin.keeps fun b o e => (e0.bs b o e).1; have noL : s.heap.NoLimit := e0.mod.nolimit.keeps fun b o e => (e0.bs b o e).1
  have kinds : ∀ y ∈ ps.zip us, scope.names.lookup y.1 = some .local ∨ (scope.names.lookup y.1 = some .cell ∧ ((cellsFrom (s.heap.objs.size + 1) scope.names []).lookup y.1).isSome = true) := fun ⟨n, v⟩ hy => (S.par n (List.of_mem_zip hy).1).imp id fun q => ⟨q, PySem.W.cellsFrom_some _ _ _ (.inl q)⟩
  refine codeAny_call_function hr.depth (KX _ _ lk) rfl S.co S.gen rfl (PySem.W.codeRec_of KX hcd) (hb _ _ _ _ (wpAny_newFunctionEnv_cells S.kind kinds fun env he s1 x => ?_))
  subst he
  obtain ⟨t, ht, hq⟩ := hbody cdv A outer s H vs Q E (hr.deeper _) hsp
  refine ⟨noL.keeps x.toInCall.keep, codeAny_func (wpAny_mono (ht.run [] s1 (L2.start N vs) H _ (warm_start S e0 lv r x) hq) (fun fl s' hs => ?_) fun e s' hs => hs)⟩
  cases fl with
  | ret u =>
    obtain ⟨v, _, H', J, rv, q⟩ := hs
    exact ⟨v, H', J.os, J.bare, J.base, J.hok, rv, q⟩
  | next =>
    obtain ⟨_, H', J, q⟩ := hs
    exact ⟨V.non, H', J.os, J.bare, J.base, J.hok, rfl, q⟩
  | brk =>
    obtain ⟨_, _, _, q⟩ := hs
    exact q.elim
  | cont =>
    obtain ⟨_, _, _, q⟩ := hs
    exact q.elim
section
variable {X : Cx} {CX : CXT} {k : Nat} {f : Addr} {fd : FuncData} {ps : List Str} {sp : Sp} {x : Str} {q pos : Pos} {e : Expr} {es : List Expr} {t : TA} {E : XK}
theorem pe_callW (F : FnW X.prog X.w X.K X.mg X.base CX k f fd ps sp) (hr : L2H.RoomH k X.A) (hg : Gl X x) (hm : X.mg x = some (.ref f)) (hk : PySem.W.keepIn X.K (.ref f) = true) (hb : Binds X.K fd ps []) (hx : Passes CX X E) (ha : PA X (e :: es) t) (hdb : (x == ("__debug__" : Str)) = false := by decide)
    (he : starEach (e :: es) X.env = (false, eval e X.env) :: starEach es X.env := by rfl) (hpl : (backTo pos (starEach es X.env)).any (·.1) = false := by rfl) : PE X (.Call (.Name x q) (e :: es) [] pos) (fun σ H Q => t σ H fun vs H1 => sp vs H1 Q E) := by
  refine ⟨fun pins s σ H Q I h => wpAny_Call_Name_kw (ld_glob I hg hm (PySem.W.callWith_K (h₀ := X.base) I.ok.mod.kin hk (thn (ha.run pos pins s σ H _ I h) fun us s1 z => ?_) he hpl) hdb)⟩
  obtain ⟨vs, H1, I1, r, hq⟩ := z
  refine ⟨I1.kIn, wpAny_call (codeAny_mono (F.goes X.A X.stack s1 H1 ⟨us, []⟩ us vs Q E hr I1.env0 ?_ r hq) fun a s' ho => ?_)⟩
  · have b := hb s1 us I1.kIn (by rw [List.append_nil, ← r.length]; exact F.arity _ _ _ _ hq)
    rw [List.append_nil] at b
    exact b
  · cases a with
    | error e => exact hx pins σ H1 s1 e s' I1 ho
    | ok fl =>
      cases fl with
      | ret u => exact I1.after ho
      | next => exact ho.elim
      | brk => exact ho.elim
      | cont => exact ho.elim
end
theorem Room.warm {j k : Nat} {A : Around} {h : Option Value} (r : Room k A) (l : j ≤ k := by decide) : L2H.RoomH j (A.mark h) :=
  have q := L2H.roomH_of (r.mono l)
  ⟨q.dp, q.un⟩
theorem call_isTK {X : Cx} (K : PySem.W.Frag) (e : X.K = K) : CallR X (.builtin "isinstance") (rIsT K) := by
  subst e
  exact call_isT
theorem pe_xfTK {X : Cx} {o : Expr} {te : TE} {pos : Pos} {n : Str} (K : PySem.W.Frag) (e : X.K = K) (he : PE X o te) (hb : attributeBase o n X.env (eval o X.env) = eval o X.env := by rfl) : PE X (.Attribute o n pos) (tXfT K n te) := by
  subst e
  exact pe_xfT he hb
end L2
namespace Pk
open L2 PyProof.Rows PySem.Spec PySem
def top (i : Nat) : Stmt := PySem.Challenge.pw_pagecode_k01_codes_made_and_refused.main.body.getD i (.Pass ⟨0, 0, 0, 0⟩)
abbrev sBag : Stmt := top 51
abbrev sDraw : Stmt := top 52
/-! ### the bag -/
def bagD (c : Addr) (i : Nat) (dg n f : Int) : List (Key × V) := [(.inr "cells", .ref c), (.inr "at", .int i), (.inr "digits", .int dg), (.inr "count", .int n), (.inr "fold", .int f)]
theorem bag_cells {c i dg n f} : valV (bagD c i dg n f) (.inr "cells") = some (.ref c) := by rfl
theorem bag_at {c i dg n f} : valV (bagD c i dg n f) (.inr "at") = some (.int (i : Nat)) := by rfl
theorem bag_digits {c i dg n f} : valV (bagD c i dg n f) (.inr "digits") = some (.int dg) := by rfl
theorem bag_count {c i dg n f} : valV (bagD c i dg n f) (.inr "count") = some (.int n) := by rfl
theorem bag_fold {c i dg n f} : valV (bagD c i dg n f) (.inr "fold") = some (.int f) := by rfl
theorem bag_put_at {c i dg n f} : putK (bagD c i dg n f) (.inr "at") (.int (i + 1)) = bagD c (i + 1) dg n f := by rfl
theorem bag_put_digits {c i dg n f} {z : Int} : putK (bagD c i dg n f) (.inr "digits") (.int z) = bagD c i z n f := by rfl
theorem bag_put_count {c i dg n f} {z : Int} : putK (bagD c i dg n f) (.inr "count") (.int z) = bagD c i dg z f := by rfl
theorem bag_put_fold {c i dg n f} {z : Int} : putK (bagD c i dg n f) (.inr "fold") (.int z) = bagD c i dg n z := by rfl
end Pk
namespace Pk
open L2 PyProof.Rows PySem.Spec PySem
def BagO (c : Addr) (m : Nat) (n : Int) (o : HO) : Prop := ∃ i dg f, o = .dK (bagD c i dg n f) ∧ i ≤ m ∧ 0 ≤ dg ∧ 0 ≤ f ∧ f < 2147483648 ∧ 0 ≤ n
theorem dgS {H : Hp} {a : Addr} {kvs : List (Key × V)} {x : Str} {r : Option V} (e : H a = some (.dK kvs)) (h : valV kvs (.inr x) = r) : DGet H a (.str x) r := .inl ⟨kvs, .inr x, .inl e, rfl, h.symm⟩
theorem bag_len {c i dg n f} : (bagD c i dg n f).length < sizeLine := by show 5 < sizeLine; decide
def spDraw : Sp := fun vs H Q _ => ∃ (b c : Addr) (ns : List Int) (lim n : Int) (o : HO), vs = [.ref b, .int lim] ∧ 1 ≤ lim ∧ lim ≤ 10 ^ 50 ∧ H b = some o ∧ BagO c ns.length n o ∧ n ≤ 1000000 ∧ H c = some (.lst (ns.map V.int)) ∧
  ∀ (r : Int) (o' : HO), 0 ≤ r → r < lim → BagO c ns.length (n + 1) o' → Q (.int r) (upd H b o')
def spBag (K : PySem.W.Frag) : Sp := fun vs H Q _ => ∃ (a : Addr) (ns : List Int), vs = [.ref a] ∧ SqL K H a (ns.map V.int) ∧ ns.length ≤ 63 ∧
  ∀ (b c : Addr) (o : HO), H b = none → H c = none → c ≠ b → BagO c ns.length 0 o → Q (.ref b) (upd (upd (upd H b (.dK [])) c (.lst (ns.map V.int))) b o)
section
variable {K : PySem.W.Frag} {P : Program} {w : World} {base : Heap} {mg : Str → Option Value}
theorem sc_law_draw : FnScope ["_law_bag_here", "_law_limit", "_law_cell", "_law_digit", "_law_base"] ["_law_bag_here", "_law_limit"] (defScope sDraw) := ⟨rfl, rfl, rfl, by decide +kernel, rfl, by decide +kernel, by decide +kernel⟩
theorem ok_draw {f : Addr} {fd : FuncData} (F : FunD K "_law_draw" "_law_draw" (defArgs sDraw) (defBody sDraw) (defScope sDraw) [] [] f fd) (mInt : mg "int" = none) (mLen : mg "len" = none) : FnOk P w K mg base CX0 1 f fd ["_law_bag_here", "_law_limit"] spDraw := by
  refine F.ok sc_law_draw (fun vs H Q E h => ?_) (fun cdv A outer s H vs Q E hr h => ?_)
  · obtain ⟨b, c, ns, lim, n, o, rfl, _⟩ := h
    rfl
  · obtain ⟨b, c, ns, lim, n, o, rfl, l1, l2, hb, ⟨i, dg, f0, rfl, hi, hdg, hf1, hf2, hn0⟩, hn, hc, k⟩ := h
    have hu := hu_of hr
    refine ⟨_, PSs.nox (pss_cons (by exact (ps_dput hu (pv 0) pe_str (pe_op op_add (pe_dget hu (pv 0) pe_str (fun _ _ => rfl)) pe_int) rfl)) (C8.pss_cut (by exact (ps_if (PW.pt (pw_and (pt_cmpR op_eq (pe_dget hu (pv 0) pe_str (fun _ _ => rfl)) pe_int (nomark _)) (pw_and1 (pt_cmpR op_lt (pe_dget hu (pv 0) pe_str (fun _ _ => rfl)) (pe_callB call_len_seq (by rfl) mLen PySem.boot_len (pa_cons (pe_dget hu (pv 0) pe_str (fun _ _ => rfl)) pa_nil)) (nomark _))))) (pss_cons (by exact (ps_set (i := 2) sc_law_draw.nd rfl (Or.inl rfl) (pe_ix (ix_listK K rfl) (pe_dget hu (pv 0) pe_str (fun _ _ => rfl)) (pe_dget hu (pv 0) pe_str (fun _ _ => rfl)) (fun _ _ => rfl)))) (pss_cons (by exact (ps_dput hu (pv 0) pe_str (pe_op op_add (pe_dget hu (pv 0) pe_str (fun _ _ => rfl)) pe_int) rfl)) (pss_one (by exact (ps_if (pt_cmpR op_ge (pv 2) (pe_op op_pow pe_int pe_int) (nomark _)) (pss_one (by exact (ps_dput hu (pv 0) pe_str (pe_op op_sub (pv 2) (pe_op op_pow pe_int pe_int)) rfl))) (pss_one (by exact (ps_dput hu (pv 0) pe_str (pe_op op_mod (pe_callTy call_int1 (by rfl) mInt (by decide +kernel) (pa_cons (pe_op op_add (pe_op op_mul (pe_dget hu (pv 0) pe_str (fun _ _ => rfl)) pe_int) (pv 2)) pa_nil)) pe_int) rfl)))))))) pss_nil)) (pss_cons (by exact (ps_if (pt_cmpR op_gt (pe_dget hu (pv 0) pe_str (fun _ _ => rfl)) pe_int (nomark _)) (pss_cons (by exact (ps_set (i := 3) sc_law_draw.nd rfl (Or.inl rfl) (pe_op op_mod (pe_callTy call_int1 (by rfl) mInt (by decide +kernel) (pa_cons (pe_dget hu (pv 0) pe_str (fun _ _ => rfl)) pa_nil)) (pv 1)))) (pss_cons (by exact (ps_dput hu (pv 0) pe_str (pe_op op_fdivW (pe_dget hu (pv 0) pe_str (fun _ _ => rfl)) (pv 1)) rfl)) (pss_one (by exact (ps_ret (pv 3)))))) pss_nil)) (pss_cons (by exact (ps_set (i := 4) sc_law_draw.nd rfl (Or.inl rfl) (pe_op op_add (pe_op op_add (pe_dget hu (pv 0) pe_str (fun _ _ => rfl)) (pe_op op_mul (pe_dget hu (pv 0) pe_str (fun _ _ => rfl)) pe_int)) pe_int))) (pss_one (by exact (ps_ret (pe_op op_mod (pe_op op_fdivW (pe_callTy call_int1 (by rfl) mInt (by decide +kernel) (pa_cons (pe_op op_mod (pe_op op_pow (pv 4) pe_int) pe_int) pa_nil)) pe_int) (pv 1))))))))), ?_⟩
    -- count
    refine ⟨_, rfl, _, _, rfl, dgS hb bag_count, _, _, rfl, rfl, _, rfl, b, _, rfl, DPut.k (k := .inr "count") hb bag_len, ?_⟩
    rw [bag_put_count]
    have ncb : c ≠ b := ne_of hc hb (by intro z; cases z)
    have hc1 : ∀ o, upd H b o c = some (.lst (ns.map V.int)) := fun o => by rw [upd_ne ncb]; exact hc
    -- the if: some bag stands behind it
    refine ⟨fun σ H1 => ∃ (i : Nat) (dg f0 : Int) (v : Option V), σ = [some (.ref b), some (.int lim), v, none, none] ∧ H1 = upd H b (.dK (bagD c i dg (n + 1) f0)) ∧ i ≤ ns.length ∧ 0 ≤ dg ∧ 0 ≤ f0 ∧ f0 < 2147483648, ?_, ?_⟩
    · refine ⟨_, rfl, _, _, rfl, dgS upd_same bag_digits, rfl, _, rfl, ?_⟩
      refine ite2 (fun hz => ?_) (fun _ => ⟨i, dg, f0, _, rfl, rfl, hi, hdg, hf1, hf2⟩)
      refine ⟨_, rfl, _, _, rfl, dgS upd_same bag_at, _, rfl, _, _, rfl, dgS upd_same bag_cells, c, _, rfl, .inl (SqL.of (hc1 _)), _, _, rfl, rfl, _, rfl, ?_⟩
      refine ite2 (fun hlt => ?_) (fun _ => ⟨i, dg, f0, _, rfl, rfl, hi, hdg, hf1, hf2⟩)
      have hil : i < ns.length := by
        have z := of_decide_eq_true hlt
        rw [List.length_map] at z
        omega
      -- cell
      refine ⟨_, rfl, _, _, rfl, dgS upd_same bag_cells, _, rfl, _, _, rfl, dgS upd_same bag_at, c, _, _, .int (ns[i]), rfl, rfl, SqL.of (hc1 _), atI_nat (by simp [hil]), ?_⟩
      -- at
      refine ⟨_, rfl, _, _, rfl, dgS upd_same bag_at, _, _, rfl, rfl, _, rfl, b, _, rfl, DPut.k (k := .inr "at") upd_same bag_len, ?_⟩
      rw [upd_upd, bag_put_at]
      refine ⟨_, rfl, _, _, rfl, rfl, ⟨by decide, by decide, by decide⟩, _, _, rfl, rfl, _, rfl, ?_⟩
      refine ite2 (fun hge => ?_) (fun _ => ?_)
      · have hge' := of_decide_eq_true hge
        refine ⟨_, rfl, _, _, rfl, rfl, ⟨by decide, by decide, by decide⟩, _, _, rfl, rfl, _, rfl, b, _, rfl, DPut.k (k := .inr "digits") upd_same bag_len, ?_⟩
        rw [upd_upd, bag_put_digits]
        exact ⟨i + 1, _, f0, _, rfl, rfl, hil, by omega, hf1, hf2⟩
      · refine ⟨_, rfl, _, _, rfl, dgS upd_same bag_fold, _, _, rfl, rfl, .inr ⟨by decide, by decide⟩, _, rfl, _, _, rfl, rfl, .inl ⟨_, rfl, _, _, rfl, rfl, (by show (0 : Int) < 2147483587; decide), _, rfl, b, _, rfl, DPut.k (k := .inr "fold") upd_same bag_len, ?_⟩⟩
        rw [upd_upd, bag_put_fold]
        exact ⟨i + 1, dg, _, _, rfl, rfl, hil, hdg, Int.emod_nonneg _ (by decide), Int.lt_trans (Int.emod_lt_of_pos _ (by decide)) (by decide)⟩
    · rintro σ H1 ⟨i, dg, f0, v, rfl, rfl, hi, hdg, hf1, hf2⟩
      refine ⟨_, rfl, _, _, rfl, dgS upd_same bag_digits, _, _, rfl, rfl, _, rfl, ?_⟩
      refine ite2 (fun hz => ?_) (fun _ => ?_)
      · refine ⟨_, rfl, _, _, rfl, dgS upd_same bag_digits, .inl ⟨_, rfl, _, rfl, _, _, rfl, rfl, (by omega), ?_⟩⟩
        refine ⟨_, rfl, _, _, rfl, dgS upd_same bag_digits, _, rfl, _, _, rfl, rfl, wide_div (b := 200) (by omega) ?_ (by decide) (by decide), _, rfl, b, _, rfl, DPut.k (k := .inr "digits") upd_same bag_len, ?_⟩
        · have : (10 : Int) ^ 50 < 2 ^ 200 := by decide
          omega
        · rw [upd_upd, bag_put_digits]
          refine ⟨_, rfl, k _ _ (Int.emod_nonneg _ (by omega)) (Int.emod_lt_of_pos _ (by omega)) ⟨i, _, f0, rfl, hi, Int.ediv_nonneg hdg (by omega), hf1, hf2, by omega⟩⟩
      · refine ⟨_, rfl, _, _, rfl, dgS upd_same bag_fold, _, rfl, _, _, rfl, dgS upd_same bag_count, _, _, rfl, rfl, .inr ⟨by decide, by decide⟩, _, _, rfl, rfl, _, _, rfl, rfl, ?_⟩
        refine ⟨_, rfl, _, _, rfl, rfl, ⟨by decide, by decide, ?_⟩, _, _, rfl, rfl, (by show (0 : Int) < 2305843009213693951; decide), .inl ⟨_, rfl, _, _, rfl, rfl, wide_div (b := 10) (by decide) (by decide) (by decide) (by decide), _, rfl, _, _, rfl, rfl, (by omega), ?_⟩⟩
        · have h1 : (n + 1) * 7907 ≤ 1000001 * 7907 := by omega
          have h2 : 0 ≤ (n + 1) * 7907 := by omega
          omega
        · exact k _ _ (Int.emod_nonneg _ (by omega)) (Int.emod_lt_of_pos _ (by omega)) ⟨i, dg, f0, rfl, hi, hdg, hf1, hf2, by omega⟩
end
end Pk
namespace Pk
open L2 PyProof.Rows PySem.Spec PySem
theorem int_item {ns : List Int} {i : Nat} {y : V} (h : (ns.map V.int)[i]? = some y) : ∃ z, ns[i]? = some z ∧ y = .int z := by
  rw [List.getElem?_map] at h
  cases e : ns[i]? with
  | none => (rw [e] at h; cases h)
  | some z => rw [e] at h; exact ⟨z, rfl, (Option.some.inj h).symm⟩
section
variable {K : PySem.W.Frag} {P : Program} {w : World} {base : Heap} {mg : Str → Option Value}
theorem sc_law_bag : FnScope ["_law_script", "_law_fold", "_law_cell"] ["_law_script"] (defScope sBag) := ⟨rfl, rfl, rfl, by decide +kernel, rfl, by decide +kernel, by decide +kernel⟩
theorem ok_bag {f : Addr} {fd : FuncData} (F : FunD K "_law_bag" "_law_bag" (defArgs sBag) (defBody sBag) (defScope sBag) [] [] f fd) (mInt : mg "int" = none) (mList : mg "list" = none) : FnOk P w K mg base CX0 1 f fd ["_law_script"] (spBag K) := by
  refine F.ok sc_law_bag (fun vs H Q E h => ?_) (fun cdv A outer s H vs Q E hr h => ?_)
  · obtain ⟨a, ns, rfl, _⟩ := h
    rfl
  · obtain ⟨a, ns, rfl, hS, hl, k⟩ := h
    have hu := hu_of hr
    refine ⟨_, PSs.nox (pss_cons (by exact (ps_set (i := 1) sc_law_bag.nd rfl (Or.inl rfl) pe_int)) (pss_cons (by exact (ps_for PassesOwn.never rfl (pi_list (pv 0)) (pg_name (i := 2) sc_law_bag.nd rfl (Or.inl rfl)) (pss_one (by exact (ps_set (i := 1) sc_law_bag.nd rfl (Or.inl rfl) (pe_op op_mod (pe_callTy call_int1 (by rfl) mInt (by decide +kernel) (pa_cons (pe_op op_add (pe_op op_mul (pv 1) pe_int) (pv 2)) pa_nil)) pe_int)))))) (pss_one (by exact (ps_ret (pe_disp (pps_cons pe_str (pe_callTy call_list_of (by rfl) mList (by decide +kernel) (pa_cons (pv 0) pa_nil)) (pps_cons pe_str pe_int (pps_cons pe_str pe_int (pps_cons pe_str pe_int (pps_cons pe_str (pv 1) pps_nil))))) (by rfl) (by rfl) (fun z => by cases z) (by decide))))))), ?_⟩
    refine ⟨_, rfl, a, rfl, ⟨_, hS⟩, for_list (K := K) (a := a) (xs := ns.map V.int) (fun i σ H' => ∃ (f : Int) (v : Option V), σ = [some (.ref a), some (.int f), v] ∧ H' = H ∧ 0 ≤ f ∧ f < 2147483648)
      ⟨0, none, rfl, rfl, by decide, by decide⟩ (fun i σ H' _ ⟨_, _, _, e, _⟩ => by rw [e]; exact hS) ?_ ?_⟩
    · rintro i y σ H' hi ⟨f, v, rfl, rfl, h1, h2⟩
      obtain ⟨z, hz, rfl⟩ := int_item hi
      refine ⟨_, rfl, _, _, rfl, rfl, .inr ⟨by decide, by decide⟩, _, rfl, _, _, rfl, rfl, .inl ⟨_, rfl, _, _, rfl, rfl, (by show (0 : Int) < 1000000009; decide), ?_⟩⟩
      exact ⟨_, _, rfl, rfl, Int.emod_nonneg _ (by decide), Int.lt_trans (Int.emod_lt_of_pos _ (by decide)) (by decide)⟩
    · rintro σ H' ⟨f, v, rfl, rfl, h1, h2⟩
      intro b hb
      refine ⟨_, rfl, a, _, rfl, .inl ((same_new hb).seq hS), fun c hc => ⟨_, rfl, ?_⟩⟩
      have hcb : c ≠ b := fun z => by rw [z, upd_same] at hc; cases hc
      have hc' : H' c = none := by rw [upd_ne hcb] at hc; exact hc
      refine ⟨by rw [upd_ne (Ne.symm hcb)]; exact upd_same, bagD c 0 0 0 f, rfl, by show 5 ≤ 15; decide, ?_⟩
      have e : mergeK [] (bagD c 0 0 0 f) = bagD c 0 0 0 f := by rfl
      rw [e]
      exact k b c _ hb hc' hcb ⟨0, 0, f, rfl, Nat.zero_le _, by decide, h1, h2, by decide⟩
end
end Pk
namespace Pk
open L2 PyProof.Rows PySem.Spec PySem
abbrev progOf : Program := PySem.Challenge.pw_pagecode_k01_codes_made_and_refused
section
variable {K : PySem.W.Frag} {P : Program} {w : World} {base : Heap} {mg : Str → Option Value}
abbrev sIBadStyle : Stmt := inClass (top 3) 0
theorem scIBadStyle : FnScopeS ["self", "style"] ["self", "style"] (defScope sIBadStyle) := ⟨rfl, rfl, rfl, by decide +kernel, rfl, by decide +kernel, by decide +kernel, by decide +kernel, rfl, rfl⟩
theorem bIBadStyle {C fI : Addr} {fd : FuncData} (I : Hx.InitF P K mg "BadStyle" "BadStyle.__init__" sIBadStyle ["style"] C fI fd) : Binds K fd ["self", "style"] [] := by
  obtain ⟨oc, od, osl, kV, doc, pm, an, cda, ct, cc, rfl, lk, hcd, T⟩ := I.fn
  exact .all fun us hl => match us, hl with | [_, _], _ => rfl
theorem okIBadStyle {C fI : Addr} {fd : FuncData} (I : Hx.InitF P K mg "BadStyle" "BadStyle.__init__" sIBadStyle ["style"] C fI fd) (mS : mg "super" = none) (hP : P.main.scope = (progOf).main.scope) : FnOk P w K mg base CX0 1 fI fd ["self", "style"] (spSup1 C "style") := by
  obtain ⟨oc, od, osl, kV, doc, pm, an, cda, ct, cc, rfl, lk, hcd, T⟩ := I.fn
  refine fn_sup (ps := ["self", "style"]) (N := ["self", "style"]) (sp := spSup1 C "style") (CX := CX0) (k := 0) lk hcd scIBadStyle T mS rfl rfl rfl (by rw [hP]; rfl) (by intro _ _ _ _; rfl) ?_ ?_
  · rintro vs H Q E ⟨a, v, rfl, _⟩
    rfl
  · rintro A outer s H vs Q E hr ⟨a, v, rfl, ha, q⟩
    exact ⟨a, [v], _, rfl, ha, pss_one (ps_ost (pv 0) (pv 1)), ⟨_, rfl, _, rfl, a, C, rfl, I.sup.oex, I.no _ (by decide +kernel), .inl ⟨ha, fun d hd hda => q d hd hda⟩⟩⟩
abbrev sIBadSum : Stmt := inClass (top 4) 0
theorem scIBadSum : FnScopeS ["self", "text"] ["self", "text"] (defScope sIBadSum) := ⟨rfl, rfl, rfl, by decide +kernel, rfl, by decide +kernel, by decide +kernel, by decide +kernel, rfl, rfl⟩
theorem bIBadSum {C fI : Addr} {fd : FuncData} (I : Hx.InitF P K mg "BadSum" "BadSum.__init__" sIBadSum ["text"] C fI fd) : Binds K fd ["self", "text"] [] := by
  obtain ⟨oc, od, osl, kV, doc, pm, an, cda, ct, cc, rfl, lk, hcd, T⟩ := I.fn
  exact .all fun us hl => match us, hl with | [_, _], _ => rfl
theorem okIBadSum {C fI : Addr} {fd : FuncData} (I : Hx.InitF P K mg "BadSum" "BadSum.__init__" sIBadSum ["text"] C fI fd) (mS : mg "super" = none) (hP : P.main.scope = (progOf).main.scope) : FnOk P w K mg base CX0 1 fI fd ["self", "text"] (spSup1 C "text") := by
  obtain ⟨oc, od, osl, kV, doc, pm, an, cda, ct, cc, rfl, lk, hcd, T⟩ := I.fn
  refine fn_sup (ps := ["self", "text"]) (N := ["self", "text"]) (sp := spSup1 C "text") (CX := CX0) (k := 0) lk hcd scIBadSum T mS rfl rfl rfl (by rw [hP]; rfl) (by intro _ _ _ _; rfl) ?_ ?_
  · rintro vs H Q E ⟨a, v, rfl, _⟩
    rfl
  · rintro A outer s H vs Q E hr ⟨a, v, rfl, ha, q⟩
    exact ⟨a, [v], _, rfl, ha, pss_one (ps_ost (pv 0) (pv 1)), ⟨_, rfl, _, rfl, a, C, rfl, I.sup.oex, I.no _ (by decide +kernel), .inl ⟨ha, fun d hd hda => q d hd hda⟩⟩⟩
abbrev sIBadKind : Stmt := inClass (top 5) 0
theorem scIBadKind : FnScopeS ["self", "kind"] ["self", "kind"] (defScope sIBadKind) := ⟨rfl, rfl, rfl, by decide +kernel, rfl, by decide +kernel, by decide +kernel, by decide +kernel, rfl, rfl⟩
theorem bIBadKind {C fI : Addr} {fd : FuncData} (I : Hx.InitF P K mg "BadKind" "BadKind.__init__" sIBadKind ["kind"] C fI fd) : Binds K fd ["self", "kind"] [] := by
  obtain ⟨oc, od, osl, kV, doc, pm, an, cda, ct, cc, rfl, lk, hcd, T⟩ := I.fn
  exact .all fun us hl => match us, hl with | [_, _], _ => rfl
theorem okIBadKind {C fI : Addr} {fd : FuncData} (I : Hx.InitF P K mg "BadKind" "BadKind.__init__" sIBadKind ["kind"] C fI fd) (mS : mg "super" = none) (hP : P.main.scope = (progOf).main.scope) : FnOk P w K mg base CX0 1 fI fd ["self", "kind"] (spSup1 C "kind") := by
  obtain ⟨oc, od, osl, kV, doc, pm, an, cda, ct, cc, rfl, lk, hcd, T⟩ := I.fn
  refine fn_sup (ps := ["self", "kind"]) (N := ["self", "kind"]) (sp := spSup1 C "kind") (CX := CX0) (k := 0) lk hcd scIBadKind T mS rfl rfl rfl (by rw [hP]; rfl) (by intro _ _ _ _; rfl) ?_ ?_
  · rintro vs H Q E ⟨a, v, rfl, _⟩
    rfl
  · rintro A outer s H vs Q E hr ⟨a, v, rfl, ha, q⟩
    exact ⟨a, [v], _, rfl, ha, pss_one (ps_ost (pv 0) (pv 1)), ⟨_, rfl, _, rfl, a, C, rfl, I.sup.oex, I.no _ (by decide +kernel), .inl ⟨ha, fun d hd hda => q d hd hda⟩⟩⟩
abbrev sIBadLine : Stmt := inClass (top 6) 0
theorem scIBadLine : FnScopeS ["self", "line"] ["self", "line"] (defScope sIBadLine) := ⟨rfl, rfl, rfl, by decide +kernel, rfl, by decide +kernel, by decide +kernel, by decide +kernel, rfl, rfl⟩
theorem bIBadLine {C fI : Addr} {fd : FuncData} (I : Hx.InitF P K mg "BadLine" "BadLine.__init__" sIBadLine ["line"] C fI fd) : Binds K fd ["self", "line"] [] := by
  obtain ⟨oc, od, osl, kV, doc, pm, an, cda, ct, cc, rfl, lk, hcd, T⟩ := I.fn
  exact .all fun us hl => match us, hl with | [_, _], _ => rfl
theorem okIBadLine {C fI : Addr} {fd : FuncData} (I : Hx.InitF P K mg "BadLine" "BadLine.__init__" sIBadLine ["line"] C fI fd) (mS : mg "super" = none) (hP : P.main.scope = (progOf).main.scope) : FnOk P w K mg base CX0 1 fI fd ["self", "line"] (spSup1 C "line") := by
  obtain ⟨oc, od, osl, kV, doc, pm, an, cda, ct, cc, rfl, lk, hcd, T⟩ := I.fn
  refine fn_sup (ps := ["self", "line"]) (N := ["self", "line"]) (sp := spSup1 C "line") (CX := CX0) (k := 0) lk hcd scIBadLine T mS rfl rfl rfl (by rw [hP]; rfl) (by intro _ _ _ _; rfl) ?_ ?_
  · rintro vs H Q E ⟨a, v, rfl, _⟩
    rfl
  · rintro A outer s H vs Q E hr ⟨a, v, rfl, ha, q⟩
    exact ⟨a, [v], _, rfl, ha, pss_one (ps_ost (pv 0) (pv 1)), ⟨_, rfl, _, rfl, a, C, rfl, I.sup.oex, I.no _ (by decide +kernel), .inl ⟨ha, fun d hd hda => q d hd hda⟩⟩⟩
abbrev sIRefused : Stmt := inClass (top 7) 0
theorem scIRefused : FnScopeS ["self", "line"] ["self", "line"] (defScope sIRefused) := ⟨rfl, rfl, rfl, by decide +kernel, rfl, by decide +kernel, by decide +kernel, by decide +kernel, rfl, rfl⟩
theorem bIRefused {C fI : Addr} {fd : FuncData} (I : Hx.InitF P K mg "Refused" "Refused.__init__" sIRefused ["line"] C fI fd) : Binds K fd ["self", "line"] [] := by
  obtain ⟨oc, od, osl, kV, doc, pm, an, cda, ct, cc, rfl, lk, hcd, T⟩ := I.fn
  exact .all fun us hl => match us, hl with | [_, _], _ => rfl
theorem okIRefused {C fI : Addr} {fd : FuncData} (I : Hx.InitF P K mg "Refused" "Refused.__init__" sIRefused ["line"] C fI fd) (mS : mg "super" = none) (hP : P.main.scope = (progOf).main.scope) : FnOk P w K mg base CX0 1 fI fd ["self", "line"] (spSup1 C "line") := by
  obtain ⟨oc, od, osl, kV, doc, pm, an, cda, ct, cc, rfl, lk, hcd, T⟩ := I.fn
  refine fn_sup (ps := ["self", "line"]) (N := ["self", "line"]) (sp := spSup1 C "line") (CX := CX0) (k := 0) lk hcd scIRefused T mS rfl rfl rfl (by rw [hP]; rfl) (by intro _ _ _ _; rfl) ?_ ?_
  · rintro vs H Q E ⟨a, v, rfl, _⟩
    rfl
  · rintro A outer s H vs Q E hr ⟨a, v, rfl, ha, q⟩
    exact ⟨a, [v], _, rfl, ha, pss_one (ps_ost (pv 0) (pv 1)), ⟨_, rfl, _, rfl, a, C, rfl, I.sup.oex, I.no _ (by decide +kernel), .inl ⟨ha, fun d hd hda => q d hd hda⟩⟩⟩
abbrev sITooMany : Stmt := inClass (top 8) 0
theorem scITooMany : FnScopeS ["self", "what", "many", "most"] ["self", "what", "many", "most"] (defScope sITooMany) := ⟨rfl, rfl, rfl, by decide +kernel, rfl, by decide +kernel, by decide +kernel, by decide +kernel, rfl, rfl⟩
theorem bITooMany {C fI : Addr} {fd : FuncData} (I : Hx.InitF P K mg "TooMany" "TooMany.__init__" sITooMany ["what", "many", "most"] C fI fd) : Binds K fd ["self", "what", "many", "most"] [] := by
  obtain ⟨oc, od, osl, kV, doc, pm, an, cda, ct, cc, rfl, lk, hcd, T⟩ := I.fn
  exact .all fun us hl => match us, hl with | [_, _, _, _], _ => rfl
theorem okITooMany {C fI : Addr} {fd : FuncData} (I : Hx.InitF P K mg "TooMany" "TooMany.__init__" sITooMany ["what", "many", "most"] C fI fd) (mS : mg "super" = none) (hP : P.main.scope = (progOf).main.scope) : FnOk P w K mg base CX0 1 fI fd ["self", "what", "many", "most"] (spSup3 C "what" "many" "most") := by
  obtain ⟨oc, od, osl, kV, doc, pm, an, cda, ct, cc, rfl, lk, hcd, T⟩ := I.fn
  refine fn_sup (ps := ["self", "what", "many", "most"]) (N := ["self", "what", "many", "most"]) (sp := spSup3 C "what" "many" "most") (CX := CX0) (k := 0) lk hcd scITooMany T mS rfl rfl rfl (by rw [hP]; rfl) (by intro _ _ _ _; rfl) ?_ ?_
  · rintro vs H Q E ⟨a, u, v, x, rfl, _⟩
    rfl
  · rintro A outer s H vs Q E hr ⟨a, u, v, x, rfl, ha, q⟩
    refine ⟨a, [u, v, x], _, rfl, ha, pss_cons (ps_ost (pv 0) (pv 1)) (pss_cons (ps_ost (pv 0) (pv 2)) (pss_one (ps_ost (pv 0) (pv 3)))), ⟨_, rfl, _, rfl, a, C, rfl, I.sup.oex, I.no _ (by decide +kernel), .inl ⟨ha, fun d hd hda => ?_⟩⟩⟩
    refine ⟨_, rfl, _, rfl, a, C, rfl, I.sup.oex, I.no _ (by decide +kernel), .inr ⟨d, _, upd_same, by rw [upd_ne hda]; exact upd_same, by simp, ?_⟩⟩
    exact ⟨_, rfl, _, rfl, a, C, rfl, I.sup.oex, I.no _ (by decide +kernel), .inr ⟨d, _, by rw [upd_ne (Ne.symm hda)]; exact upd_same, upd_same, by simp, q d hd hda⟩⟩
end
structure Errs (P : Program) (K : PySem.W.Frag) (mg : Str → Option Value) : Prop where
  iBadStyle : ∃ fd, Hx.InitF P K mg "BadStyle" "BadStyle.__init__" sIBadStyle ["style"] (He.ga K "BadStyle") (He.ma K (He.ga K "BadStyle") "__init__") fd
  iBadSum : ∃ fd, Hx.InitF P K mg "BadSum" "BadSum.__init__" sIBadSum ["text"] (He.ga K "BadSum") (He.ma K (He.ga K "BadSum") "__init__") fd
  iBadKind : ∃ fd, Hx.InitF P K mg "BadKind" "BadKind.__init__" sIBadKind ["kind"] (He.ga K "BadKind") (He.ma K (He.ga K "BadKind") "__init__") fd
  iBadLine : ∃ fd, Hx.InitF P K mg "BadLine" "BadLine.__init__" sIBadLine ["line"] (He.ga K "BadLine") (He.ma K (He.ga K "BadLine") "__init__") fd
  iRefused : ∃ fd, Hx.InitF P K mg "Refused" "Refused.__init__" sIRefused ["line"] (He.ga K "Refused") (He.ma K (He.ga K "Refused") "__init__") fd
  iTooMany : ∃ fd, Hx.InitF P K mg "TooMany" "TooMany.__init__" sITooMany ["what", "many", "most"] (He.ga K "TooMany") (He.ma K (He.ga K "TooMany") "__init__") fd
  mS : mg "super" = none
  hP : P.main.scope = (progOf).main.scope
section
variable {P : Program} {K : PySem.W.Frag} {mg : Str → Option Value}
theorem Errs.gBadStyle (ER : Errs P K mg) : mg "BadStyle" = some (.ref (He.ga K "BadStyle")) := let ⟨_, I⟩ := ER.iBadStyle; I.sup.gC
theorem Errs.gBadSum (ER : Errs P K mg) : mg "BadSum" = some (.ref (He.ga K "BadSum")) := let ⟨_, I⟩ := ER.iBadSum; I.sup.gC
theorem Errs.gBadKind (ER : Errs P K mg) : mg "BadKind" = some (.ref (He.ga K "BadKind")) := let ⟨_, I⟩ := ER.iBadKind; I.sup.gC
theorem Errs.gBadLine (ER : Errs P K mg) : mg "BadLine" = some (.ref (He.ga K "BadLine")) := let ⟨_, I⟩ := ER.iBadLine; I.sup.gC
theorem Errs.gRefused (ER : Errs P K mg) : mg "Refused" = some (.ref (He.ga K "Refused")) := let ⟨_, I⟩ := ER.iRefused; I.sup.gC
theorem Errs.gTooMany (ER : Errs P K mg) : mg "TooMany" = some (.ref (He.ga K "TooMany")) := let ⟨_, I⟩ := ER.iTooMany; I.sup.gC
end
end Pk
namespace Pk
open L2 PyProof.Rows PySem.Spec PySem
/-! ### the reader's numbers, terms, sums, as plain functions -/
def okNum (w : Str) : Bool := Txt.isascii w && (Txt.isdigit w && (decide (w.length ≤ 30) && !(decide (1 < w.length) && decide (w.cps.toList[0]? = some 48))))
def numM (w : Str) : Option Nat := if okNum w = true then some (NumText.digitsVal w.cps.toList) else none
theorem ascii_digit : ∀ c : Nat, c < 128 → Unicode.isDigit c = true → 48 ≤ c ∧ c ≤ 57 := by decide +kernel
theorem okNum_parts {w : Str} (h : okNum w = true) : NumText.AllDigits w.cps.toList ∧ w.cps.toList ≠ [] ∧ w.length ≤ 30 := by
  unfold okNum at h
  simp only [Bool.and_eq_true] at h; obtain ⟨h1, h2, h3, _⟩ := h
  unfold Txt.isascii at h1
  unfold Txt.isdigit at h2
  simp only [Bool.and_eq_true] at h2
  refine ⟨fun c hc => ?_, fun e => ?_, of_decide_eq_true h3⟩
  · have a1 := Array.all_eq_true_iff_forall_mem.mp h1 c (Array.mem_toList_iff.mp hc)
    have a2 := Array.all_eq_true_iff_forall_mem.mp h2.2 c (Array.mem_toList_iff.mp hc)
    exact ascii_digit c (of_decide_eq_true a1) a2
  · have q := of_decide_eq_true h2.1
    have e2 : w.length = w.cps.toList.length := by simp [Str.length]
    rw [e2, e] at q
    cases q
theorem numM_int {w : Str} {n : Nat} (h : numM w = some n) : intText? w = some (n : Int) ∧ w.length ≤ 30 := by
  unfold numM at h
  by_cases k : okNum w = true
  · rw [if_pos k] at h
    cases h
    obtain ⟨a, b, c⟩ := okNum_parts k
    exact ⟨intText_digits a b (by omega), c⟩
  · rw [if_neg k] at h
    cases h
theorem digits_lt : ∀ (l : List Nat) (a : Nat), NumText.AllDigits l → l.foldl (fun acc c => acc * 10 + (c - 48)) a < (a + 1) * 10 ^ l.length
  | [], a, _ => by simp
  | c :: l, a, h => by
    have q := digits_lt l (a * 10 + (c - 48)) h.tail
    have d := h.head
    rw [List.foldl_cons, List.length_cons]; refine Nat.lt_of_lt_of_le q ?_
    have e : (a + 1) * 10 ^ (l.length + 1) = ((a + 1) * 10) * 10 ^ l.length := by rw [Nat.pow_succ, Nat.mul_assoc, Nat.mul_comm (10 ^ l.length) 10]
    rw [e]; exact Nat.mul_le_mul_right _ (by omega)
theorem numM_lt {w : Str} {n : Nat} (h : numM w = some n) : n < 10 ^ 30 := by
  unfold numM at h
  by_cases k : okNum w = true
  · rw [if_pos k] at h
    cases h
    obtain ⟨a, b, c⟩ := okNum_parts k
    have q := digits_lt w.cps.toList 0 a
    have e2 : w.length = w.cps.toList.length := by simp [Str.length]
    rw [← e2, Nat.zero_add, Nat.one_mul] at q
    exact Nat.lt_of_lt_of_le q (Nat.pow_le_pow_right (by decide) c)
  · rw [if_neg k] at h
    cases h
def ATOMSL : List Str := ["k", "cap", "low", "left", "own", "right", "new", "more", "a", "b", "c"]
def FACTL : List Str := ["k", "cap", "low"]
abbrev Term := Int × Option Str
def termM (ws : List Str) : Option (Nat × Option Str) := match ws with
  | [w] => if w ∈ ATOMSL then some (1, some w) else (numM w).map fun n => (n, none)
  | [w, m, f] => if m = "*" ∧ f ∈ FACTL then (match numM w with
    | some n => if 2 ≤ n ∧ n ≤ 12 then some (n, some f) else none
    | none => none) else none
  | _ => none
theorem termM_lt {ws : List Str} {n : Nat} {f : Option Str} (h : termM ws = some (n, f)) : n < 10 ^ 30 := by
  unfold termM at h
  split at h
  · split at h
    · cases h
      decide
    · rename_i w _
      cases e : numM w with
      | none => (rw [e] at h; cases h)
      | some m =>
        rw [e] at h
        cases h
        exact numM_lt e
  · split at h
    · split at h
      · split at h
        · rename_i q
          cases h
          exact Nat.lt_of_le_of_lt q.2 (by decide)
        · cases h
      · cases h
    · cases h
  · cases h
theorem termM_1 (w : Str) : termM [w] = if w ∈ ATOMSL then some (1, some w) else (numM w).map fun n => (n, none) := rfl
theorem termM_3 (w m f : Str) : termM [w, m, f] = if m = "*" ∧ f ∈ FACTL then (match numM w with
    | some n => if 2 ≤ n ∧ n ≤ 12 then some (n, some f) else none
    | none => none) else none := rfl
theorem termM_x {ws : List Str} (h1 : ws.length ≠ 1) (h3 : ws.length ≠ 3) : termM ws = none := by
  rcases ws with _ | ⟨a, _ | ⟨b, _ | ⟨c, _ | ⟨d, r⟩⟩⟩⟩
  · rfl
  · exact absurd rfl h1
  · rfl
  · exact absurd rfl h3
  · rfl
def sumGo : List Str → List Term → List Str → Int → Option (List Term)
  | [], found, _, _ => some found
  | w :: ws, found, term, sign => if w = "+" ∨ w = "-" then (match termM term with
    | none => none
    | some (n, f) => sumGo ws (found ++ [(sign * n, f)]) [] (if w = "+" then 1 else -1)) else sumGo ws found (term ++ [w]) sign
def namesT (ts : List Term) : List Str := ts.filterMap (·.2)
def sumOk (ts : List Term) : Bool := decide (ts.length ≤ 4) && decide ((namesT ts).Nodup)
def sumM (ws : List Str) : Option (List Term) := match sumGo (ws ++ [("+" : Str)]) [] [] 1 with
  | none => none
  | some ts => if sumOk ts = true then some ts else none
def divM (ws : List Str) (most : Nat) : Option (List Term × Option Nat) :=
  if 2 < ws.length ∧ ws[ws.length - 2]? = some ("//" : Str) then (match sumM (ws.take (ws.length - 2)), numM (ws.getD (ws.length - 1) "") with
    | some ts, some m => if 2 ≤ m ∧ m ≤ most then some (ts, some m) else none
    | _, _ => none) else (sumM ws).map fun ts => (ts, none)
def addS (ks : List Str) (s : Str) : List Str := if s ∈ ks then ks else ks ++ [s]
theorem addS_len : ∀ (ns ks : List Str), (ns.foldl addS ks).length ≤ ks.length + ns.length ∧ ((ns.foldl addS ks).length = ks.length + ns.length ↔ (ns.Nodup ∧ ∀ s ∈ ns, s ∉ ks))
  | [], ks => by simp
  | n :: ns, ks => by
    obtain ⟨h1, h2⟩ := addS_len ns (addS ks n)
    rw [List.foldl_cons, List.length_cons]; by_cases hn : n ∈ ks
    · have e : addS ks n = ks := if_pos hn
      rw [e] at h1 h2 ⊢
      refine ⟨by omega, ⟨fun z => by omega, fun z => absurd hn (z.2 n (by simp))⟩⟩
    · have e : addS ks n = ks ++ [n] := if_neg hn
      rw [e] at h1 h2 ⊢
      rw [List.length_append, List.length_singleton] at h1 h2
      refine ⟨by omega, ?_⟩
      have a : (ns.foldl addS (ks ++ [n])).length = ks.length + (ns.length + 1) ↔ (ns.foldl addS (ks ++ [n])).length = ks.length + 1 + ns.length := by omega
      rw [a, h2, List.nodup_cons]
      constructor
      · rintro ⟨z1, z2⟩
        refine ⟨⟨fun y => z2 n y (by simp), z1⟩, fun s hs hk => ?_⟩
        rcases List.mem_cons.mp hs with y | y
        · rw [y] at hk
          exact hn hk
        · exact z2 s y (List.mem_append_left _ hk)
      · rintro ⟨⟨z1, z2⟩, z3⟩
        refine ⟨z2, fun s hs hk => ?_⟩
        rcases List.mem_append.mp hk with y | y
        · exact z3 s (List.mem_cons_of_mem _ hs) y
        · rw [List.mem_singleton.mp y] at hs
          exact z1 hs
theorem nodup_len (ns : List Str) : (ns.foldl addS []).length = ns.length ↔ ns.Nodup := by
  have q := (addS_len ns []).2
  rw [List.length_nil, Nat.zero_add] at q
  rw [q]
  exact ⟨fun z => z.1, fun z => ⟨z, fun _ _ h => by cases h⟩⟩
def kOnly (ts : List Term) : Bool := ts.all fun t => decide (t.2 = none) || decide (t.2 = some ("k" : Str))
def shareM (s : Str) : Option (List Term × Option Nat) := match divM (Txt.split s " ") 6 with
  | none => none
  | some (ts, m) => if kOnly ts = true then some (ts, m) else none
/-! ### a share as numbers -/
def slopeT (ts : List Term) : Int := (ts.filterMap fun t => if t.2 = some ("k" : Str) then some t.1 else none).sum
def constT (ts : List Term) : Int := (ts.filterMap fun t => if t.2 = none then some t.1 else none).sum
structure Line where
  s : Int
  c : Int
  d : Nat
def lineM (p : List Term × Option Nat) : Line := ⟨slopeT p.1, constT p.1, p.2.getD 1⟩
def Line.at_ (l : Line) (k : Int) : Int := (l.s * k + l.c) / (l.d : Int)
/-! ### how long the parts of a text are -/
theorem spl_few (S : List Nat) : ∀ (l : List Nat) (k : Nat) (acc : List Nat), (TL.spl S k acc l).length ≤ l.length + 1 ∧ ∀ p ∈ TL.spl S k acc l, p.length ≤ acc.length + l.length
  | [], k, acc => by
    rw [TL.spl_nil]
    exact ⟨Nat.le_refl _, fun p hp => by rw [List.mem_singleton.mp hp]; exact Nat.le_refl _⟩
  | c :: r, 0, acc => by
    by_cases h : TL.pre S (c :: r) = true
    · rw [TL.spl_hit h]
      obtain ⟨h1, h2⟩ := spl_few S r (S.length - 1) []
      refine ⟨Nat.succ_le_succ h1, fun p hp => ?_⟩; rcases List.mem_cons.mp hp with e | e
      · rw [e]
        exact Nat.le_add_right _ _
      · have q := h2 p e
        rw [List.length_nil, Nat.zero_add] at q
        rw [List.length_cons]
        omega
    · rw [TL.spl_miss (by simpa using h)]
      obtain ⟨h1, h2⟩ := spl_few S r 0 (acc ++ [c])
      refine ⟨Nat.le_succ_of_le h1, fun p hp => ?_⟩
      have q := h2 p hp
      rw [List.length_append, List.length_singleton] at q
      rw [List.length_cons]
      omega
  | c :: r, k + 1, acc => by
    obtain ⟨h1, h2⟩ := spl_few S r k acc
    refine ⟨Nat.le_succ_of_le h1, fun p hp => ?_⟩
    have q := h2 p hp
    rw [List.length_cons]
    omega
theorem split_few (s : Str) : (Txt.split s " ").length ≤ s.length + 1 ∧ ∀ w ∈ Txt.split s " ", w.length ≤ s.length := by
  have e := TL.split_spl s " " (by decide) (TL.kind_ok (by decide +kernel))
  obtain ⟨h1, h2⟩ := spl_few (TL.tl " ") (TL.tl s) 0 []
  rw [← e] at h1 h2
  rw [List.length_map] at h1
  rw [TL.len_tl s]
  refine ⟨h1, fun w hw => ?_⟩
  have q := h2 (TL.tl w) (List.mem_map_of_mem hw)
  rw [List.length_nil, Nat.zero_add] at q
  rw [TL.len_tl w]
  exact q
end Pk
namespace Pk
open L2 PyProof.Rows PySem.Spec PySem
/-! ### the lines of codes, read: plain functions -/
def PAGEL : List Str := ["left", "own", "right", "new", "more"]
def REGL : List Str := ["a", "b", "c"]
inductive Part where
  | there (x : Str) (w : Bool)
  | less (a b : Term) (s w : Bool)
  | same (a b : Term) (w : Bool)
deriving DecidableEq
inductive Row where
  | set (line : Nat) (r : Str) (ts : List Term) (d : Option Nat)
  | cut (line : Nat) (x : Str) (ts : List Term) (y : Str)
  | join (line : Nat) (x y : Str)
  | shift (line : Nat) (ts : List Term) (x y : Str)
  | mark (line : Nat) (y : Str)
  | quit (line : Nat)
  | ifr (line : Nat) (ps : List Part) (rows others : List Row)
def at_ (ws : List Str) (i : Nat) : Str := ws.getD i ""
def sideM (w : Str) : Option Term := (termM [w]).map fun p => ((p.1 : Int), p.2)
def movingM (line : Nat) (ws : List Str) : Option Row :=
  if ws.length < 6 ∨ at_ ws (ws.length - 1) ∉ PAGEL then none
  else if at_ ws 0 = "cut" ∧ at_ ws 1 ∈ PAGEL ∧ at_ ws 2 = "at" ∧ at_ ws (ws.length - 2) = "into" then (match sumM ((ws.take (ws.length - 2)).drop 3) with
    | some ts => if at_ ws 1 ≠ at_ ws (ws.length - 1) then some (.cut line (at_ ws 1) ts (at_ ws (ws.length - 1))) else none
    | none => none)
  else if at_ ws 0 ≠ "shift" ∨ at_ ws (ws.length - 4) ≠ "from" ∨ at_ ws (ws.length - 3) ∉ PAGEL ∨ at_ ws (ws.length - 2) ≠ "to" then none
  else (match sumM ((ws.take (ws.length - 4)).drop 1) with
    | some ts => if at_ ws (ws.length - 3) ≠ at_ ws (ws.length - 1) then some (.shift line ts (at_ ws (ws.length - 3)) (at_ ws (ws.length - 1))) else none
    | none => none)
def deedM (line : Nat) (ws : List Str) : Option Row :=
  if ws = [("quit" : Str)] then some (.quit line)
  else if 2 < ws.length ∧ at_ ws 0 ∈ REGL ∧ at_ ws 1 = "=" then (divM (ws.drop 2) 12).map fun x => .set line (at_ ws 0) x.1 x.2
  else if ws.length = 2 ∧ at_ ws 0 = "mark" ∧ at_ ws 1 ∈ PAGEL then some (.mark line (at_ ws 1))
  else if ws.length = 3 ∧ at_ ws 0 = "join" ∧ at_ ws 1 ∈ PAGEL ∧ at_ ws 2 ∈ PAGEL then (if at_ ws 1 ≠ at_ ws 2 then some (.join line (at_ ws 1) (at_ ws 2)) else none)
  else movingM line ws
def wantedM (ws : List Str) : Bool := !decide (ws.take 1 = [("not" : Str)])
def restM (ws : List Str) : List Str := if wantedM ws = true then ws else ws.drop 1
def partM (ws : List Str) : Option Part :=
  if (restM ws).length = 3 ∧ (restM ws).take 2 = [("there" : Str), ("is" : Str)] ∧ at_ (restM ws) 2 ∈ PAGEL then some (.there (at_ (restM ws) 2) (wantedM ws))
  else if (restM ws).length = 3 ∧ at_ (restM ws) 0 ≠ at_ (restM ws) 2 then (match sideM (at_ (restM ws) 0), sideM (at_ (restM ws) 2) with
    | some a, some b => if at_ (restM ws) 1 = "<" ∨ at_ (restM ws) 1 = "<=" then some (.less a b (decide (at_ (restM ws) 1 = "<")) (wantedM ws)) else if at_ (restM ws) 1 = "is" then some (.same a b (wantedM ws)) else none
    | _, _ => none)
  else none
def partsGo : List Str → List Part → List Str → Option (List Part)
  | [], found, _ => some found
  | w :: ws, found, part => if w = "and" then (match partM part with
    | none => none
    | some p => partsGo ws (found ++ [p]) []) else partsGo ws found (part ++ [w])
def partsM (ws : List Str) : Option (List Part) := match partsGo (ws ++ [("and" : Str)]) [] [] with
  | none => none
  | some ps => if ps.length ≤ 4 then some ps else none
/-- rows, the word that ended them, the number of lines taken, the lines left; or the number of the first line that is none -/
abbrev RowsR := Except Nat (List Row × Option Str × Nat × List Str)
abbrev RowR := Except Nat (Row × Nat × List Str)
def rowM (rec_ : Bool → Nat → List Str → RowsR) (line : Nat) (ws : List Str) (r : List Str) : RowR :=
  if at_ ws 0 = "if" ∧ 1 < ws.length then (match partsM (ws.drop 1) with
    | none => .error line
    | some ps => match rec_ true line r with
      | .error e => .error e
      | .ok (rows, last, l2, r2) => if last = some ("else" : Str) then (match rec_ true l2 r2 with
        | .error e => .error e
        | .ok (others, last2, l3, r3) => if last2 = some ("end" : Str) then .ok (.ifr line ps rows others, l3, r3) else .error l3)
        else if last = some ("end" : Str) then .ok (.ifr line ps rows [], l2, r2) else .error l2)
  else (match deedM line ws with
    | none => .error line
    | some row => .ok (row, line, r))
def rowsM : Nat → Bool → Nat → List Str → RowsR
  | 0, _, _, _ => .error 0
  | n + 1, inner, line, ls => match ls with
    | [] => if inner = true then .error (line + 1) else .ok ([], none, line, [])
    | t :: r => if inner = true ∧ (t = "end" ∨ t = "else") then .ok ([], some t, line + 1, r)
      else (match rowM (rowsM n) (line + 1) (Txt.split t " ") r with
        | .error e => .error e
        | .ok (row, l2, r2) => match rowsM n inner l2 r2 with
          | .error e => .error e
          | .ok (rows, last, l3, r3) => .ok (row :: rows, last, l3, r3))
section
variable {rec_ : Bool → Nat → List Str → RowsR} {line x l2 l3 : Nat} {ws r r2 r3 : List Str} {ps : List Part} {rows others : List Row} {last last2 : Option Str}
theorem rowM_p0 (c : at_ ws 0 = "if" ∧ 1 < ws.length) (e : partsM (ws.drop 1) = none) : rowM rec_ line ws r = .error line := by
  unfold rowM
  rw [if_pos c, e]
theorem rowM_r1 (c : at_ ws 0 = "if" ∧ 1 < ws.length) (e : partsM (ws.drop 1) = some ps) (e1 : rec_ true line r = .error x) : rowM rec_ line ws r = .error x := by
  unfold rowM
  rw [if_pos c, e]
  dsimp only
  rw [e1]
theorem rowM_r2 (c : at_ ws 0 = "if" ∧ 1 < ws.length) (e : partsM (ws.drop 1) = some ps) (e1 : rec_ true line r = .ok (rows, last, l2, r2)) (h : last = some ("else" : Str)) (e2 : rec_ true l2 r2 = .error x) : rowM rec_ line ws r = .error x := by
  unfold rowM
  rw [if_pos c, e]
  dsimp only
  rw [e1]
  dsimp only
  rw [if_pos h, e2]
theorem rowM_r3 (c : at_ ws 0 = "if" ∧ 1 < ws.length) (e : partsM (ws.drop 1) = some ps) (e1 : rec_ true line r = .ok (rows, last, l2, r2)) (h : last = some ("else" : Str)) (e2 : rec_ true l2 r2 = .ok (others, last2, l3, r3)) (h2 : last2 = some ("end" : Str)) : rowM rec_ line ws r = .ok (.ifr line ps rows others, l3, r3) := by
  unfold rowM
  rw [if_pos c, e]
  dsimp only
  rw [e1]
  dsimp only
  rw [if_pos h, e2]
  dsimp only
  rw [if_pos h2]
theorem rowM_r4 (c : at_ ws 0 = "if" ∧ 1 < ws.length) (e : partsM (ws.drop 1) = some ps) (e1 : rec_ true line r = .ok (rows, last, l2, r2)) (h : last = some ("else" : Str)) (e2 : rec_ true l2 r2 = .ok (others, last2, l3, r3)) (h2 : ¬ last2 = some ("end" : Str)) : rowM rec_ line ws r = .error l3 := by
  unfold rowM
  rw [if_pos c, e]
  dsimp only
  rw [e1]
  dsimp only
  rw [if_pos h, e2]
  dsimp only
  rw [if_neg h2]
theorem rowM_r5 (c : at_ ws 0 = "if" ∧ 1 < ws.length) (e : partsM (ws.drop 1) = some ps) (e1 : rec_ true line r = .ok (rows, last, l2, r2)) (h : ¬ last = some ("else" : Str)) (h2 : last = some ("end" : Str)) : rowM rec_ line ws r = .ok (.ifr line ps rows [], l2, r2) := by
  unfold rowM
  rw [if_pos c, e]
  dsimp only
  rw [e1]
  dsimp only
  rw [if_neg h, if_pos h2]
theorem rowM_r6 (c : at_ ws 0 = "if" ∧ 1 < ws.length) (e : partsM (ws.drop 1) = some ps) (e1 : rec_ true line r = .ok (rows, last, l2, r2)) (h : ¬ last = some ("else" : Str)) (h2 : ¬ last = some ("end" : Str)) : rowM rec_ line ws r = .error l2 := by
  unfold rowM
  rw [if_pos c, e]
  dsimp only
  rw [e1]
  dsimp only
  rw [if_neg h, if_neg h2]
end
def linesM (text : Str) : List Str := if text = "" then [] else Txt.split text "\n"
def readM (text : Str) : Except Nat (List Row) := match rowsM ((linesM text).length + 1) false 0 (linesM text) with
  | .error e => .error e
  | .ok x => .ok x.1
/-! ### the lines left are an end of the lines, their numbers go on -/
structure Left (line : Nat) (ls : List Str) (l2 : Nat) (r2 : List Str) : Prop where
  sum : l2 + r2.length = line + ls.length
  suf : ∃ pre, ls = pre ++ r2 ∧ l2 = line + pre.length
theorem Left.refl {line : Nat} {ls : List Str} : Left line ls line ls := ⟨rfl, [], rfl, rfl⟩
theorem Left.trans {l1 l2 l3 : Nat} {r1 r2 r3 : List Str} (a : Left l1 r1 l2 r2) (b : Left l2 r2 l3 r3) : Left l1 r1 l3 r3 := by
  obtain ⟨p, e1, e2⟩ := a.suf
  obtain ⟨q, e3, e4⟩ := b.suf
  refine ⟨b.sum.trans a.sum, p ++ q, ?_, ?_⟩
  · rw [List.append_assoc, ← e3]
    exact e1
  · rw [List.length_append]
    omega
theorem Left.cons {line : Nat} {t : Str} {r : List Str} : Left line (t :: r) (line + 1) r := ⟨by rw [List.length_cons]; omega, [t], rfl, rfl⟩
theorem Left.le {l1 l2 : Nat} {r1 r2 : List Str} (a : Left l1 r1 l2 r2) : r2.length ≤ r1.length := by
  obtain ⟨p, e1, e2⟩ := a.suf
  rw [e1, List.length_append]
  omega
theorem rowM_left {rec_ : Bool → Nat → List Str → RowsR} (hr : ∀ i l ls rows last l2 r2, rec_ i l ls = .ok (rows, last, l2, r2) → Left l ls l2 r2) {line : Nat} {ws r : List Str} {row : Row} {l2 : Nat} {r2 : List Str} (h : rowM rec_ line ws r = .ok (row, l2, r2)) : Left line r l2 r2 := by
  unfold rowM at h
  split at h
  · split at h
    · cases h
    · split at h
      · cases h
      · rename_i e
        have a := hr _ _ _ _ _ _ _ e
        split at h
        · split at h
          · cases h
          · rename_i e2
            have b := hr _ _ _ _ _ _ _ e2
            split at h
            · cases h
              exact a.trans b
            · cases h
        · split at h
          · cases h
            exact a
          · cases h
  · split at h
    · cases h
    · cases h
      exact Left.refl
theorem rowsM_left : ∀ (n : Nat) (i : Bool) (l : Nat) (ls : List Str) (rows : List Row) (last : Option Str) (l2 : Nat) (r2 : List Str), rowsM n i l ls = .ok (rows, last, l2, r2) → Left l ls l2 r2
  | 0, _, _, _, _, _, _, _, h => by cases h
  | n + 1, i, l, ls, rows, last, l2, r2, h => by
    unfold rowsM at h
    split at h
    · split at h
      · cases h
      · cases h
        exact Left.refl
    · split at h
      · cases h
        exact Left.cons
      · split at h
        · cases h
        · rename_i e
          have a := rowM_left (rowsM_left n) e
          split at h
          · cases h
          · rename_i e2
            have b := rowsM_left n _ _ _ _ _ _ _ e2
            cases h
            exact Left.cons.trans (a.trans b)
/-! ### enough steps are enough -/
theorem rowM_eq {f g : Bool → Nat → List Str → RowsR} {m : Nat} (hl : ∀ i l ls rows last l2 r2, f i l ls = .ok (rows, last, l2, r2) → Left l ls l2 r2) (h : ∀ i l ls, ls.length ≤ m → f i l ls = g i l ls) {line : Nat} {ws r : List Str} (hr : r.length ≤ m) : rowM f line ws r = rowM g line ws r := by
  unfold rowM
  rw [← h true line r hr]
  split
  · split
    · rfl
    · split
      · rfl
      · rename_i e
        have a := (hl _ _ _ _ _ _ _ e).le
        rw [← h true _ _ (Nat.le_trans a hr)]
  · rfl
theorem rowsM_step : ∀ (n : Nat) (i : Bool) (l : Nat) (ls : List Str), ls.length < n → rowsM n i l ls = rowsM (n + 1) i l ls
  | 0, _, _, _, h => absurd h (Nat.not_lt_zero _)
  | n + 1, i, l, ls, h => by
    have ih := rowsM_step n
    cases ls with
    | nil => rfl
    | cons t r =>
      have hr : r.length < n := by
        rw [List.length_cons] at h
        omega
      have e : rowM (rowsM n) (l + 1) (Txt.split t " ") r = rowM (rowsM (n + 1)) (l + 1) (Txt.split t " ") r := by
        cases n with
        | zero => exact absurd hr (Nat.not_lt_zero _)
        | succ k => exact rowM_eq (m := k) (rowsM_left _) (fun i l ls q => ih i l ls (by omega)) (by omega)
      rw [rowsM, rowsM, ← e]
      split
      · rfl
      · split
        · rfl
        · rename_i e2
          have a := (rowM_left (rowsM_left n) e2).le
          rw [ih _ _ _ (by omega)]
theorem rowsM_more (n m : Nat) (i : Bool) (l : Nat) (ls : List Str) (h : ls.length < n) : rowsM n i l ls = rowsM (n + m) i l ls := by
  induction m with
  | zero => rfl
  | succ m ih => rw [ih, ← Nat.add_assoc, rowsM_step (n + m) i l ls (by omega)]
/-- a row ahead -/
def prep (row : Row) : RowsR → RowsR
  | .error e => .error e
  | .ok (rows, last, l, r) => .ok (row :: rows, last, l, r)
def preps (done : List Row) : RowsR → RowsR
  | .error e => .error e
  | .ok (rows, last, l, r) => .ok (done ++ rows, last, l, r)
theorem preps_nil (x : RowsR) : preps [] x = x := by
  cases x with
  | error e => rfl
  | ok y => rfl
theorem preps_prep (done : List Row) (row : Row) (x : RowsR) : preps done (prep row x) = preps (done ++ [row]) x := by
  cases x with
  | error e => rfl
  | ok y =>
    show Except.ok (done ++ row :: y.1, y.2) = Except.ok ((done ++ [row]) ++ y.1, y.2)
    rw [List.append_assoc]
    rfl
theorem rowsM_row {n : Nat} {i : Bool} {l : Nat} {t : Str} {r : List Str} {row : Row} {l2 : Nat} {r2 : List Str} (hi : ¬ (i = true ∧ (t = "end" ∨ t = "else"))) (e : rowM (rowsM n) (l + 1) (Txt.split t " ") r = .ok (row, l2, r2)) (h : r.length < n) : rowsM (n + 1) i l (t :: r) = prep row (rowsM (n + 1) i l2 r2) := by
  have a := (rowM_left (rowsM_left n) e).le
  rw [rowsM, if_neg hi, e]
  dsimp only
  rw [rowsM_step n i l2 r2 (by omega)]
  cases rowsM (n + 1) i l2 r2 with
  | error e => rfl
  | ok y => rfl
end Pk
namespace Pk
open L2 PyProof.Rows PySem.Spec PySem
abbrev sNum : Stmt := top 32
abbrev sTerm : Stmt := top 33
abbrev sSumOf : Stmt := top 34
abbrev sDiv : Stmt := top 36
def natV : Option Nat → V
  | some n => .int n
  | none => .non
def nameV : Option Str → V
  | some s => .str s
  | none => .non
def spNum : Sp := fun vs H Q _ => ∃ w : Str, vs = [.str w] ∧ w.length ≤ 1000000 ∧ Q (natV (numM w)) H
theorem sign_zero {c : Nat} (h : V.str ⟨#[c]⟩ = V.str "0") : c = 48 := by
  have q := congrArg (fun z : Str => z.cps.toList) (V.str.inj h)
  have q2 : [c] = [48] := q
  exact (List.cons.inj q2).1
section
variable {K : PySem.W.Frag} {P : Program} {w : World} {base : Heap} {mg : Str → Option Value}
theorem sc_number_of : FnScope ["word"] ["word"] (defScope sNum) := ⟨rfl, rfl, rfl, by decide +kernel, rfl, by decide +kernel, by decide +kernel⟩
theorem ok_number_of {f : Addr} {fd : FuncData} (F : FunD K "number_of" "number_of" (defArgs sNum) (defBody sNum) (defScope sNum) [] [] f fd) (mLen : mg "len" = none) (mInt : mg "int" = none) (gMF : ∃ u, mg "MOST_FIGURES" = some u ∧ RelV (.int 30) u) : FnOk P w K mg base CX0 1 f fd ["word"] spNum := by
  refine F.ok sc_number_of (fun vs H Q E h => ?_) (fun cdv A outer s H vs Q E hr h => ?_)
  · obtain ⟨x, rfl, _⟩ := h
    rfl
  · obtain ⟨x, rfl, hx, q⟩ := h
    have big : x.length ≤ sizeLine := Nat.le_trans hx (by decide)
    refine ⟨_, PSs.nox (pss_cons (by exact (ps_if (PW.pt (pw_or (pt_not (pt_val (pe_m0 PySem.F.slot_str_isascii PySem.F.type_str_isascii mt_isascii (pv 0)))) (pw_or (pt_not (pt_val (pe_m0 PySem.F.slot_str_isdigit PySem.F.type_str_isdigit mt_isdigit (pv 0)))) (pw_or (pt_cmpR op_gt (pe_callB call_len_str (by rfl) mLen PySem.boot_len (pa_cons (pv 0) pa_nil)) (C8.pe_gc (v := .int 30) rfl gMF) (nomark _)) (pw_or1 (PW.pt (pw_and (pt_cmpR op_gt (pe_callB call_len_str (by rfl) mLen PySem.boot_len (pa_cons (pv 0) pa_nil)) pe_int (nomark _)) (pw_and1 (pt_cmpR op_eq (pe_ix ix_str (pv 0) pe_int (fun _ _ => rfl)) pe_str (nomark _)))))))))) (pss_one (by exact (ps_ret pe_non))) pss_nil)) (pss_one (by exact (ps_ret (pe_callTy call_int_str (by rfl) mInt (by decide +kernel) (pa_cons (pv 0) pa_nil)))))), ?_⟩
    have bad : okNum x = false → Q .non H := fun e => by
      have z : numM x = none := by
        unfold numM
        rw [e]
        rfl
      rw [z] at q
      exact q
    refine ⟨_, rfl, ⟨_, rfl⟩, _, rfl, rfl, trivial, _, rfl, ite2 (fun e1 => ?_) fun e1 => ?_⟩
    · exact iteT (bad (by unfold okNum; simp only [Bool.not_eq_true'] at e1; rw [e1, Bool.false_and]))
    have f1 : Txt.isascii x = true := by simpa using e1
    refine ⟨_, rfl, ⟨_, rfl⟩, _, rfl, rfl, trivial, _, rfl, ite2 (fun e2 => ?_) fun e2 => ?_⟩
    · exact iteT (bad (by unfold okNum; simp only [Bool.not_eq_true'] at e2; rw [f1, e2, Bool.false_and, Bool.and_false]))
    have f2 : Txt.isdigit x = true := by simpa using e2
    refine ⟨_, rfl, _, rfl, big, _, _, rfl, rfl, _, rfl, ite2 (fun e3 => ?_) fun e3 => ?_⟩
    · have g3 : (30 : Int) < (x.length : Int) := of_decide_eq_true e3
      exact iteT (bad (by unfold okNum; rw [decide_eq_false (show ¬ x.length ≤ 30 by omega), Bool.false_and, Bool.and_false, Bool.and_false]))
    have f3 : x.length ≤ 30 := by
      have g3 : ¬ (30 : Int) < (x.length : Int) := fun z => e3 (decide_eq_true z)
      omega
    have fin : okNum x = true → (∃ a n, [V.str x] = [V.str a] ∧ PySem.intText? a = some n ∧ a.length ≤ 640 ∧ Q (V.int n) H) := fun e => by
      have z : numM x = some (NumText.digitsVal x.cps.toList) := by
        unfold numM
        rw [if_pos e]
      rw [z] at q
      obtain ⟨z1, z2⟩ := numM_int z
      exact ⟨x, _, rfl, z1, by omega, q⟩
    refine ⟨_, rfl, _, rfl, big, _, _, rfl, rfl, _, rfl, ite2 (fun e4 => ?_) fun e4 => iteF ⟨_, rfl, fin ?_⟩⟩
    · have g4 : (1 : Int) < (x.length : Int) := of_decide_eq_true e4
      have l0 : x.length = x.cps.toList.length := by simp [Str.length]
      have lt : 0 < x.cps.toList.length := by omega
      refine ⟨_, rfl, x, 0, x.cps.toList[0], rfl, rfl, big, atI_nat (j := 0) (List.getElem?_eq_getElem lt), rfl, _, rfl, ite2 (fun e5 => ?_) fun e5 => ?_⟩
      · refine bad ?_
        have k5 := sign_zero (of_decide_eq_true e5)
        unfold okNum
        rw [decide_eq_true (show 1 < x.length by omega), decide_eq_true (show x.cps.toList[0]? = some 48 by rw [List.getElem?_eq_getElem lt, k5]), Bool.and_self, Bool.not_true, Bool.and_false, Bool.and_false, Bool.and_false]
      · refine ⟨_, rfl, fin ?_⟩
        have k5 : ¬ x.cps.toList[0]? = some 48 := fun z => e5 (decide_eq_true (by rw [List.getElem?_eq_getElem lt] at z; rw [Option.some.inj z]; rfl))
        unfold okNum
        rw [f1, f2, decide_eq_true f3, decide_eq_false k5, Bool.and_false, Bool.not_false] <;> rfl
    · have g4 : ¬ (1 : Int) < (x.length : Int) := fun z => e4 (decide_eq_true z)
      unfold okNum
      rw [f1, f2, decide_eq_true f3, decide_eq_false (show ¬ 1 < x.length by omega), Bool.false_and, Bool.not_false] <;> rfl
def spTerm (K : PySem.W.Frag) : Sp := fun vs H Q _ => ∃ (a : Addr) (ws : List Str), vs = [.ref a] ∧ SqL K H a (ws.map V.str) ∧ (∀ w ∈ ws, w.length ≤ 1000000) ∧ (termM ws = none → Q .non H) ∧
  ∀ n f, termM ws = some (n, f) → ∀ t, H t = none → Q (.ref t) (upd H t (.tup [.int (n : Nat), nameV f]))
theorem inV_strs {x : Str} : ∀ {l : List Str}, inV (V.str x) (l.map V.str) = decide (x ∈ l)
  | [] => by simp [inV]
  | y :: l => by
    have q := inV_strs (x := x) (l := l)
    unfold inV at q ⊢
    rw [List.map_cons, List.any_cons, q]
    have e : eqV (V.str y) (V.str x) = decide (y = x) := by
      unfold eqV
      rfl
    rw [e]
    by_cases h : x = y
    · subst h
      simp
    · have h2 : ¬ y = x := fun z => h z.symm
      simp [h, h2]
theorem flat_strs {l : List Str} : (l.map V.str).all flatV = true := by
  rw [List.all_eq_true]
  intro v hv
  obtain ⟨s, _, rfl⟩ := List.mem_map.mp hv
  rfl
section
variable {K : PySem.W.Frag} {P : Program} {w : World} {base : Heap} {mg : Str → Option Value}
theorem sc_term_of : FnScope ["words"] ["words"] (defScope sTerm) := ⟨rfl, rfl, rfl, by decide +kernel, rfl, by decide +kernel, by decide +kernel⟩
theorem ok_term_of {f fN : Addr} {fd fdN : FuncData} (F : FunD K "term_of" "term_of" (defArgs sTerm) (defBody sTerm) (defScope sTerm) [] [] f fd) (FN : FunD K "number_of" "number_of" (defArgs sNum) (defBody sNum) (defScope sNum) [] [] fN fdN)
    (GN : FnOk P w K mg base CX0 1 fN fdN ["word"] spNum) (gN : mg "number_of" = some (.ref fN)) (mLen : mg "len" = none) (gMF : ∃ u, mg "MOST_FACTOR" = some u ∧ RelV (.int 12) u)
    {aA aF : Addr} (gA : ∃ u, mg "ATOMS" = some u ∧ RelV (.ref aA) u) (gF : ∃ u, mg "FACTORED" = some u ∧ RelV (.ref aF) u) (tA : ∀ H, SqT K H aA (ATOMSL.map V.str)) (tF : ∀ H, SqT K H aF (FACTL.map V.str)) : FnOk P w K mg base CX0 2 f fd ["words"] (spTerm K) := by
  have bN : Binds K fdN ["word"] [] := FN.bindsN fun _ _ _ _ _ _ us hl => match us, hl with | [_], _ => rfl
  refine F.ok sc_term_of (fun vs H Q E h => ?_) (fun cdv A outer s H vs Q E hr h => ?_)
  · obtain ⟨a, ws, rfl, _⟩ := h
    rfl
  · obtain ⟨a, ws, rfl, hS, hw, q0, q1⟩ := h
    refine ⟨_, PSs.nox (pss_cons (by exact (ps_if (PW.pt (pw_and (pt_cmpR op_eq (pe_callB call_len_seq (by rfl) mLen PySem.boot_len (pa_cons (pv 0) pa_nil)) pe_int (nomark _)) (pw_and1 (pt_cmpR (op_inK K rfl) (pe_ix (ix_listK K rfl) (pv 0) pe_int (fun _ _ => rfl)) (C8.pe_gc (v := .ref aA) rfl gA) rfl)))) (pss_one (by exact (ps_ret (pe_tup (pa_cons pe_int (pa_cons (pe_ix (ix_listK K rfl) (pv 0) pe_int (fun _ _ => rfl)) pa_nil)))))) pss_nil)) (pss_cons (by exact (ps_if (PW.pt (pw_and (pt_cmpR op_eq (pe_callB call_len_seq (by rfl) mLen PySem.boot_len (pa_cons (pv 0) pa_nil)) pe_int (nomark _)) (pw_and1 (pt_cmp (pc_notN (pe_call GN (hr.mono (by decide)) rfl gN FN.kp bN .nil pass0 (pa_cons (pe_ix (ix_listK K rfl) (pv 0) pe_int (fun _ _ => rfl)) pa_nil))))))) (pss_one (by exact (ps_ret (pe_tup (pa_cons (pe_call GN (hr.mono (by decide)) rfl gN FN.kp bN .nil pass0 (pa_cons (pe_ix (ix_listK K rfl) (pv 0) pe_int (fun _ _ => rfl)) pa_nil)) (pa_cons pe_non pa_nil)))))) pss_nil)) (pss_cons (by exact (ps_if (PW.pt (pw_or (pt_cmpR op_ne (pe_callB call_len_seq (by rfl) mLen PySem.boot_len (pa_cons (pv 0) pa_nil)) pe_int (nomark _)) (pw_or (pt_cmpR op_ne (pe_ix (ix_listK K rfl) (pv 0) pe_int (fun _ _ => rfl)) pe_str (nomark _)) (pw_or (pt_cmpR (op_notInK K rfl) (pe_ix (ix_listK K rfl) (pv 0) pe_int (fun _ _ => rfl)) (C8.pe_gc (v := .ref aF) rfl gF) rfl) (pw_or1 (pt_cmp (pc_isN (pe_call GN (hr.mono (by decide)) rfl gN FN.kp bN .nil pass0 (pa_cons (pe_ix (ix_listK K rfl) (pv 0) pe_int (fun _ _ => rfl)) pa_nil))))))))) (pss_one (by exact (ps_ret pe_non))) pss_nil)) (pss_one (by exact (ps_ret (pe_ifExp (pt_chain op_le op_le pe_int (pe_call GN (hr.mono (by decide)) rfl gN FN.kp bN .nil pass0 (pa_cons (pe_ix (ix_listK K rfl) (pv 0) pe_int (fun _ _ => rfl)) pa_nil)) (C8.pe_gc (v := .int 12) rfl gMF)) (pe_tup (pa_cons (pe_call GN (hr.mono (by decide)) rfl gN FN.kp bN .nil pass0 (pa_cons (pe_ix (ix_listK K rfl) (pv 0) pe_int (fun _ _ => rfl)) pa_nil)) (pa_cons (pe_ix (ix_listK K rfl) (pv 0) pe_int (fun _ _ => rfl)) pa_nil))) pe_non))))))), ?_⟩
    have hlen : (ws.map V.str).length = ws.length := List.length_map ..
    have isn : ∀ n : Nat, V.int ((ws.map V.str).length : Nat) = V.int (n : Nat) → ws.length = n := fun n e => by
      have z := V.int.inj e
      omega
    have nis : ∀ n : Nat, ws.length = n → V.int ((ws.map V.str).length : Nat) = V.int (n : Nat) := fun n e => by rw [hlen, e]
    refine ⟨_, rfl, a, _, rfl, .inl hS, rfl, _, rfl, ite2 (fun e => ?_) fun e => ?_⟩
    · obtain ⟨w0, rfl⟩ := List.length_eq_one_iff.mp (isn 1 (of_decide_eq_true e))
      refine ⟨_, rfl, a, _, _, .str w0, rfl, rfl, hS, rfl, aA, _, rfl, .inr (tA _), rfl, flat_strs, _, rfl, ite2 (fun e2 => ?_) fun e2 => ?_⟩
      · have m : w0 ∈ ATOMSL := of_decide_eq_true (inV_strs.symm.trans e2)
        refine ⟨_, rfl, a, _, _, .str w0, rfl, rfl, hS, rfl, by show 2 ≤ sizeLine; decide, fun t ht => q1 1 (some w0) ?_ t ht⟩
        rw [termM_1, if_pos m]
      have m : ¬ w0 ∈ ATOMSL := fun z => e2 (inV_strs.trans (decide_eq_true z))
      have tm : termM [w0] = (numM w0).map fun n => (n, none) := by
        rw [termM_1, if_neg m]
      refine ⟨_, rfl, a, _, rfl, .inl hS, rfl, _, rfl, ite2 (fun _ => ?_) (fun z => absurd e z)⟩
      refine ⟨_, rfl, a, _, _, .str w0, rfl, rfl, hS, rfl, w0, rfl, hw w0 (by simp), ?_⟩
      rcases hn : numM w0 with _ | n
      · have q0' := q0 (by rw [tm, hn]; rfl)
        refine ⟨_, rfl, ite2 (fun z => nomatch z) fun _ => ?_⟩
        have e3 : (1 : Int) ≠ 3 := by decide
        refine ⟨_, rfl, a, _, rfl, .inl hS, rfl, _, rfl, ite2 (fun _ => q0') fun z => absurd rfl z⟩
      · refine ⟨_, rfl, ite2 (fun _ => ?_) fun z => absurd rfl z⟩
        refine ⟨_, rfl, a, _, _, .str w0, rfl, rfl, hS, rfl, w0, rfl, hw w0 (by simp), ?_⟩
        rw [hn]
        exact ⟨by show 2 ≤ sizeLine; decide, fun t ht => q1 n none (by rw [tm, hn]; rfl) t ht⟩
    · have n1 : ws.length ≠ 1 := fun z => e (decide_eq_true (nis 1 z))
      refine ⟨_, rfl, a, _, rfl, .inl hS, rfl, _, rfl, ite2 (fun z => absurd z e) fun _ => ?_⟩
      refine ⟨_, rfl, a, _, rfl, .inl hS, rfl, _, rfl, ite2 (fun e3 => ?_) fun e3 => ?_⟩
      · exact q0 (termM_x n1 fun z => by rw [decide_eq_true (show V.int ((ws.map V.str).length : Nat) = V.int 3 from nis 3 z)] at e3; cases e3)
      have l3 := isn 3 (Classical.byContradiction fun z => e3 (by rw [decide_eq_false (show ¬ V.int ((ws.map V.str).length : Nat) = V.int 3 from z)]; rfl))
      obtain ⟨w0, w1, w2, rfl⟩ : ∃ w0 w1 w2, ws = [w0, w1, w2] := by
        rcases ws with _ | ⟨a0, _ | ⟨a1, _ | ⟨a2, _ | ⟨a3, r⟩⟩⟩⟩
        · cases l3
        · cases l3
        · cases l3
        · exact ⟨a0, a1, a2, rfl⟩
        · cases l3
      have tm := termM_3 w0 w1 w2
      refine ⟨_, rfl, a, _, _, .str w1, rfl, rfl, hS, rfl, rfl, _, rfl, ite2 (fun e4 => ?_) fun e4 => ?_⟩
      · have k4 : ¬ w1 = "*" := fun z => by rw [z] at e4; exact absurd e4 (by decide)
        exact q0 (by rw [tm, if_neg fun z => k4 z.1])
      have k4 : w1 = "*" := by
        have z := Classical.byContradiction fun z => e4 (show (!decide (V.str w1 = V.str "*")) = true by rw [decide_eq_false z]; rfl)
        exact V.str.inj z
      refine ⟨_, rfl, a, _, _, .str w2, rfl, rfl, hS, rfl, aF, _, rfl, .inr (tF _), rfl, flat_strs, _, rfl, ite2 (fun e5 => ?_) fun e5 => ?_⟩
      · have k5 : ¬ w2 ∈ FACTL := fun z => by
          have y : (!inV (V.str w2) (FACTL.map V.str)) = true := e5
          rw [inV_strs, decide_eq_true z] at y
          cases y
        exact q0 (by rw [tm, if_neg fun z => k5 z.2])
      have k5 : w2 ∈ FACTL := Classical.byContradiction fun z => e5 (show (!inV (V.str w2) (FACTL.map V.str)) = true by rw [inV_strs, decide_eq_false z]; rfl)
      rw [if_pos ⟨k4, k5⟩] at tm
      refine ⟨_, rfl, a, _, _, .str w0, rfl, rfl, hS, rfl, w0, rfl, hw w0 (by simp), ?_⟩
      rcases hn : numM w0 with _ | n
      · exact ⟨_, rfl, q0 (by rw [tm, hn])⟩
      refine ⟨_, rfl, ?_⟩
      refine ⟨_, rfl, a, _, _, .str w0, rfl, rfl, hS, rfl, w0, rfl, hw w0 (by simp), ?_⟩
      rw [hn]
      refine ⟨_, _, rfl, rfl, _, rfl, ite2 (fun e6 => ?_) fun e6 => ?_⟩
      · have k6 : (2 : Int) ≤ (n : Int) := of_decide_eq_true e6
        refine ⟨_, _, rfl, rfl, _, rfl, ite2 (fun e7 => ?_) fun e7 => ?_⟩
        · have k7 : (n : Int) ≤ 12 := of_decide_eq_true e7
          refine ⟨_, rfl, a, _, _, .str w0, rfl, rfl, hS, rfl, w0, rfl, hw w0 (by simp), ?_⟩
          rw [hn]
          refine ⟨_, rfl, a, _, _, .str w2, rfl, rfl, hS, rfl, by show 2 ≤ sizeLine; decide, fun t ht => q1 n (some w2) ?_ t ht⟩
          rw [tm, hn]
          exact if_pos ⟨by omega, by omega⟩
        · have k7 : ¬ (n : Int) ≤ 12 := fun z => e7 (decide_eq_true z)
          refine q0 ?_
          rw [tm, hn]
          exact if_neg (by omega)
      · have k6 : ¬ (2 : Int) ≤ (n : Int) := fun z => e6 (decide_eq_true z)
        refine ⟨_, rfl, q0 ?_⟩
        rw [tm, hn]
        exact if_neg (by omega)
end
end
end Pk
namespace Pk
open L2 PyProof.Rows PySem.Spec PySem
abbrev TAt (H : Hp) (r : Addr) (t : Term) : Prop := H r = some (.tup [.int t.1, nameV t.2])
def spSum (K : PySem.W.Frag) : Sp := fun vs H Q _ => ∃ (a : Addr) (ws : List Str), vs = [.ref a] ∧ SqL K H a (ws.map V.str) ∧ ws.length ≤ 1000000 ∧ (∀ w ∈ ws, w.length ≤ 1000000) ∧ (sumM ws = none → ∀ H', Same H H' → Q .non H') ∧
  ∀ ts, sumM ws = some ts → ∀ p refs H', Same H H' → H p = none → H' p = some (.tup (refs.map V.ref)) → Paired (TAt H') refs ts → Q (.ref p) H'
theorem _root_.L2.Same.paired {H H' : Hp} (s : Same H H') {refs : List Addr} {ts : List Term} (h : Paired (TAt H) refs ts) : Paired (TAt H') refs ts := L2.Paired.mapP h fun _ _ e => s _ _ e
structure SumI (K : PySem.W.Frag) (ws : List Str) (H0 : Hp) (fa ta la : Addr) (i : Nat) (refs : List Addr) (found : List Term) (term : List Str) (sign : Int) (H : Hp) : Prop where
  same : Same H0 H
  nf : H0 fa = none
  nt : H0 ta = none
  nl : H0 la = none
  ft : fa ≠ ta
  lf : la ≠ fa
  lt : la ≠ ta
  hf : H fa = some (.lst (refs.map V.ref))
  ht : H ta = some (.lst (term.map V.str))
  hl : H la = some (.lst ((ws ++ [("+" : Str)]).map V.str))
  pr : Paired (TAt H) refs found
  go : sumGo ((ws ++ [("+" : Str)]).drop i) found term sign = sumGo (ws ++ [("+" : Str)]) [] [] 1
  sg : sign = 1 ∨ sign = -1
  tl : ∀ x ∈ term, x.length ≤ 1000000
  t1 : term.length ≤ i
  f1 : refs.length ≤ i
theorem SumI.upT {K ws H0 fa ta la i refs found term sign H} (I : SumI K ws H0 fa ta la i refs found term sign H) {t : Addr} {xs : List V} (h : H t = none) : SumI K ws H0 fa ta la i refs found term sign (upd H t (.tup xs)) :=
  have s := same_new (o := .tup xs) h
  ⟨I.same.trans s, I.nf, I.nt, I.nl, I.ft, I.lf, I.lt, s _ _ I.hf, s _ _ I.ht, s _ _ I.hl, s.paired I.pr, I.go, I.sg, I.tl, I.t1, I.f1⟩
theorem paired_app {α β : Type} {F : α → β → Prop} : ∀ {a c : List α} {b d : List β}, Paired F a b → Paired F c d → Paired F (a ++ c) (b ++ d)
  | _, _, _, _, .nil, y => y
  | _, _, _, _, .cons h r, y => .cons h (paired_app r y)
theorem paired_len {α β : Type} {F : α → β → Prop} : ∀ {a : List α} {b : List β}, Paired F a b → b.length = a.length
  | _, _, .nil => rfl
  | _, _, .cons _ r => congrArg Nat.succ (paired_len r)
theorem paired_at {α β : Type} {F : α → β → Prop} : ∀ {a : List α} {b : List β} {i : Nat} {x : α}, Paired F a b → a[i]? = some x → ∃ y, b[i]? = some y ∧ F x y
  | _, _, _, _, .nil, e => (by simp at e)
  | _, _, 0, _, .cons h _, e => by
    cases e
    exact ⟨_, rfl, h⟩
  | _, _, i + 1, _, .cons _ r, e => paired_at (i := i) r e
theorem ref_item {ws : List Addr} {i : Nat} {y : V} (h : (ws.map V.ref)[i]? = some y) : ∃ z, ws[i]? = some z ∧ y = .ref z := by
  rw [List.getElem?_map] at h
  cases e : ws[i]? with
  | none => (rw [e] at h; cases h)
  | some z => rw [e] at h; exact ⟨z, rfl, (Option.some.inj h).symm⟩
theorem namesT_app (a b : List Term) : namesT (a ++ b) = namesT a ++ namesT b := List.filterMap_append ..
theorem namesT_len (a : List Term) : (namesT a).length ≤ a.length := List.length_filterMap_le ..
theorem put_addS (ks : List Str) (x : Str) : putK (ks.map fun s => ((Sum.inr s : Key), V.bl true)) (.inr x) (.bl true) = (addS ks x).map fun s => ((Sum.inr s : Key), V.bl true) := by
  have a : ((ks.map fun s => ((Sum.inr s : Key), V.bl true)).any fun kv => decide (kv.1 = Sum.inr x)) = decide (x ∈ ks) := by
    rw [List.any_map]
    induction ks with
    | nil => rfl
    | cons k r ih =>
      rw [List.any_cons, ih]
      by_cases h : k = x
      · subst h
        simp
      · have h2 : ¬ x = k := fun z => h z.symm
        simp [h, h2]
  unfold putK addS
  rw [a]
  by_cases h : x ∈ ks
  · rw [if_pos (decide_eq_true h), if_pos h, List.map_map]
    refine List.map_congr_left fun s _ => ?_
    show (if (Sum.inr s : Key) = Sum.inr x then ((Sum.inr s : Key), V.bl true) else ((Sum.inr s : Key), V.bl true)) = _
    split <;> rfl
  · rw [if_neg (by simpa using h), if_neg h, List.map_append]
    rfl
theorem str_item {ws : List Str} {i : Nat} {y : V} (h : (ws.map V.str)[i]? = some y) : ∃ z, ws[i]? = some z ∧ y = .str z := by
  rw [List.getElem?_map] at h
  cases e : ws[i]? with
  | none => (rw [e] at h; cases h)
  | some z => rw [e] at h; exact ⟨z, rfl, (Option.some.inj h).symm⟩
theorem drop_item {ws : List Str} {i : Nat} {z : Str} (h : ws[i]? = some z) : ws.drop i = z :: ws.drop (i + 1) := by
  obtain ⟨hlt, e⟩ := List.getElem?_eq_some_iff.mp h
  rw [List.drop_eq_getElem_cons hlt, e]
theorem SumI.apT {K ws H0 fa ta la i refs found term sign H} (I : SumI K ws H0 fa ta la i refs found term sign H) {x : Str} (hx : (ws ++ [("+" : Str)])[i]? = some x) (hl : x.length ≤ 1000000) (n1 : ¬ (x = "+" ∨ x = "-")) :
    SumI K ws H0 fa ta la (i + 1) refs found (term ++ [x]) sign (upd H ta (.lst (term.map V.str ++ [.str x]))) := by
  have st : ∀ b o, b ≠ ta → H b = some o → upd H ta (.lst (term.map V.str ++ [.str x])) b = some o := fun b o n e => by rw [upd_ne n]; exact e
  have sm : Same H0 (upd H ta (.lst (term.map V.str ++ [.str x]))) := fun b o e => st b o (fun z => by
    rw [z, I.nt] at e
    cases e) (I.same b o e)
  have pr : Paired (TAt (upd H ta (.lst (term.map V.str ++ [.str x])))) refs found := L2.Paired.mapP I.pr fun r t e => st _ _ (ne_of e I.ht (by
    intro z
    cases z)) e
  refine ⟨sm, I.nf, I.nt, I.nl, I.ft, I.lf, I.lt, st _ _ I.ft I.hf, ?_, st _ _ I.lt I.hl, pr, ?_, I.sg, fun y hy => ?_, ?_, Nat.le_succ_of_le I.f1⟩
  · rw [upd_same, List.map_append]
    rfl
  · rw [← I.go, drop_item hx]
    show _ = sumGo _ _ _ _
    rw [sumGo, if_neg n1]
  · rcases List.mem_append.mp hy with y' | y'
    · exact I.tl y y'
    · rw [List.mem_singleton.mp y']
      exact hl
  · rw [List.length_append]
    exact Nat.succ_le_succ I.t1
theorem SumI.apF {K ws H0 fa ta la i refs found term sign H} (I : SumI K ws H0 fa ta la i refs found term sign H) {x : Str} (hx : (ws ++ [("+" : Str)])[i]? = some x) (n1 : x = "+" ∨ x = "-") {n : Nat} {f : Option Str} (ht : termM term = some (n, f)) {p tb : Addr}
    (hp : H p = some (.tup [.int (sign * n), nameV f])) (hb : upd H fa (.lst (refs.map V.ref ++ [.ref p])) tb = none) :
    SumI K ws H0 fa tb la (i + 1) (refs ++ [p]) (found ++ [(sign * n, f)]) [] (if x = "+" then 1 else -1) (upd (upd H fa (.lst (refs.map V.ref ++ [.ref p]))) tb (.lst [])) := by
  have st : ∀ b o, b ≠ fa → H b = some o → upd (upd H fa (.lst (refs.map V.ref ++ [.ref p]))) tb (.lst []) b = some o := fun b o n e => same_new hb _ _ (by rw [upd_ne n]; exact e)
  have bf : fa ≠ tb := fun z => by
    rw [← z, upd_same] at hb
    cases hb
  have sm : Same H0 (upd (upd H fa (.lst (refs.map V.ref ++ [.ref p]))) tb (.lst [])) := fun b o e => st b o (fun z => by
    rw [z, I.nf] at e
    cases e) (I.same b o e)
  refine ⟨sm, I.nf, ?_, I.nl, bf, I.lf, ?_, ?_, upd_same, st _ _ I.lf I.hl, ?_, ?_, ?_, fun _ h => (by cases h), Nat.zero_le _, ?_⟩
  · cases e : H0 tb with
    | none => rfl
    | some o =>
      have q := I.same _ _ e
      rw [upd_ne (Ne.symm bf), q] at hb
      cases hb
  · intro z
    have q := I.hl
    rw [z] at q
    rw [upd_ne (Ne.symm bf), q] at hb
    cases hb
  · rw [upd_ne bf, upd_same, List.map_append]
    rfl
  · have old : Paired (TAt (upd (upd H fa (.lst (refs.map V.ref ++ [.ref p]))) tb (.lst []))) refs found := L2.Paired.mapP I.pr fun r t e => st _ _ (ne_of e I.hf (by
      intro z
      cases z)) e
    have new : Paired (TAt (upd (upd H fa (.lst (refs.map V.ref ++ [.ref p]))) tb (.lst []))) [p] [(sign * (n : Int), f)] := .cons (st _ _ (ne_of hp I.hf (by intro z; cases z)) hp) .nil
    exact paired_app old new
  · rw [← I.go, drop_item hx]
    show _ = sumGo _ _ _ _
    rw [sumGo, if_pos n1, ht]
  · split
    · exact .inl rfl
    · exact .inr rfl
  · rw [List.length_append]
    exact Nat.succ_le_succ I.f1
theorem SumI.no {K ws H0 fa ta la i refs found term sign H} (I : SumI K ws H0 fa ta la i refs found term sign H) {x : Str} (hx : (ws ++ [("+" : Str)])[i]? = some x) (n1 : x = "+" ∨ x = "-") (ht : termM term = none) : sumM ws = none := by
  have q := I.go
  rw [drop_item hx, sumGo, if_pos n1, ht] at q
  unfold sumM
  rw [← q]
section
variable {K : PySem.W.Frag} {P : Program} {w : World} {base : Heap} {mg : Str → Option Value}
theorem sc_sum_of : FnScope ["words", "found", "term", "sign", "word", "pair", "names", "factor", "name"] ["words"] (defScope sSumOf) := ⟨rfl, rfl, rfl, by decide +kernel, rfl, by decide +kernel, by decide +kernel⟩
theorem ok_sum_of {f fT : Addr} {fd fdT : FuncData} (F : FunD K "sum_of" "sum_of" (defArgs sSumOf) (defBody sSumOf) (defScope sSumOf) [] [] f fd) (FT : FunD K "term_of" "term_of" (defArgs sTerm) (defBody sTerm) (defScope sTerm) [] [] fT fdT)
    (GT : FnOk P w K mg base CX0 2 fT fdT ["words"] (spTerm K)) (gT : mg "term_of" = some (.ref fT)) (mLen : mg "len" = none) (mTuple : mg "tuple" = none) (gMT : ∃ u, mg "MOST_TERMS" = some u ∧ RelV (.int 4) u) : FnOk P w K mg base CX0 3 f fd ["words"] (spSum K) := by
  have bT : Binds K fdT ["words"] [] := FT.bindsN fun _ _ _ _ _ _ us hl => match us, hl with | [_], _ => rfl
  refine F.ok sc_sum_of (fun vs H Q E h => ?_) (fun cdv A outer s H vs Q E hr h => ?_)
  · obtain ⟨a, ws, rfl, _⟩ := h
    rfl
  · obtain ⟨a, ws, rfl, hS, hl, hw, q0, q1⟩ := h
    refine ⟨_, PSs.nox (pss_cons (by exact (ps_par3 (i := 1) (j := 2) (l := 3) rfl sc_sum_of.nd rfl rfl rfl (by decide) (by decide) (by decide) rfl rfl rfl (pa_cons (pe_lst pa_nil) (pa_cons (pe_lst pa_nil) (pa_cons pe_int pa_nil))) rfl)) (pss_cons (by exact (ps_for PassesOwn.never rfl (pi_list (pe_lst (StX.pa_star (pv 0) (pa_cons pe_str pa_nil)))) (pg_name (i := 4) sc_sum_of.nd rfl (Or.inl rfl)) (pss_cons (by exact (ps_if (pt_cmpR (op_notInK K rfl) (pv 4) (pe_tup (pa_cons pe_str (pa_cons pe_str pa_nil))) rfl) (pss_cons (by exact (ps_expr (pe_bm PySem.F.plainAttrs_list PySem.F.slot_list_append PySem.F.type_list_append mt_append (pv 2) (pa_cons (pv 4) pa_nil)))) (pss_one (by exact ps_continue))) pss_nil)) (pss_cons (by exact (ps_set (i := 5) sc_sum_of.nd rfl (Or.inl rfl) (pe_call GT (hr.mono (by decide)) rfl gT FT.kp bT .nil pass0 (pa_cons (pv 2) pa_nil)))) (pss_cons (by exact (ps_if (pt_cmp (pc_isN (pv 5))) (pss_one (by exact (ps_ret pe_non))) pss_nil)) (pss_cons (by exact (ps_expr (pe_bm PySem.F.plainAttrs_list PySem.F.slot_list_append PySem.F.type_list_append mt_append (pv 1) (pa_cons (pe_tup (pa_cons (pe_op op_mulW (pv 3) (pe_ix (ix_tupK K rfl) (pv 5) pe_int (fun _ _ => rfl))) (pa_cons (pe_ix (ix_tupK K rfl) (pv 5) pe_int (fun _ _ => rfl)) pa_nil))) pa_nil)))) (pss_one (by exact (ps_par (i := 2) (j := 3) rfl sc_sum_of.nd rfl rfl (by decide) rfl rfl (pa_cons (pe_lst pa_nil) (pa_cons (pe_ifExp (pt_cmpR op_eq (pv 4) pe_str (nomark _)) pe_int (pe_un un_neg pe_int)) pa_nil)) rfl))))))))) (pss_cons (by exact (ps_setLc (i := 6) (own := [("factor", 7), ("name", 8)]) rfl sc_sum_of.nd rfl rfl (sw_true rfl rfl rfl (by decide +kernel)) (pi_list (pv 1)) (blkOk_by (N := ["words", "found", "term", "sign", "word", "pair", "names", "factor", "name"]) (sc := defScope sSumOf) (by decide +kernel)) (fun _ _ _ _ _ => pg_tupK (n := 2) K rfl rfl (pgs_cons (pg_name (i := 7) sc_sum_of.nd rfl (Or.inl rfl)) (pgs_cons (pg_name (i := 8) sc_sum_of.nd rfl (Or.inl rfl)) pgs_nil))) (fun _ _ _ _ _ => (pts_one (pt_cmp (pc_notN (pv 8))))) (fun _ _ _ _ _ => (pv 8)))) (pss_one (by exact (ps_ret (pe_ifExp (PW.pt (pw_and (pt_cmpR op_le (pe_callB call_len_seq (by rfl) mLen PySem.boot_len (pa_cons (pv 1) pa_nil)) (C8.pe_gc (v := .int 4) rfl gMT) (nomark _)) (pw_and1 (pt_cmpR op_eq (pe_callB call_lenD (by rfl) mLen PySem.boot_len (pa_cons (pe_dc (own := [("name", 8)]) (g := gName 8) (tt := tYes) rfl sc_sum_of.nd (pi_list (pv 6)) (blkOk_by (N := ["words", "found", "term", "sign", "word", "pair", "names", "factor", "name"]) (sc := defScope sSumOf) (by decide +kernel)) (fun _ _ _ _ _ => pg_name (i := 8) sc_sum_of.nd rfl (Or.inl rfl)) (fun _ _ _ _ _ => pts_nil) (fun _ _ _ _ _ => (pv 8)) (fun _ _ _ _ _ => pe_bl)) pa_nil)) (pe_callB call_len_seq (by rfl) mLen PySem.boot_len (pa_cons (pv 6) pa_nil)) (nomark _))))) (pe_callTy call_tuple_of (by rfl) mTuple (by decide +kernel) (pa_cons (pv 1) pa_nil)) pe_non))))))), ?_⟩
    refine ⟨by show 0 ≤ sizeLine; decide, fun fa hfa => ⟨by show 0 ≤ sizeLine; decide, fun ta hta => ?_⟩⟩
    refine ⟨_, _, _, rfl, ?_⟩
    have s1 : Same H _ := same_new (o := .lst []) hfa
    have s2 : Same H _ := s1.trans (same_new (o := .lst []) hta)
    refine ⟨_, rfl, a, _, rfl, .inr (s2.stands.l hS), by show (ws.map V.str ++ [V.str "+"]).length ≤ sizeLine; rw [List.length_append, List.length_map]; exact Nat.le_trans (Nat.succ_le_succ hl) (by decide), fun la hla => ?_⟩
    have lenw : ((ws ++ [("+" : Str)]).map V.str).length ≤ 1000001 := by
      rw [List.length_map, List.length_append]
      exact Nat.succ_le_succ hl
    have eqL : ws.map V.str ++ [V.str "+"] = (ws ++ [("+" : Str)]).map V.str := by
      rw [List.map_append]
      rfl
    rw [eqL]
    refine ⟨la, rfl, ⟨_, SqL.of upd_same⟩, for_list (K := K) (a := la) (xs := (ws ++ [("+" : Str)]).map V.str) (fun i σ H' => ∃ (refs : List Addr) (found : List Term) (term : List Str) (sign : Int) (ta : Addr) (v4 v5 v6 v7 v8 : Option V), σ = [some (.ref a), some (.ref fa), some (.ref ta), some (.int sign), v4, v5, v6, v7, v8] ∧ SumI K ws H fa ta la i refs found term sign H') ?_ ?_ ?_ ?_⟩
    · have tf : ta ≠ fa := fun z => by
        rw [z, upd_same] at hta
        cases hta
      have lf : la ≠ fa := fun z => by
        rw [z, upd_ne (Ne.symm tf), upd_same] at hla
        cases hla
      have lt : la ≠ ta := fun z => by
        rw [z, upd_same] at hla
        cases hla
      have nt : H ta = none := by
        rw [upd_ne tf] at hta
        exact hta
      have nl : H la = none := by
        rw [upd_ne lt, upd_ne lf] at hla
        exact hla
      refine ⟨[], [], [], 1, ta, none, none, none, none, none, rfl, s2.step hla, hfa, nt, nl, Ne.symm tf, lf, lt, ?_, ?_, upd_same, .nil, rfl, .inl rfl, fun _ h => (by cases h), Nat.zero_le _, Nat.zero_le _⟩
      · rw [upd_ne (Ne.symm lf), upd_ne (Ne.symm tf)]
        exact upd_same
      · rw [upd_ne (Ne.symm lt)]
        exact upd_same
    · rintro i σ H' _ ⟨_, _, _, _, _, _, _, _, _, _, _, I⟩
      exact SqL.of I.hl
    · rintro i y σ H1 hi ⟨refs, found, term, sign, tc, v4, v5, v6, v7, v8, rfl, I0⟩
      obtain ⟨x, hx, rfl⟩ := str_item hi
      have hil : i ≤ 1000000 := by
        obtain ⟨q, _⟩ := List.getElem?_eq_some_iff.mp hi
        omega
      have xl : x.length ≤ 1000000 := by
        have m := List.mem_of_getElem? hx
        rcases List.mem_append.mp m with m | m
        · exact hw x m
        · rw [List.mem_singleton.mp m]
          decide
      refine ⟨_, rfl, by show 2 ≤ sizeLine; decide, fun tt htt => ?_⟩
      have I := I0.upT (xs := [V.str "+", V.str "-"]) htt
      refine ⟨tt, _, rfl, .inr (SqT.of upd_same), rfl, rfl, _, rfl, ite2 (fun e => ?_) fun e => ?_⟩
      · have n1 : ¬ (x = "+" ∨ x = "-") := fun z => by
          have y : (!inV (V.str x) ([("+" : Str), ("-" : Str)].map V.str)) = true := e
          rw [inV_strs, decide_eq_true (by rcases z with z | z <;> simp [z])] at y
          cases y
        refine ⟨_, rfl, .inl ⟨rfl, _, SqL.of I.ht⟩, _, rfl, tc, _, .str x, rfl, rfl, I.ht, ?_, ?_⟩
        · rw [List.length_map]
          exact Nat.lt_of_le_of_lt I.t1 (Nat.lt_of_le_of_lt hil (by decide))
        · exact ⟨refs, found, _, sign, tc, _, _, _, _, _, rfl, I.apT hx xl n1⟩
      · have n1 : x = "+" ∨ x = "-" := Classical.byContradiction fun z => e (show (!inV (V.str x) ([("+" : Str), ("-" : Str)].map V.str)) = true by
          rw [inV_strs, decide_eq_false (by simpa using z)]
          rfl)
        refine ⟨_, rfl, tc, term, rfl, SqL.of I.ht, I.tl, fun e0 => ?_, fun n g e1 t ht => ?_⟩
        · exact ⟨_, rfl, _, rfl, iteT (q0 (I.no hx n1 e0) _ I.same)⟩
        · refine ⟨_, rfl, _, rfl, iteF ?_⟩
          have J := I.upT (xs := [.int (n : Nat), nameV g]) ht
          have nlt := termM_lt e1
          have mb : CMulW sign (n : Int) := wide_mul (a := 2) (b := 200) (by rcases I.sg with z | z <;> rw [z] <;> decide) (Nat.lt_trans nlt (by decide)) (by decide) (by decide) (by decide)
          refine ⟨_, rfl, .inl ⟨rfl, _, SqL.of J.hf⟩, _, rfl, _, rfl, t, _, _, .int (n : Nat), rfl, rfl, SqT.of upd_same, rfl, _, _, rfl, rfl, mb, ?_⟩
          refine ⟨_, rfl, t, _, _, nameV g, rfl, rfl, SqT.of upd_same, rfl, by show 2 ≤ sizeLine; decide, fun p hp => ?_⟩
          have L := J.upT (xs := [.int (sign * (n : Nat)), nameV g]) hp
          refine ⟨fa, _, .ref p, rfl, rfl, L.hf, ?_, ?_⟩
          · rw [List.length_map]
            exact Nat.lt_of_le_of_lt L.f1 (Nat.lt_of_le_of_lt hil (by decide))
          refine ⟨by show 0 ≤ sizeLine; decide, fun tb htb => ?_⟩
          have fin := L.apF hx n1 e1 upd_same htb
          refine ⟨_, rfl, rfl, _, rfl, ite2 (fun e2 => ?_) fun e2 => ?_⟩
          · have e3 : x = "+" := V.str.inj (of_decide_eq_true e2)
            rw [if_pos e3] at fin
            exact ⟨_, _, rfl, _, _, _, 1, tb, _, _, _, _, _, rfl, fin⟩
          · have e3 : ¬ x = "+" := fun z => e2 (decide_eq_true (by rw [z]))
            rw [if_neg e3] at fin
            exact ⟨_, rfl, _, _, rfl, _, _, _, -1, tb, _, _, _, _, _, rfl, fin⟩
    · rintro σ H1 ⟨refs, found, term, sign, tc, v4, v5, v6, v7, v8, rfl, I⟩
      have go := I.go
      rw [List.drop_eq_nil_of_le (by rw [List.length_map]; exact Nat.le_refl _), sumGo] at go
      have lr : refs.length ≤ 1000001 := by have := I.f1; omega
      have lf : found.length = refs.length := paired_len I.pr
      refine ⟨_, rfl, fa, rfl, ⟨_, SqL.of I.hf⟩, fun D hD => lc_list (K := K) (a := fa) (xs := refs.map V.ref) (fun i H' => Same H1 H' ∧ H' D = some (.lst ((namesT (found.take i)).map V.str))) ⟨same_new hD, by rw [upd_same]; rfl⟩ (fun i H' _ h => SqL.of (h.1 _ _ I.hf)) ?_ ?_⟩
      · intro i y H' hi hp
        obtain ⟨r, hr1, rfl⟩ := ref_item hi
        obtain ⟨g, hg, hg2⟩ := paired_at I.pr hr1
        have tk : found.take (i + 1) = found.take i ++ [g] := by
          rw [List.take_succ, hg]
          rfl
        have st : ∀ acc, Same H1 (upd H' D (.lst acc)) := fun acc b o e => by
          rw [upd_ne (fun z => by rw [z, hD] at e; cases e)]
          exact hp.1 b o e
        refine ⟨r, [.int g.1, nameV g.2], rfl, SqT.of (hp.1 _ _ hg2), rfl, _, _, rfl, _, _, rfl, rfl, rfl, ?_⟩
        obtain ⟨g1, g2⟩ := g
        cases g2 with
        | none =>
          refine ⟨_, rfl, _, rfl, ?_⟩
          refine ⟨hp.1, ?_⟩
          rw [tk, namesT_app, show namesT [((g1, none) : Term)] = [] from rfl, List.append_nil]
          exact hp.2
        | some nm =>
          refine ⟨_, rfl, _, rfl, ?_⟩
          refine ⟨_, rfl, _, hp.2, ?_, st _, ?_⟩
          · rw [List.length_map]
            exact Nat.lt_of_le_of_lt (Nat.le_trans (namesT_len _) (by rw [List.length_take]; omega)) (show 1000001 < sizeLine by decide)
          · rw [upd_same, tk, namesT_app, List.map_append]
            rfl
      · intro H2 hp
        have e1 : found.take (refs.map V.ref).length = found := by
          rw [List.length_map, ← lf]
          exact List.take_length ..
        rw [e1] at hp
        obtain ⟨sm, hn⟩ := hp
        have sF := I.same.trans sm
        have bad : sumOk found = false → sumM ws = none := fun z => by
          unfold sumM
          rw [← go]
          show (if sumOk found = true then some found else none) = none
          rw [z]
          rfl
        refine ⟨_, rfl, fa, _, rfl, .inl (SqL.of (sm _ _ I.hf)), _, _, rfl, rfl, _, rfl, ite2 (fun e4 => ?_) fun e4 => ?_⟩
        · have k4 : ((refs.map V.ref).length : Int) ≤ 4 := of_decide_eq_true e4
          rw [List.length_map] at k4
          refine ⟨_, rfl, D, rfl, ⟨_, SqL.of hn⟩, fun d hd => dc_list (K := K) (a := D) (xs := (namesT found).map V.str) (fun i H' => Same H2 H' ∧ H' d = some (.dK ((((namesT found).take i).foldl addS []).map fun s => ((Sum.inr s : Key), V.bl true)))) ⟨same_new hd, by rw [upd_same]; rfl⟩ (fun i H' _ h => SqL.of (h.1 _ _ hn)) ?_ ?_⟩
          · intro i y H' hi hp
            obtain ⟨x, hx, rfl⟩ := str_item hi
            have tk : (namesT found).take (i + 1) = (namesT found).take i ++ [x] := by
              rw [List.take_succ, hx]
              rfl
            refine ⟨rfl, ?_⟩
            refine ⟨_, rfl, _, .inr x, rfl, hp.2, ?_, fun b o e => ?_, ?_⟩
            · rw [List.length_map]
              have q := (addS_len ((namesT found).take i) []).1
              rw [List.length_nil, Nat.zero_add] at q
              have q2 : ((namesT found).take i).length ≤ 1000001 := by
                rw [List.length_take]
                exact Nat.le_trans (Nat.min_le_right _ _) (Nat.le_trans (namesT_len _) (by omega))
              exact Nat.lt_of_le_of_lt (Nat.le_trans q q2) (by decide)
            · rw [upd_ne (fun z => by rw [z, hd] at e; cases e)]
              exact hp.1 b o e
            · rw [upd_same, tk, List.foldl_append]
              exact congrArg (fun z => some (HO.dK z)) (put_addS _ x)
          · intro H3 hp
            have e2 : (namesT found).take ((namesT found).map V.str).length = namesT found := by
              rw [List.length_map]
              exact List.take_length ..
            rw [e2] at hp
            obtain ⟨sm3, hd3⟩ := hp
            refine ⟨d, _, rfl, hd3, _, rfl, D, _, rfl, .inl (SqL.of (sm3 _ _ hn)), rfl, _, rfl, ite2 (fun e5 => ?_) fun e5 => ?_⟩
            · have k5 := V.int.inj (of_decide_eq_true e5)
              rw [List.length_map, List.length_map] at k5
              have nd : (namesT found).Nodup := (nodup_len _).mp (by omega)
              have ok : sumOk found = true := by
                unfold sumOk
                rw [decide_eq_true nd, decide_eq_true (show found.length ≤ 4 by omega)]
                rfl
              have r : sumM ws = some found := by
                unfold sumM
                rw [← go]
                exact if_pos ok
              refine ⟨_, rfl, fa, _, rfl, .inl ⟨SqL.of (sm3 _ _ (sm _ _ I.hf)), fun l hl3 => ?_⟩⟩
              have sL := (sF.trans sm3).step (o := .tup (refs.map V.ref)) hl3
              exact q1 found r l refs _ sL ((sF.trans sm3).back hl3) upd_same ((sm.trans (sm3.step hl3)).paired I.pr)
            · refine q0 (bad ?_) _ (sF.trans sm3)
              unfold sumOk
              have nn : ¬ (namesT found).Nodup := fun z => e5 (decide_eq_true (by rw [List.length_map, List.length_map, (nodup_len _).mpr z]))
              rw [decide_eq_false nn, Bool.and_false]
        · refine q0 (bad ?_) _ sF
          unfold sumOk
          rw [decide_eq_false (fun z => e4 (decide_eq_true (by rw [List.length_map]; omega))), Bool.false_and]
end
end Pk
namespace Pk
open L2 PyProof.Rows PySem.Spec PySem
/-! ### from the back -/
theorem atI_back {α : Type} {xs : List α} {k : Nat} {v : α} (h1 : 1 ≤ k) (h2 : k ≤ xs.length) (h : xs[xs.length - k]? = some v) : atI xs (-(k : Int)) = some v := by
  have e : ixN xs.length (-(k : Int)) = some (xs.length - k) := by
    unfold ixN
    rw [if_neg (by omega), if_pos (by omega)]
    congr 1
    omega
  unfold atI
  rw [e]
  exact h
theorem cut_back {xs : List V} {k : Nat} (h1 : 1 ≤ k) : cutV xs none (some (-(k : Int))) = xs.take (xs.length - k) := by
  have e : HT.sIx xs.length xs.length (some (-(k : Int))) = xs.length - k := by
    show (if (-(k : Int)) < 0 then ((-(k : Int)) + (xs.length : Int)).toNat else min (-(k : Int)).toNat xs.length) = xs.length - k
    rw [if_pos (by omega)]
    omega
  unfold cutV
  rw [e, HT.sIx_none, List.drop_zero, Nat.sub_zero]
theorem two_back {ws : List Str} (h : 2 < ws.length) : ∃ pre y z, ws = pre ++ [y, z] ∧ 0 < pre.length := by
  refine ⟨ws.take (ws.length - 2), ws[ws.length - 2]'(by omega), ws[ws.length - 1]'(by omega), ?_, by rw [List.length_take]; omega⟩
  have e1 : ws.drop (ws.length - 2) = [ws[ws.length - 2]'(by omega), ws[ws.length - 1]'(by omega)] := by
    rw [List.drop_eq_getElem_cons (by omega)]
    congr 1
    have e2 : ws.length - 2 + 1 = ws.length - 1 := by omega
    rw [e2, List.drop_eq_getElem_cons (by omega), List.drop_eq_nil_of_le (by omega)]
  rw [← e1, List.take_append_drop]
theorem divM_two (pre : List Str) (y z : Str) (most : Nat) (h : 0 < pre.length) : divM (pre ++ [y, z]) most = if y = "//" then (match sumM pre, numM z with
    | some ts, some m => if 2 ≤ m ∧ m ≤ most then some (ts, some m) else none
    | _, _ => none) else (sumM (pre ++ [y, z])).map fun ts => (ts, none) := by
  have l : (pre ++ [y, z]).length = pre.length + 2 := by simp
  have a : (pre ++ [y, z])[(pre ++ [y, z]).length - 2]? = some y := by
    rw [l, Nat.add_sub_cancel, List.getElem?_append_right (Nat.le_refl _), Nat.sub_self]
    rfl
  have b : (pre ++ [y, z]).take ((pre ++ [y, z]).length - 2) = pre := by
    rw [l, Nat.add_sub_cancel, List.take_left]
  have c : (pre ++ [y, z]).getD ((pre ++ [y, z]).length - 1) "" = z := by
    rw [List.getD_eq_getElem?_getD, l, show pre.length + 2 - 1 = pre.length + 1 by omega, List.getElem?_append_right (by omega), show pre.length + 1 - pre.length = 1 by omega]
    rfl
  unfold divM
  rw [a, b, c]
  by_cases hy : y = "//"
  · rw [if_pos ⟨by omega, by rw [hy]⟩, if_pos hy]
    all_goals (cases sumM pre <;> cases numM z <;> rfl)
  · rw [if_neg (fun q => hy (Option.some.inj q.2)), if_neg hy]
theorem divM_few {ws : List Str} {most : Nat} (h : ¬ 2 < ws.length) : divM ws most = (sumM ws).map fun ts => (ts, none) := by
  unfold divM
  rw [if_neg fun q => h q.1]
def ShareAt (H : Hp) (p : Addr) (x : List Term × Option Nat) : Prop := ∃ q refs, H p = some (.tup [.ref q, natV x.2]) ∧ H q = some (.tup (refs.map V.ref)) ∧ Paired (TAt H) refs x.1
theorem ShareAt.same {H H' : Hp} {p : Addr} {x : List Term × Option Nat} (h : ShareAt H p x) (s : Same H H') : ShareAt H' p x := by
  obtain ⟨q, refs, h1, h2, h3⟩ := h
  exact ⟨q, refs, s _ _ h1, s _ _ h2, s.paired h3⟩
def spDiv (K : PySem.W.Frag) : Sp := fun vs H Q _ => ∃ (a : Addr) (ws : List Str) (most : Nat), vs = [.ref a, .int most] ∧ SqL K H a (ws.map V.str) ∧ ws.length ≤ 1000000 ∧ (∀ w ∈ ws, w.length ≤ 1000000) ∧ (divM ws most = none → ∀ H', Same H H' → Q .non H') ∧
  ∀ x, divM ws most = some x → ∀ p H', Same H H' → H p = none → ShareAt H' p x → Q (.ref p) H'
section
variable {K : PySem.W.Frag} {P : Program} {w : World} {base : Heap} {mg : Str → Option Value}
theorem sc_divided : FnScope ["words", "most", "many", "found"] ["words", "most"] (defScope sDiv) := ⟨rfl, rfl, rfl, by decide +kernel, rfl, by decide +kernel, by decide +kernel⟩
theorem ok_divided {f fN fS : Addr} {fd fdN fdS : FuncData} (F : FunD K "divided" "divided" (defArgs sDiv) (defBody sDiv) (defScope sDiv) [] [] f fd) (FN : FunD K "number_of" "number_of" (defArgs sNum) (defBody sNum) (defScope sNum) [] [] fN fdN)
    (FS : FunD K "sum_of" "sum_of" (defArgs sSumOf) (defBody sSumOf) (defScope sSumOf) [] [] fS fdS)
    (GN : FnOk P w K mg base CX0 1 fN fdN ["word"] spNum) (GS : FnOk P w K mg base CX0 3 fS fdS ["words"] (spSum K)) (gN : mg "number_of" = some (.ref fN)) (gS : mg "sum_of" = some (.ref fS)) (mLen : mg "len" = none) : FnOk P w K mg base CX0 4 f fd ["words", "most"] (spDiv K) := by
  have bN : Binds K fdN ["word"] [] := FN.bindsN fun _ _ _ _ _ _ us hl => match us, hl with | [_], _ => rfl
  have bS : Binds K fdS ["words"] [] := FS.bindsN fun _ _ _ _ _ _ us hl => match us, hl with | [_], _ => rfl
  refine F.ok sc_divided (fun vs H Q E h => ?_) (fun cdv A outer s H vs Q E hr h => ?_)
  · obtain ⟨a, ws, most, rfl, _⟩ := h
    rfl
  · obtain ⟨a, ws, most, rfl, hS, hl, hw, q0, q1⟩ := h
    refine ⟨_, PSs.nox (pss_cons (by exact (ps_if (PW.pt (pw_and (pt_cmpR op_gt (pe_callB call_len_seq (by rfl) mLen PySem.boot_len (pa_cons (pv 0) pa_nil)) pe_int (nomark _)) (pw_and1 (pt_cmpR op_eq (pe_ix (ix_listK K rfl) (pv 0) (pe_un un_neg pe_int) (fun _ _ => rfl)) pe_str (nomark _))))) (pss_cons (by exact (ps_par (i := 2) (j := 3) rfl sc_divided.nd rfl rfl (by decide) rfl rfl (pa_cons (pe_call GN (hr.mono (by decide)) rfl gN FN.kp bN .nil pass0 (pa_cons (pe_ix (ix_listK K rfl) (pv 0) (pe_un un_neg pe_int) (fun _ _ => rfl)) pa_nil)) (pa_cons (pe_call GS hr rfl gS FS.kp bS .nil pass0 (pa_cons (pe_slice (sl_listK K rfl) (pv 0) po_none (po_some (pe_un un_neg pe_int))) pa_nil)) pa_nil)) rfl)) (pss_one (by exact (ps_ret (pe_ifExp (PW.pt (pw_and (pt_cmp (pc_notN (pv 3))) (pw_and (pt_cmp (pc_notN (pv 2))) (pw_and1 (pt_chain op_le op_le pe_int (pv 2) (pv 1)))))) (pe_tup (pa_cons (pv 3) (pa_cons (pv 2) pa_nil))) pe_non))))) pss_nil)) (pss_cons (by exact (ps_set (i := 3) sc_divided.nd rfl (Or.inl rfl) (pe_call GS hr rfl gS FS.kp bS .nil pass0 (pa_cons (pv 0) pa_nil)))) (pss_one (by exact (ps_ret (pe_ifExp (pt_cmp (pc_notN (pv 3))) (pe_tup (pa_cons (pv 3) (pa_cons pe_non pa_nil))) pe_non)))))), ?_⟩
    have hlen : (ws.map V.str).length = ws.length := List.length_map ..
    have whole : divM ws most = ((sumM ws).map fun ts => (ts, none)) → tSeq (tAsg (tCall (spSum K) [] E0 (tCons (tVar 0) tNil)) (gName 3)) (tRet (tIf (tB (tNotN (tVar 3))) (tTup (tCons (tVar 3) (tCons (tC .non) tNil))) (tC .non))) { nx := fun _ H' => Q .non H', rt := Q } [some (.ref a), some (.int most), none, none] H := by
      intro e
      refine ⟨_, rfl, a, ws, rfl, hS, hl, hw, fun e0 H1 s1 => ?_, fun ts e1 p refs H1 s1 n1 h1 pr => ?_⟩
      · exact ⟨_, rfl, _, rfl, q0 (by rw [e, e0]; rfl) _ s1⟩
      · refine ⟨_, rfl, _, rfl, ?_⟩
        refine ⟨_, rfl, by show 2 ≤ sizeLine; decide, fun l hl1 => ?_⟩
        have t := same_new (o := .tup [.ref p, .non]) hl1
        exact q1 (ts, none) (by rw [e, e1]; rfl) l _ (s1.trans t) (s1.back hl1) ⟨p, refs, upd_same, t _ _ h1, t.paired pr⟩
    refine ⟨_, rfl, a, _, rfl, .inl hS, _, _, rfl, rfl, _, rfl, ite2 (fun e => ?_) fun e => ?_⟩
    · have g2 : 2 < ws.length := by
        have z := of_decide_eq_true e
        rw [hlen] at z
        omega
      obtain ⟨pre, y, z, rfl, hp⟩ := two_back g2
      have l2 : ((pre ++ [y, z]).map V.str).length = pre.length + 2 := by simp
      have ay : atI ((pre ++ [y, z]).map V.str) (-(2 : Nat)) = some (.str y) := by
        refine atI_back (by decide) (by omega) ?_
        rw [l2, Nat.add_sub_cancel, List.map_append, List.getElem?_append_right (by simp)]
        simp
      have az : atI ((pre ++ [y, z]).map V.str) (-(1 : Nat)) = some (.str z) := by
        refine atI_back (by decide) (by omega) ?_
        rw [l2, List.map_append, List.getElem?_append_right (by simp)]
        simp
      refine ⟨_, rfl, 2, rfl, a, _, -(2 : Nat), .str y, rfl, rfl, hS, ay, rfl, _, rfl, ite2 (fun e2 => ?_) fun e2 => ?_⟩
      · have ey : y = "//" := V.str.inj (of_decide_eq_true e2)
        have dm := divM_two pre y z most hp
        rw [if_pos ey] at dm
        have cutp : cutV ((pre ++ [y, z]).map V.str) none (some (-(2 : Nat))) = pre.map V.str := by
          rw [cut_back (by decide), l2, Nat.add_sub_cancel, List.map_append, List.take_left' (by simp)]
        refine ⟨_, rfl, 1, rfl, a, _, -(1 : Nat), .str z, rfl, rfl, hS, az, z, rfl, hw z (by simp), ?_⟩
        refine ⟨_, rfl, 2, rfl, -(2 : Nat), rfl, a, _, rfl, hS, fun l hl1 => ?_⟩
        rw [cutp]
        have tl := same_new (o := .lst (pre.map V.str)) hl1
        have lp : pre.length ≤ 1000000 := by
          rw [List.length_append] at hl
          omega
        refine ⟨l, pre, rfl, SqL.of upd_same, lp, fun x hx => hw x (List.mem_append_left _ hx), fun e0 H1 s1 => ?_, fun ts e1 p refs H1 s1 n1 h1 pr => ?_⟩
        · exact ⟨_, _, rfl, _, rfl, _, rfl, q0 (by rw [dm, e0]) _ (tl.trans s1)⟩
        · have sH := tl.trans s1
          refine ⟨_, _, rfl, _, rfl, _, rfl, ?_⟩
          rcases hz : numM z with _ | m
          · exact ⟨_, rfl, _, rfl, q0 (by rw [dm, e1, hz]) _ sH⟩
          · refine ⟨_, rfl, _, rfl, ?_⟩
            refine ⟨_, rfl, _, _, rfl, rfl, _, rfl, ite2 (fun e3 => ?_) fun e3 => ?_⟩
            · have k3 : (2 : Int) ≤ (m : Int) := of_decide_eq_true e3
              refine ⟨_, rfl, _, _, rfl, rfl, _, rfl, ite2 (fun e4 => ?_) fun e4 => ?_⟩
              · have k4 : (m : Int) ≤ (most : Int) := of_decide_eq_true e4
                refine ⟨_, rfl, _, rfl, by show 2 ≤ sizeLine; decide, fun l2 hl2 => ?_⟩
                have t2 := same_new (o := .tup [.ref p, .int (m : Nat)]) hl2
                exact q1 (ts, some m) (by rw [dm, e1, hz]; exact if_pos ⟨by omega, by omega⟩) l2 _ (sH.trans t2) (sH.back hl2) ⟨p, refs, upd_same, t2 _ _ h1, t2.paired pr⟩
              · have k4 : ¬ (m : Int) ≤ (most : Int) := fun x => e4 (decide_eq_true x)
                exact q0 (by rw [dm, e1, hz]; exact if_neg (by omega)) _ sH
            · have k3 : ¬ (2 : Int) ≤ (m : Int) := fun x => e3 (decide_eq_true x)
              exact ⟨_, rfl, q0 (by rw [dm, e1, hz]; exact if_neg (by omega)) _ sH⟩
      · have ey : ¬ y = "//" := fun x => e2 (decide_eq_true (by rw [x]))
        refine whole ?_
        rw [divM_two pre y z most hp, if_neg ey]
    · refine whole (divM_few fun x => e (decide_eq_true ?_))
      rw [hlen]
      omega
end
end Pk
namespace Pk
open L2 PyProof.Rows PySem.Spec PySem
abbrev sShare : Stmt := top 46
abbrev sLine : Stmt := top 47
abbrev sShareAt : Stmt := top 48
/-! ### values of which it is known whether they are texts, ints, truths -/
def isStr : V → Bool
  | .str _ => true
  | _ => false
def isInt : V → Bool
  | .int _ => true
  | .bl _ => true
  | _ => false
def isBl : V → Bool
  | .bl _ => true
  | _ => false
structure Kd (K : PySem.W.Frag) (H : Hp) (x : V) (t : Value) : Prop where
  ty0 : ∀ H', Same H H' → TyX K H' x t
  st : PySem.W.kitOne K t (.type "str") = some (isStr x)
  it : PySem.W.kitOne K t (.type "int") = some (isInt x)
  bt : PySem.W.kitOne K t (.type "bool") = some (isBl x)
theorem Kd.ty {K : PySem.W.Frag} {H : Hp} {x : V} {t : Value} (k : Kd K H x t) : TyX K H x t := k.ty0 H (Same.refl H)
theorem Kd.mono {K : PySem.W.Frag} {H H' : Hp} {x : V} {t : Value} (k : Kd K H x t) (s : Same H H') : Kd K H' x t := ⟨fun H2 s2 => k.ty0 H2 (s.trans s2), k.st, k.it, k.bt⟩
theorem Kd.int {K : PySem.W.Frag} {H : Hp} {i : Int} : Kd K H (.int i) (.type "int") := ⟨fun _ _ => .base (.int i), kit_ty (r := false) (by decide +kernel), kit_ty (r := true) (by decide +kernel), kit_ty (r := false) (by decide +kernel)⟩
theorem Kd.bl {K : PySem.W.Frag} {H : Hp} {i : Bool} : Kd K H (.bl i) (.type "bool") := ⟨fun _ _ => .base (.bl i), kit_ty (r := false) (by decide +kernel), kit_ty (r := true) (by decide +kernel), kit_ty (r := true) (by decide +kernel)⟩
theorem Kd.non {K : PySem.W.Frag} {H : Hp} : Kd K H .non (.type "NoneType") := ⟨fun _ _ => .base .non, kit_ty (r := false) (by decide +kernel), kit_ty (r := false) (by decide +kernel), kit_ty (r := false) (by decide +kernel)⟩
theorem Kd.str {K : PySem.W.Frag} {H : Hp} {i : Str} : Kd K H (.str i) (.type "str") := ⟨fun _ _ => .base (.str i), kit_ty (r := true) (by decide +kernel), kit_ty (r := false) (by decide +kernel), kit_ty (r := false) (by decide +kernel)⟩
theorem Kd.lst {K : PySem.W.Frag} {H : Hp} {a : Addr} {xs : List V} (h : H a = some (.lst xs)) : Kd K H (.ref a) (.type "list") := ⟨fun _ s => .base (.lst (s _ _ h)), kit_ty (r := false) (by decide +kernel), kit_ty (r := false) (by decide +kernel), kit_ty (r := false) (by decide +kernel)⟩
theorem Kd.tup {K : PySem.W.Frag} {H : Hp} {a : Addr} {xs : List V} (h : H a = some (.tup xs)) : Kd K H (.ref a) (.type "tuple") := ⟨fun _ s => .base (.tup (s _ _ h)), kit_ty (r := false) (by decide +kernel), kit_ty (r := false) (by decide +kernel), kit_ty (r := false) (by decide +kernel)⟩
def wholeV : V → Bool
  | .int _ => true
  | _ => false
def spWhole (K : PySem.W.Frag) : Sp := fun vs H Q _ => ∃ (x : V) (t : Value), vs = [x] ∧ Kd K H x t ∧ Q (.bl (wholeV x)) H
section
variable {K : PySem.W.Frag} {P : Program} {w : World} {base : Heap} {mg : Str → Option Value}
/-! ### sums, shares as numbers -/
def LineAt (H : Hp) (p : Addr) (l : Line) : Prop := H p = some (.tup [.int l.s, .int l.c, .int (l.d : Nat)])
def spCommon : Sp := fun vs H Q _ => ∃ a b : Nat, vs = [.int a, .int b] ∧ 0 < a ∧ 0 < b ∧ Q (.int (Nat.lcm a b)) H
def spShareAt : Sp := fun vs H Q _ => ∃ (p : Addr) (l : Line) (k : Int), vs = [.ref p, .int k] ∧ LineAt H p l ∧ 0 < l.d ∧ l.d < 2 ^ 400 ∧ l.s.natAbs < 2 ^ 400 ∧ k.natAbs < 2 ^ 400 ∧ Q (.int (l.at_ k)) H
theorem sc_share_at : FnScope ["share", "k"] ["share", "k"] (defScope sShareAt) := ⟨rfl, rfl, rfl, by decide +kernel, rfl, by decide +kernel, by decide +kernel⟩
theorem ok_share_at {f : Addr} {fd : FuncData} (F : FunD K "share_at" "share_at" (defArgs sShareAt) (defBody sShareAt) (defScope sShareAt) [] [] f fd) : FnOk P w K mg base CX0 1 f fd ["share", "k"] spShareAt := by
  refine F.ok sc_share_at (fun vs H Q E h => ?_) (fun cdv A outer s H vs Q E hr h => ?_)
  · obtain ⟨p, l, k, rfl, _⟩ := h
    rfl
  · obtain ⟨p, l, k, rfl, hp, d0, d1, s1, k1, q⟩ := h
    refine ⟨_, PSs.nox (pss_one (by exact (ps_ret (pe_op op_fdivW (pe_op op_add (pe_op op_mulW (pe_ix (ix_tupK K rfl) (pv 0) pe_int (fun _ _ => rfl)) (pv 1)) (pe_ix (ix_tupK K rfl) (pv 0) pe_int (fun _ _ => rfl))) (pe_ix (ix_tupK K rfl) (pv 0) pe_int (fun _ _ => rfl)))))), ?_⟩
    refine ⟨_, rfl, p, _, _, .int l.s, rfl, rfl, SqT.of hp, rfl, _, rfl, _, _, rfl, rfl, wide_mul s1 k1 (by decide) (by decide) (by decide), ?_⟩
    refine ⟨_, rfl, p, _, _, .int l.c, rfl, rfl, SqT.of hp, rfl, _, _, rfl, rfl, ?_⟩
    exact ⟨_, rfl, p, _, _, .int (l.d : Nat), rfl, rfl, SqT.of hp, rfl, _, _, rfl, rfl, wide_div (b := 400) (by omega) (by omega) (by decide) (by decide), q⟩
def leastM (first slope constant : Int) : Option (Int × Option Int) :=
  if slope = 0 then (if 0 ≤ constant then some (first, none) else none) else if 0 < slope then some (if -(constant / slope) > first then -(constant / slope) else first, none) else if first ≤ constant / (-slope) then some (first, some (constant / (-slope))) else none
def intV : Option Int → V
  | some n => .int n
  | none => .non
def OptAt (H : Hp) (v : V) : Option (Int × Option Int) → Prop
  | none => v = .non
  | some z => ∃ p, v = .ref p ∧ H p = some (.tup [.int z.1, intV z.2])
def spLeast : Sp := fun vs H Q _ => ∃ a b c : Int, vs = [.int a, .int b, .int c] ∧ b.natAbs < 2 ^ 400 ∧ ∀ v H', Same H H' → OptAt H' v (leastM a b c) → Q v H'
end
end Pk
namespace Pk
open L2 PyProof.Rows PySem.Spec PySem
def shareV : V → Option (List Term × Option Nat)
  | .str s => shareM s
  | _ => none
def okLen : V → Bool
  | .str s => decide (s.length ≤ 900000)
  | _ => true
/-- one field, one error -/
def Err1 (K : PySem.W.Frag) (x f : Str) (v : V) (H : Hp) (E : XK) : Prop := ∀ d H1, Same H H1 → H1 d = none → E (.ref (He.ga K x)) (some d) (upd H1 d (.xd [(f, v)]))
def spNeed (K : PySem.W.Frag) : Sp := fun vs H Q E => ∃ (x : V) (t : Value), vs = [x] ∧ Kd K H x t ∧ ((∀ k : Int, x = .int k → 1 ≤ k → Q .non H) ∧ ((∀ k : Int, x = .int k → ¬ 1 ≤ k) → Err1 K "BadCapacity" "k" x H E))
def spShare (K : PySem.W.Frag) : Sp := fun vs H Q E => ∃ (x : V) (t : Value), vs = [x] ∧ Kd K H x t ∧ okLen x = true ∧ (shareV x = none → Err1 K "BadSum" "text" x H E) ∧
  ∀ y, shareV x = some y → ∀ p H', Same H H' → H p = none → ShareAt H' p y → Q (.ref p) H'
theorem flat_name (o : Option Str) : flatV (nameV o) = true := by cases o <;> rfl
theorem rfl_name (o : Option Str) : scal (nameV o) (V.str "k") = true := by cases o <;> rfl
theorem inV_k (o : Option Str) : inV (nameV o) [.non, .str "k"] = (decide (o = none) || decide (o = some ("k" : Str))) := by
  cases o with
  | none => rfl
  | some s =>
    have q := inV_strs (x := s) (l := [("k" : Str)])
    have e : inV (nameV (some s)) [.non, .str "k"] = inV (.str s) (([("k" : Str)]).map V.str) := rfl
    rw [e, q]
    by_cases h : s = "k"
    · subst h
      simp
    · simp [h]
theorem any_kOnly (ts : List Term) : (ts.map fun t => !(decide (t.2 = none) || decide (t.2 = some ("k" : Str)))).any id = !(kOnly ts) := by
  unfold kOnly
  induction ts with
  | nil => rfl
  | cons t r ih => rw [List.map_cons, List.any_cons, ih, List.all_cons, Bool.not_and, id]
theorem divM_len {ws : List Str} {most : Nat} {ts : List Term} {m : Option Nat} (h : divM ws most = some (ts, m)) : ts.length ≤ 4 := by
  have s : ∀ {us : List Str} {ts : List Term}, sumM us = some ts → ts.length ≤ 4 := fun {us ts} e => by
    unfold sumM at e
    split at e
    · cases e
    · split at e
      · rename_i ok
        cases e
        unfold sumOk at ok
        exact of_decide_eq_true (Bool.and_eq_true_iff.mp ok).1
      · cases e
  unfold divM at h
  split at h
  · split at h
    · rename_i e _
      split at h
      · cases h
        exact s e
      · cases h
    · cases h
  · cases e : sumM ws with
    | none => (rw [e] at h; cases h)
    | some us =>
      rw [e] at h
      cases h
      exact s e
section
variable {K : PySem.W.Frag} {P : Program} {w : World} {base : Heap} {mg : Str → Option Value}
theorem sc_read_share : FnScope ["text", "found", "factor", "name"] ["text"] (defScope sShare) := ⟨rfl, rfl, rfl, by decide +kernel, rfl, by decide +kernel, by decide +kernel⟩
theorem ok_read_share {f fD : Addr} {fd fdD : FuncData} (F : FunD K "read_share" "read_share" (defArgs sShare) (defBody sShare) (defScope sShare) [] [] f fd) (FD : FunD K "divided" "divided" (defArgs sDiv) (defBody sDiv) (defScope sDiv) [] [] fD fdD)
    (GD : FnOk P w K mg base CX0 4 fD fdD ["words", "most"] (spDiv K)) (gD : mg "divided" = some (.ref fD)) (ER : Errs P K mg) (mIsi : mg "isinstance" = none) (mStr : mg "str" = none) (mAny : mg "any" = none) (gMS : ∃ u, mg "MOST_SHARE" = some u ∧ RelV (.int 6) u) : FnOk P w K mg base (L2.CX P w) 5 f fd ["text"] (spShare K) := by
  have bD : Binds K fdD ["words", "most"] [] := FD.bindsN fun _ _ _ _ _ _ us hl => match us, hl with | [_, _], _ => rfl
  refine F.ok sc_read_share (fun vs H Q E h => ?_) (fun cdv A outer s H vs Q E hr h => ?_)
  · obtain ⟨x, t, rfl, _⟩ := h
    rfl
  · obtain ⟨x, t, rfl, hk, hl, q0, q1⟩ := h
    obtain ⟨fdI, IBadSum⟩ := ER.iBadSum
    refine ⟨_, (pss_cons (by exact (ps_set (i := 1) sc_read_share.nd rfl (Or.inl rfl) (pe_ifExp (pt_val (pe_callB call_isi (by rfl) mIsi PyProof.Rows.boot_isinstance (pa_cons (pv 0) (pa_cons (pe_bltn (v := .ty "str") (by rfl) mStr (by decide +kernel) rfl) pa_nil)))) (pe_call GD hr rfl gD FD.kp bD .nil pass0 (pa_cons (pe_split (pv 0) pe_str) (pa_cons (C8.pe_gc (v := .int 6) rfl gMS) pa_nil))) pe_non))) (pss_cons (by exact (ps_if (PW.pt (pw_or (pt_cmp (pc_isN (pv 1))) (pw_or1 (pt_val (pe_callB (cr_any rfl) (by rfl) mAny PyProof.Rows.boot_any (pa_cons (pe_lc (own := [("factor", 2), ("name", 3)]) (tt := tYes) rfl sc_read_share.nd (pi_tup (pe_ix (ix_tupK K rfl) (pv 1) pe_int (fun _ _ => rfl))) (blkOk_by (N := ["text", "found", "factor", "name"]) (sc := defScope sShare) (by decide +kernel)) (fun _ _ _ _ _ => pg_tupK (n := 2) K rfl rfl (pgs_cons (pg_name (i := 2) sc_read_share.nd rfl (Or.inl rfl)) (pgs_cons (pg_name (i := 3) sc_read_share.nd rfl (Or.inl rfl)) pgs_nil))) (fun _ _ _ _ _ => pts_nil) (fun _ _ _ _ _ => (pe_cmpR (op_notInK K rfl) (pv 3) (pe_tup (pa_cons pe_non (pa_cons pe_str pa_nil))) rfl))) pa_nil)))))) (pss_one (by exact (ps_raise rfl (takes_of rfl rfl rfl rfl) (pmk_sup1 IBadSum.sup (okIBadSum IBadSum ER.mS ER.hP) (hr.mono (by decide)) (bIBadSum IBadSum) pass0 rfl (pv 0))))) pss_nil)) (pss_one (by exact (ps_ret (pv 1)))))), ?_⟩
    refine ⟨_, rfl, x, _, t, _, _, rfl, .ty "str", hk.ty, hk.st, _, rfl, ite2 (fun e => ?_) fun e => ?_⟩
    · obtain ⟨z, rfl⟩ : ∃ z, x = .str z := by
        cases x with
        | str z => exact ⟨z, rfl⟩
        | _ => cases e
      have zl : z.length ≤ 900000 := of_decide_eq_true hl
      obtain ⟨w1, w2⟩ := split_few z
      refine ⟨_, rfl, ⟨_, rfl⟩, z, " ", rfl, rfl, rfl, Nat.le_trans (Nat.add_le_add_right zl 2) (by decide), fun l hl1 => ?_⟩
      have tl := same_new (o := .lst ((Txt.split z " ").map V.str)) hl1
      refine ⟨l, _, 6, rfl, SqL.of upd_same, by omega, fun w hw => Nat.le_trans (w2 w hw) (by omega), fun e0 H1 s1 => ?_, fun y e1 p H1 s1 n1 sa => ?_⟩
      · have sH := tl.trans s1
        refine ⟨_, rfl, _, rfl, iteT ?_⟩
        refine ⟨_, rfl, fun d hd => q0 ?_ d H1 sH hd⟩
        show shareM z = none
        unfold shareM
        rw [e0]
      · have sH := tl.trans s1
        obtain ⟨ts, m⟩ := y
        obtain ⟨qa, refs, h1, h2, pr⟩ := id sa
        have sv : shareV (.str z) = if kOnly ts = true then some (ts, m) else none := by
          show shareM z = _
          unfold shareM
          rw [e1]
        refine ⟨_, rfl, _, rfl, iteF ?_⟩
        refine ⟨_, rfl, p, _, _, .ref qa, rfl, rfl, SqT.of h1, rfl, qa, rfl, ⟨_, SqT.of h2⟩, fun D hD => lc_tup (K := K) (a := qa) (xs := refs.map V.ref) (fun i H' => Same H1 H' ∧ H' D = some (.lst (((ts.take i).map fun t => !(decide (t.2 = none) || decide (t.2 = some ("k" : Str)))).map V.bl))) ⟨same_new hD, by rw [upd_same]; rfl⟩ (fun i H' _ h => SqT.of (h.1 _ _ h2)) ?_ ?_⟩
        · intro i y H' hi hp
          obtain ⟨r, hr1, rfl⟩ := ref_item hi
          obtain ⟨g, hg, hg2⟩ := paired_at pr hr1
          refine ⟨r, _, rfl, SqT.of (hp.1 _ _ hg2), rfl, _, _, rfl, _, _, rfl, rfl, rfl, ?_⟩
          refine ⟨_, rfl, by show 2 ≤ sizeLine; decide, fun t ht => ⟨t, _, rfl, .inr (SqT.of upd_same), flat_name g.2, rfl, _, (same_new ht) _ _ hp.2, ?_, fun b o e => ?_, ?_⟩⟩
          · rw [List.length_map, List.length_map]
            have l1 := divM_len e1
            exact Nat.lt_of_le_of_lt (List.length_take_le' _ _) (Nat.lt_of_le_of_lt l1 (by decide))
          · rw [upd_ne (fun z => by rw [z, hD] at e; cases e)]
            exact same_new ht _ _ (hp.1 b o e)
          · have tk : ts.take (i + 1) = ts.take i ++ [g] := by
              rw [List.take_succ, hg]
              rfl
            have ik : (if true = true then !inV (nameV g.2) [.non, .str "k"] else inV (nameV g.2) [.non, .str "k"]) = !(decide (g.2 = none) || decide (g.2 = some ("k" : Str))) := by
              rw [if_pos rfl, inV_k]
            rw [upd_same, tk, List.map_append, List.map_append, ik]
            rfl
        · intro H2 hp
          have e2 : ts.take (refs.map V.ref).length = ts := by
            rw [List.length_map, ← paired_len pr]
            exact List.take_length ..
          rw [e2] at hp
          obtain ⟨sm, hn⟩ := hp
          refine ⟨D, _, rfl, SqL.of hn, _, rfl, ?_⟩
          rw [any_kOnly]
          cases hk2 : kOnly ts with
          | false => exact ⟨_, rfl, fun d hd => q0 (by rw [sv, hk2]; rfl) d H2 (sH.trans sm) hd⟩
          | true => exact ⟨_, rfl, q1 (ts, m) (by rw [sv, hk2]; rfl) p H2 (sH.trans sm) (tl.free n1) (sa.same sm)⟩
    · refine ⟨_, rfl, _, rfl, iteT ⟨_, rfl, fun d hd => q0 ?_ d H (Same.refl H) hd⟩⟩
      cases x with
      | str z => exact absurd rfl e
      | _ => rfl
def spLine : Sp := fun vs H Q _ => ∃ (p : Addr) (x : List Term × Option Nat), vs = [.ref p] ∧ ShareAt H p x ∧ x.1.length ≤ 4 ∧ ∀ l H', Same H H' → H l = none → LineAt H' l (lineM x) → Q (.ref l) H'
theorem sc_line_of : FnScope ["share", "slope", "factor", "name", "constant"] ["share"] (defScope sLine) := ⟨rfl, rfl, rfl, by decide +kernel, rfl, by decide +kernel, by decide +kernel⟩
theorem ok_line_of {f : Addr} {fd : FuncData} (F : FunD K "line_of" "line_of" (defArgs sLine) (defBody sLine) (defScope sLine) [] [] f fd) (mSum : mg "sum" = none) : FnOk P w K mg base CX0 1 f fd ["share"] spLine := by
  refine F.ok sc_line_of (fun vs H Q E h => ?_) (fun cdv A outer s H vs Q E hr h => ?_)
  · obtain ⟨p, x, rfl, _⟩ := h
    rfl
  · obtain ⟨p, ⟨ts, m⟩, rfl, sa, hl, q⟩ := h
    obtain ⟨qa, refs, h1, h2, pr⟩ := id sa
    refine ⟨_, PSs.nox (pss_cons (by exact (ps_set (i := 1) sc_line_of.nd rfl (Or.inl rfl) (pe_callB (cr_sum rfl) (by rfl) mSum (by decide +kernel) (pa_cons (pe_lc (own := [("factor", 2), ("name", 3)]) rfl sc_line_of.nd (pi_tup (pe_ix (ix_tupK K rfl) (pv 0) pe_int (fun _ _ => rfl))) (blkOk_by (N := ["share", "slope", "factor", "name", "constant"]) (sc := defScope sLine) (by decide +kernel)) (fun _ _ _ _ _ => pg_tupK (n := 2) K rfl rfl (pgs_cons (pg_name (i := 2) sc_line_of.nd rfl (Or.inl rfl)) (pgs_cons (pg_name (i := 3) sc_line_of.nd rfl (Or.inl rfl)) pgs_nil))) (fun _ _ _ _ _ => (pts_one (pt_cmpR op_eq (pv 3) pe_str (nomark _)))) (fun _ _ _ _ _ => (pv 2))) pa_nil)))) (pss_cons (by exact (ps_set (i := 4) sc_line_of.nd rfl (Or.inl rfl) (pe_callB (cr_sum rfl) (by rfl) mSum (by decide +kernel) (pa_cons (pe_lc (own := [("factor", 2), ("name", 3)]) rfl sc_line_of.nd (pi_tup (pe_ix (ix_tupK K rfl) (pv 0) pe_int (fun _ _ => rfl))) (blkOk_by (N := ["share", "slope", "factor", "name", "constant"]) (sc := defScope sLine) (by decide +kernel)) (fun _ _ _ _ _ => pg_tupK (n := 2) K rfl rfl (pgs_cons (pg_name (i := 2) sc_line_of.nd rfl (Or.inl rfl)) (pgs_cons (pg_name (i := 3) sc_line_of.nd rfl (Or.inl rfl)) pgs_nil))) (fun _ _ _ _ _ => (pts_one (pt_cmp (pc_isN (pv 3))))) (fun _ _ _ _ _ => (pv 2))) pa_nil)))) (pss_one (by exact (ps_ret (pe_tup (pa_cons (pv 1) (pa_cons (pv 4) (pa_cons (pe_ifExp (pt_cmp (pc_isN (pe_ix (ix_tupK K rfl) (pv 0) pe_int (fun _ _ => rfl)))) pe_int (pe_ix (ix_tupK K rfl) (pv 0) pe_int (fun _ _ => rfl))) pa_nil))))))))), ?_⟩
    have lr := paired_len pr
    have hl' : ts.length ≤ 4 := hl
    have full : ts.take (refs.map V.ref).length = ts := by
      rw [List.length_map, ← lr]
      exact List.take_length ..
    have few : ∀ (i : Nat) (fn : Term → Option Int), ((ts.take i).filterMap fn).length < sizeLine := fun i fn =>
      Nat.lt_of_le_of_lt (Nat.le_trans (List.length_filterMap_le _ _) (List.length_take_le' _ _)) (Nat.lt_of_le_of_lt hl' (by decide))
    refine ⟨_, rfl, p, _, _, .ref qa, rfl, rfl, SqT.of h1, rfl, qa, rfl, ⟨_, SqT.of h2⟩, fun D hD => lc_tup (K := K) (a := qa) (xs := refs.map V.ref) (fun i H' => Same H H' ∧ H' D = some (.lst (((ts.take i).filterMap fun t => if t.2 = some ("k" : Str) then some t.1 else none).map V.int))) ⟨same_new hD, by rw [upd_same]; rfl⟩ (fun i H' _ h => SqT.of (h.1 _ _ h2)) ?_ ?_⟩
    · intro i y H' hi hp
      obtain ⟨r, hr1, rfl⟩ := ref_item hi
      obtain ⟨g, hg, hg2⟩ := paired_at pr hr1
      have tk : ts.take (i + 1) = ts.take i ++ [g] := by
        rw [List.take_succ, hg]
        rfl
      obtain ⟨g1, g2⟩ := g
      refine ⟨r, _, rfl, SqT.of (hp.1 _ _ hg2), rfl, _, _, rfl, _, _, rfl, rfl, rfl, ?_⟩
      refine ⟨_, rfl, rfl_name g2, _, rfl, ?_⟩
      by_cases hk : g2 = some ("k" : Str)
      · subst hk
        refine ⟨_, rfl, _, hp.2, by rw [List.length_map]; exact few i _, fun b o e => ?_, ?_⟩
        · rw [upd_ne (fun z => by rw [z, hD] at e; cases e)]
          exact hp.1 b o e
        · rw [upd_same, tk, List.filterMap_append, List.map_append]
          rfl
      · have e1 : decide (nameV g2 = V.str "k") = false := decide_eq_false fun z => hk (by
          cases g2 with
          | none => cases z
          | some s => exact congrArg some (V.str.inj z))
        rw [e1]
        refine ⟨hp.1, ?_⟩
        rw [tk, List.filterMap_append, show [((g1, g2) : Term)].filterMap (fun t => if t.2 = some ("k" : Str) then some t.1 else none) = [] from by simp [hk], List.append_nil]
        exact hp.2
    · intro H2 hp
      rw [full] at hp
      obtain ⟨sm, hn⟩ := hp
      refine ⟨D, _, rfl, SqL.of hn, ?_⟩
      have sa2 := sa.same sm
      obtain ⟨qb, refs2, k1, k2, pr2⟩ := id sa2
      have lr2 := paired_len pr2
      have full2 : ts.take (refs2.map V.ref).length = ts := by
        rw [List.length_map, ← lr2]
        exact List.take_length ..
      refine ⟨_, rfl, p, _, _, .ref qb, rfl, rfl, SqT.of k1, rfl, qb, rfl, ⟨_, SqT.of k2⟩, fun D2 hD2 => lc_tup (K := K) (a := qb) (xs := refs2.map V.ref) (fun i H' => Same H2 H' ∧ H' D2 = some (.lst (((ts.take i).filterMap fun t => if t.2 = none then some t.1 else none).map V.int))) ⟨same_new hD2, by rw [upd_same]; rfl⟩ (fun i H' _ h => SqT.of (h.1 _ _ k2)) ?_ ?_⟩
      · intro i y H' hi hp
        obtain ⟨r, hr1, rfl⟩ := ref_item hi
        obtain ⟨g, hg, hg2⟩ := paired_at pr2 hr1
        have tk : ts.take (i + 1) = ts.take i ++ [g] := by
          rw [List.take_succ, hg]
          rfl
        obtain ⟨g1, g2⟩ := g
        refine ⟨r, _, rfl, SqT.of (hp.1 _ _ hg2), rfl, _, _, rfl, _, _, rfl, rfl, rfl, ?_⟩
        cases g2 with
        | none =>
          refine ⟨_, rfl, _, rfl, ?_⟩
          refine ⟨_, rfl, _, hp.2, by rw [List.length_map]; exact few i _, fun b o e => ?_, ?_⟩
          · rw [upd_ne (fun z => by rw [z, hD2] at e; cases e)]
            exact hp.1 b o e
          · rw [upd_same, tk, List.filterMap_append, List.map_append]
            rfl
        | some nm =>
          refine ⟨_, rfl, _, rfl, ?_⟩
          refine ⟨hp.1, ?_⟩
          rw [tk, List.filterMap_append, show [((g1, some nm) : Term)].filterMap (fun t => if t.2 = none then some t.1 else none) = [] from rfl, List.append_nil]
          exact hp.2
      · intro H3 hp
        rw [full2] at hp
        obtain ⟨sm3, hn3⟩ := hp
        refine ⟨D2, _, rfl, SqL.of hn3, ?_⟩
        have k1' := sm3 _ _ k1
        have sF := sm.trans sm3
        have fin : ∀ l, H3 l = none → ∀ d : Int, d = ((m.getD 1 : Nat) : Int) → Q (.ref l) (upd H3 l (.tup [.int (slopeT ts), .int (constT ts), .int d])) := fun l hl d hd => by
          subst hd
          exact q l _ (sF.step hl) (sF.free hl) upd_same
        refine ⟨_, rfl, _, rfl, _, rfl, p, _, _, natV m, rfl, rfl, SqT.of k1', rfl, ?_⟩
        cases m with
        | none => exact ⟨_, rfl, by show 3 ≤ sizeLine; decide, fun l hl => fin l hl 1 rfl⟩
        | some n => exact ⟨_, rfl, _, rfl, p, _, _, natV (some n), rfl, rfl, SqT.of k1', rfl, by show 3 ≤ sizeLine; decide, fun l hl => fin l hl n rfl⟩
end
end Pk
namespace Pk
open L2 PyProof.Rows PySem.Spec PySem
abbrev sSide : Stmt := top 35
abbrev sDeed : Stmt := inClass (top 37) 3
abbrev sMoving : Stmt := inClass (top 37) 4
abbrev sPart : Stmt := inClass (top 37) 6
abbrev sParts : Stmt := inClass (top 37) 5
abbrev sRow : Stmt := inClass (top 37) 2
abbrev sRows : Stmt := inClass (top 37) 1
abbrev sRdI : Stmt := inClass (top 37) 0
abbrev sRead : Stmt := top 38
/-! ### words by their places, slices of words -/
theorem at_eq {ws : List Str} {i : Nat} (h : i < ws.length) : ws[i]? = some (at_ ws i) := by
  unfold at_
  rw [List.getD_eq_getElem?_getD, List.getElem?_eq_getElem h]
  rfl
theorem at_mem {ws : List Str} {i : Nat} (h : i < ws.length) : at_ ws i ∈ ws := List.mem_of_getElem? (at_eq h)
theorem at_ix {ws : List Str} {i : Nat} (h : i < ws.length) : atI (ws.map V.str) (i : Int) = some (.str (at_ ws i)) := atI_nat (by rw [List.getElem?_map, at_eq h]; rfl)
theorem at0 {ws : List Str} (h : 0 < ws.length) : atI (ws.map V.str) 0 = some (.str (at_ ws 0)) := at_ix (i := 0) h
theorem at1 {ws : List Str} (h : 1 < ws.length) : atI (ws.map V.str) 1 = some (.str (at_ ws 1)) := at_ix (i := 1) h
theorem at2 {ws : List Str} (h : 2 < ws.length) : atI (ws.map V.str) 2 = some (.str (at_ ws 2)) := at_ix (i := 2) h
theorem at_ng {ws : List Str} {k : Nat} (h1 : 1 ≤ k) (h2 : k ≤ ws.length) : atI (ws.map V.str) (-(k : Int)) = some (.str (at_ ws (ws.length - k))) :=
  atI_back h1 (by rw [List.length_map]; exact h2) (by rw [List.length_map, List.getElem?_map, at_eq (by omega)]; rfl)
theorem map_len {ws : List Str} : (ws.map V.str).length = ws.length := List.length_map ..
theorem cut_from {ws : List Str} {n : Nat} : cutV (ws.map V.str) (some (n : Int)) none = (ws.drop n).map V.str := by
  unfold cutV
  rw [HT.sIx_nat, HT.sIx_none, map_len]
  rcases Nat.le_total n ws.length with h | h
  · rw [Nat.min_eq_left h, List.take_of_length_le (by rw [List.length_drop, map_len]; omega), List.map_drop]
  · rw [Nat.min_eq_right h, List.drop_of_length_le (by rw [map_len]; omega), List.drop_of_length_le h, Nat.sub_self]
    rfl
theorem cut_to {ws : List Str} {n : Nat} : cutV (ws.map V.str) none (some (n : Int)) = (ws.take n).map V.str := by
  unfold cutV
  rw [HT.sIx_nat, HT.sIx_none, map_len, List.drop_zero, Nat.sub_zero]
  rcases Nat.le_total n ws.length with h | h
  · rw [Nat.min_eq_left h, List.map_take]
  · rw [Nat.min_eq_right h, List.take_of_length_le (by rw [map_len]; omega), List.take_of_length_le h]
theorem cut_amid {ws : List Str} {a b : Nat} (h1 : 1 ≤ b) (h : a + b ≤ ws.length) : cutV (ws.map V.str) (some (a : Int)) (some (-(b : Int))) = ((ws.take (ws.length - b)).drop a).map V.str := by
  have e : HT.sIx (ws.map V.str).length (ws.map V.str).length (some (-(b : Int))) = ws.length - b := by
    show (if (-(b : Int)) < 0 then ((-(b : Int)) + ((ws.map V.str).length : Int)).toNat else min (-(b : Int)).toNat (ws.map V.str).length) = ws.length - b
    rw [if_pos (by omega), map_len]
    omega
  unfold cutV
  rw [e, HT.sIx_nat, map_len, Nat.min_eq_left (by omega), List.map_drop, List.map_take, List.drop_take]
theorem strE {x y : Str} (h : decide (V.str x = V.str y) = true) : x = y := V.str.inj (of_decide_eq_true h)
theorem strN {x y : Str} (h : ¬ decide (V.str x = V.str y) = true) : ¬ x = y := fun z => h (decide_eq_true (by rw [z]))
theorem neE {x y : Str} (h : (!decide (V.str x = V.str y)) = true) : ¬ x = y := fun z => by
  rw [decide_eq_true (show V.str x = V.str y by rw [z])] at h
  cases h
theorem neN {x y : Str} (h : ¬ (!decide (V.str x = V.str y)) = true) : x = y := Classical.byContradiction fun z => h (by
  rw [decide_eq_false (fun q => z (V.str.inj q))]
  rfl)
theorem inE {x : Str} {l : List Str} (h : inV (V.str x) (l.map V.str) = true) : x ∈ l := of_decide_eq_true (inV_strs.symm.trans h)
theorem inN {x : Str} {l : List Str} (h : ¬ inV (V.str x) (l.map V.str) = true) : ¬ x ∈ l := fun z => h (inV_strs.trans (decide_eq_true z))
theorem niE {x : Str} {l : List Str} (h : (!inV (V.str x) (l.map V.str)) = true) : ¬ x ∈ l := fun z => by
  rw [inV_strs, decide_eq_true z] at h
  cases h
theorem niN {x : Str} {l : List Str} (h : ¬ (!inV (V.str x) (l.map V.str)) = true) : x ∈ l := Classical.byContradiction fun z => h (by
  rw [inV_strs, decide_eq_false z]
  rfl)
/-- lists of texts compared -/
theorem strs_dp {K : PySem.W.Frag} {H : Hp} : ∀ ws : List Str, DpAll K H (ws.map V.str) (ws.map PyData.str)
  | [] => .nil
  | w :: ws => .cons (.str w) (strs_dp ws)
theorem strs_lay : ∀ ws : List Str, (∀ w ∈ ws, (PyData.str w).canLay0 = true) → PyData.canLayAll0 (ws.map PyData.str) = true ∧ PyData.depthAll (ws.map PyData.str) ≤ 1
  | [], _ => ⟨rfl, by decide⟩
  | w :: ws, h => by
    obtain ⟨a, b⟩ := strs_lay ws fun x hx => h x (List.mem_cons_of_mem _ hx)
    refine ⟨?_, ?_⟩
    · show (PyData.canLay0 (.str w) && PyData.canLayAll0 (ws.map PyData.str)) = true
      rw [a, h w (by simp)]
      rfl
    · simp only [List.map_cons, PyData.depthAll, PyData.depth]
      omega
theorem strs_shaped {ws : List Str} (h : ∀ w ∈ ws, (PyData.str w).canLay0 = true) : SeqAt.shaped (.list (ws.map PyData.str)) = true := by
  obtain ⟨a, b⟩ := strs_lay ws h
  have d : (PyData.list (ws.map PyData.str)).depth ≤ 64 := by
    simp only [PyData.depth]
    omega
  show ((PyData.list (ws.map PyData.str)).canLay0 && decide _) = true
  rw [show (PyData.list (ws.map PyData.str)).canLay0 = true from a, decide_eq_true d]
  rfl
theorem eqvAll_strs : ∀ ws us : List Str, PyData.eqvAll (ws.map PyData.str) (us.map PyData.str) = decide (ws = us)
  | [], [] => (by simp [PyData.eqvAll])
  | [], u :: us => by simp [PyData.eqvAll]
  | w :: ws, [] => by simp [PyData.eqvAll]
  | w :: ws, u :: us => by
    have e := eqvAll_strs ws us
    show (PyData.eqv (.str w) (.str u) && PyData.eqvAll (ws.map PyData.str) (us.map PyData.str)) = _
    rw [e, show PyData.eqv (.str w) (.str u) = decide (w = u) by (simp only [PyData.eqv]; exact (Bool.beq_eq_decide_eq w u))]
    by_cases h1 : w = u
    · by_cases h2 : ws = us <;> simp [h1, h2]
    · simp [h1]
theorem eqv_strs (ws us : List Str) : PyData.eqv (.list (ws.map PyData.str)) (.list (us.map PyData.str)) = decide (ws = us) := by
  show PyData.eqvAll (ws.map PyData.str) (us.map PyData.str) = _
  exact eqvAll_strs ws us
/-- each word can be laid -/
def okW (w : Str) : Prop := w.length ≤ 1000000 ∧ (PyData.str w).canLay0 = true
theorem eq_words {K : PySem.W.Frag} {H : Hp} {a b : Addr} {ws us : List Str} {G : VK} (ha : SqL K H a (ws.map V.str)) (hb : SqL K H b (us.map V.str)) (hw : ∀ w ∈ ws, okW w) (hu : ∀ w ∈ us, okW w) (q : G (.bl (decide (ws = us))) H) : rEqD K (.ref a) (.ref b) H G := by
  refine ⟨_, _, .lst ha (strs_dp ws), .lst hb (strs_dp us), strs_shaped fun w h => (hw w h).2, strs_shaped fun w h => (hu w h).2, ?_⟩
  rw [eqv_strs]
  exact q
theorem ne_words {K : PySem.W.Frag} {H : Hp} {a b : Addr} {ws us : List Str} {G : VK} (ha : SqL K H a (ws.map V.str)) (hb : SqL K H b (us.map V.str)) (hw : ∀ w ∈ ws, okW w) (hu : ∀ w ∈ us, okW w) (q : G (.bl (!decide (ws = us))) H) : rNeD K (.ref a) (.ref b) H G := by
  refine ⟨_, _, .lst ha (strs_dp ws), .lst hb (strs_dp us), strs_shaped fun w h => (hw w h).2, strs_shaped fun w h => (hu w h).2, ?_⟩
  rw [eqv_strs]
  exact q
/-! ### rows in the heap -/
def SumAt (H : Hp) (p : Addr) (ts : List Term) : Prop := ∃ refs, H p = some (.tup (refs.map V.ref)) ∧ Paired (TAt H) refs ts
inductive PartAt (H : Hp) (a : Addr) : Part → Prop where
  | there {x : Str} {w : Bool} : H a = some (.tup [.str "there", .str x, .bl w]) → PartAt H a (.there x w)
  | less {x y : Term} {s w : Bool} {p q : Addr} : H a = some (.tup [.str "less", .ref p, .ref q, .bl s, .bl w]) → SumAt H p [x] → SumAt H q [y] → PartAt H a (.less x y s w)
  | same {x y : Term} {w : Bool} {p q : Addr} : H a = some (.tup [.str "same", .ref p, .ref q, .bl w]) → SumAt H p [x] → SumAt H q [y] → PartAt H a (.same x y w)
def PartsAt (H : Hp) (p : Addr) (ps : List Part) : Prop := ∃ refs, H p = some (.tup (refs.map V.ref)) ∧ Paired (PartAt H) refs ps
mutual
/-- a row's tuple; fr: what is known of the lists of rows within -/
inductive RowAt (fr : Addr → Prop) (H : Hp) : Addr → Row → Prop where
  | set {a s : Addr} {l : Nat} {r : Str} {ts : List Term} {d : Option Nat} : H a = some (.tup [.str "set", .int (l : Nat), .str r, .ref s, natV d]) → SumAt H s ts → RowAt fr H a (.set l r ts d)
  | cut {a s : Addr} {l : Nat} {x y : Str} {ts : List Term} : H a = some (.tup [.str "cut", .int (l : Nat), .str x, .ref s, .str y]) → SumAt H s ts → RowAt fr H a (.cut l x ts y)
  | join {a : Addr} {l : Nat} {x y : Str} : H a = some (.tup [.str "join", .int (l : Nat), .str x, .str y]) → RowAt fr H a (.join l x y)
  | shift {a s : Addr} {l : Nat} {x y : Str} {ts : List Term} : H a = some (.tup [.str "shift", .int (l : Nat), .ref s, .str x, .str y]) → SumAt H s ts → RowAt fr H a (.shift l ts x y)
  | mark {a : Addr} {l : Nat} {y : Str} : H a = some (.tup [.str "mark", .int (l : Nat), .str y]) → RowAt fr H a (.mark l y)
  | quit {a : Addr} {l : Nat} : H a = some (.tup [.str "quit", .int (l : Nat)]) → RowAt fr H a (.quit l)
  | ifr {a p ra oa : Addr} {l : Nat} {ps : List Part} {rows others : List Row} {rr orr : List Addr} : H a = some (.tup [.str "if", .int (l : Nat), .ref p, .ref ra, .ref oa]) → PartsAt H p ps → fr ra → H ra = some (.lst (rr.map V.ref)) → RowsAt fr H rr rows → fr oa → H oa = some (.lst (orr.map V.ref)) → RowsAt fr H orr others → RowAt fr H a (.ifr l ps rows others)
inductive RowsAt (fr : Addr → Prop) (H : Hp) : List Addr → List Row → Prop where
  | nil : RowsAt fr H [] []
  | cons {a : Addr} {rr : List Addr} {row : Row} {rows : List Row} : RowAt fr H a row → RowsAt fr H rr rows → RowsAt fr H (a :: rr) (row :: rows)
end
/-- tuples stay, and the lists that are fr -/
structure Keeps (fr : Addr → Prop) (H H' : Hp) : Prop where
  tup : ∀ b xs, H b = some (.tup xs) → H' b = some (.tup xs)
  lst : ∀ b xs, fr b → H b = some (.lst xs) → H' b = some (.lst xs)
theorem SumAt.keep {fr : Addr → Prop} {H H' : Hp} (k : Keeps fr H H') {p : Addr} {ts : List Term} (h : SumAt H p ts) : SumAt H' p ts := by
  obtain ⟨refs, h1, h2⟩ := h
  exact ⟨refs, k.tup _ _ h1, Paired.mapP h2 fun _ _ e => k.tup _ _ e⟩
theorem PartAt.keep {fr : Addr → Prop} {H H' : Hp} (k : Keeps fr H H') {a : Addr} {p : Part} (h : PartAt H a p) : PartAt H' a p := by
  cases h with
  | there e => exact .there (k.tup _ _ e)
  | less e s t => exact .less (k.tup _ _ e) (s.keep k) (t.keep k)
  | same e s t => exact .same (k.tup _ _ e) (s.keep k) (t.keep k)
theorem PartsAt.keep {fr : Addr → Prop} {H H' : Hp} (k : Keeps fr H H') {a : Addr} {ps : List Part} (h : PartsAt H a ps) : PartsAt H' a ps := by
  obtain ⟨refs, h1, h2⟩ := h
  exact ⟨refs, k.tup _ _ h1, Paired.mapP h2 fun _ _ e => e.keep k⟩
mutual
theorem RowAt.keep {fr fr' : Addr → Prop} {H H' : Hp} (k : Keeps fr H H') (hf : ∀ b, fr b → fr' b) {a : Addr} : ∀ {row : Row}, RowAt fr H a row → RowAt fr' H' a row
  | _, .set e s => .set (k.tup _ _ e) (s.keep k)
  | _, .cut e s => .cut (k.tup _ _ e) (s.keep k)
  | _, .join e => .join (k.tup _ _ e)
  | _, .shift e s => .shift (k.tup _ _ e) (s.keep k)
  | _, .mark e => .mark (k.tup _ _ e)
  | _, .quit e => .quit (k.tup _ _ e)
  | _, .ifr e p f1 e1 r1 f2 e2 r2 => .ifr (k.tup _ _ e) (p.keep k) (hf _ f1) (k.lst _ _ f1 e1) (RowsAt.keep k hf r1) (hf _ f2) (k.lst _ _ f2 e2) (RowsAt.keep k hf r2)
theorem RowsAt.keep {fr fr' : Addr → Prop} {H H' : Hp} (k : Keeps fr H H') (hf : ∀ b, fr b → fr' b) : ∀ {rr : List Addr} {rows : List Row}, RowsAt fr H rr rows → RowsAt fr' H' rr rows
  | _, _, .nil => .nil
  | _, _, .cons r rs => .cons (RowAt.keep k hf r) (RowsAt.keep k hf rs)
end
theorem Keeps.same {fr : Addr → Prop} {H H' : Hp} (s : Same H H') : Keeps fr H H' := ⟨fun b xs h => s b _ h, fun b xs _ h => s b _ h⟩
theorem RowsAt.snoc {fr : Addr → Prop} {H : Hp} {a : Addr} {row : Row} (h : RowAt fr H a row) : ∀ {rr : List Addr} {rows : List Row}, RowsAt fr H rr rows → RowsAt fr H (rr ++ [a]) (rows ++ [row])
  | _, _, .nil => .cons h .nil
  | _, _, .cons r rs => .cons r (RowsAt.snoc h rs)
/-! ### the reader's class -/
structure ReaderC (K : PySem.W.Frag) (mg : Str → Option Value) (C fI : Addr) : Prop where
  cls : Cls K C
  made : Mk K C fI
  g : mg "Reader" = some (.ref C)
  no : ∀ f ∈ (["texts", "line"] : List Str), NoAttr K C f
def rdF (tl : Addr) (line : Nat) : List (Str × V) := [("texts", .ref tl), ("line", .int (line : Nat))]
end Pk
namespace Pk
open L2 PyProof.Rows PySem.Spec PySem
/-! ### side_of, moving, deed -/
def spSide : Sp := fun vs H Q _ => ∃ w : Str, vs = [.str w] ∧ w.length ≤ 1000000 ∧ (sideM w = none → ∀ H', Same H H' → Q .non H') ∧ ∀ t, sideM w = some t → ∀ p H', Same H H' → H p = none → SumAt H' p [t] → Q (.ref p) H'
/-- a def of a reader that reads words to a row -/
def spDeed (K : PySem.W.Frag) (C : Addr) (f : Nat → List Str → Option Row) : Sp := fun vs H Q _ => ∃ (r dx tl a : Addr) (line : Nat) (ws : List Str), vs = [.ref r, .ref a] ∧ H r = some (.ins C dx (rdF tl line)) ∧ SqL K H a (ws.map V.str) ∧ ws.length ≤ 1000000 ∧ (∀ w ∈ ws, okW w) ∧
  (f line ws = none → ∀ H', Same H H' → Q .non H') ∧ ∀ row, f line ws = some row → ∀ p H', Same H H' → H p = none → RowAt (fun _ => False) H' p row → Q (.ref p) H'
section
variable {K : PySem.W.Frag} {P : Program} {w : World} {base : Heap} {mg : Str → Option Value} {C fI : Addr}
theorem sc_side_of : FnScope ["word", "pair"] ["word"] (defScope sSide) := ⟨rfl, rfl, rfl, by decide +kernel, rfl, by decide +kernel, by decide +kernel⟩
theorem ok_side_of {f fT : Addr} {fd fdT : FuncData} (F : FunD K "side_of" "side_of" (defArgs sSide) (defBody sSide) (defScope sSide) [] [] f fd) (FT : FunD K "term_of" "term_of" (defArgs sTerm) (defBody sTerm) (defScope sTerm) [] [] fT fdT)
    (GT : FnOk P w K mg base CX0 2 fT fdT ["words"] (spTerm K)) (gT : mg "term_of" = some (.ref fT)) : FnOk P w K mg base CX0 3 f fd ["word"] spSide := by
  have bT : Binds K fdT ["words"] [] := FT.bindsN fun _ _ _ _ _ _ us hl => match us, hl with | [_], _ => rfl
  refine F.ok sc_side_of (fun vs H Q E h => ?_) (fun cdv A outer s H vs Q E hr h => ?_)
  · obtain ⟨w, rfl, _⟩ := h
    rfl
  · obtain ⟨w, rfl, hw, q0, q1⟩ := h
    refine ⟨_, PSs.nox (pss_cons (by exact (ps_set (i := 1) sc_side_of.nd rfl (Or.inl rfl) (pe_call GT (hr.mono (by decide)) rfl gT FT.kp bT .nil pass0 (pa_cons (pe_lst (pa_cons (pv 0) pa_nil)) pa_nil)))) (pss_one (by exact (ps_ret (pe_ifExp (pt_cmp (pc_notN (pv 1))) (pe_tup (pa_cons (pv 1) pa_nil)) pe_non))))), ?_⟩
    refine ⟨_, rfl, by show 1 ≤ sizeLine; decide, fun l hl => ?_⟩
    have S := same_new (o := .lst [.str w]) hl
    refine ⟨l, [w], rfl, SqL.of upd_same, fun x hx => by rw [List.mem_singleton.mp hx]; exact hw, fun e => ?_, fun n f e t ht => ?_⟩
    · exact ⟨_, rfl, _, rfl, q0 (by unfold sideM; rw [e]; rfl) _ S⟩
    · refine ⟨_, rfl, _, rfl, _, rfl, by show 1 ≤ sizeLine; decide, fun p hp => ?_⟩
      have S2 := S.step (o := .tup [.int (n : Nat), nameV f]) ht
      have S3 := S2.step (o := .tup [.ref t]) hp
      refine q1 ((n : Int), f) (by unfold sideM; rw [e]; rfl) p _ S3 (S2.back hp) ⟨[t], upd_same, .cons ?_ .nil⟩
      exact same_new hp _ _ upd_same
theorem sc_Reader_moving : FnScope ["self", "words", "found", "fits"] ["self", "words"] (defScope sMoving) := ⟨rfl, rfl, rfl, by decide +kernel, rfl, by decide +kernel, by decide +kernel⟩
theorem ok_Reader_moving {f fS aP : Addr} {fd fdS : FuncData} (F : FunD K "moving" "Reader.moving" (defArgs sMoving) (defBody sMoving) (defScope sMoving) [] [] f fd) (RD : ReaderC K mg C fI) (FS : FunD K "sum_of" "sum_of" (defArgs sSumOf) (defBody sSumOf) (defScope sSumOf) [] [] fS fdS)
    (GS : FnOk P w K mg base CX0 3 fS fdS ["words"] (spSum K)) (gS : mg "sum_of" = some (.ref fS)) (mLen : mg "len" = none) (gPG : ∃ u, mg "PAGES" = some u ∧ RelV (.ref aP) u) (tP : ∀ H, SqT K H aP (PAGEL.map V.str)) : FnOk P w K mg base CX0 4 f fd ["self", "words"] (spDeed K C movingM) := by
  have bS : Binds K fdS ["words"] [] := FS.bindsN fun _ _ _ _ _ _ us hl => match us, hl with | [_], _ => rfl
  refine F.ok sc_Reader_moving (fun vs H Q E h => ?_) (fun cdv A outer s H vs Q E hr h => ?_)
  · obtain ⟨r, dx, tl, a, line, ws, rfl, _⟩ := h
    rfl
  · obtain ⟨r, dx, tl, a, line, ws, rfl, hR, hS, hl, hw, q0, q1⟩ := h
    refine ⟨_, PSs.nox (C8.pss_cut (by exact (ps_if (PW.pt (pw_or (pt_cmpR op_lt (pe_callB call_len_seq (by rfl) mLen PySem.boot_len (pa_cons (pv 1) pa_nil)) pe_int (nomark _)) (pw_or1 (pt_cmpR (op_notInK K rfl) (pe_ix (ix_listK K rfl) (pv 1) (pe_un un_neg pe_int) (fun _ _ => rfl)) (C8.pe_gc (v := .ref aP) rfl gPG) rfl)))) (pss_one (by exact (ps_ret pe_non))) pss_nil)) (C8.pss_cut (by exact (ps_if (PW.pt (pw_and (pt_cmpR op_eq (pe_ix (ix_listK K rfl) (pv 1) pe_int (fun _ _ => rfl)) pe_str (nomark _)) (pw_and (pt_cmpR (op_inK K rfl) (pe_ix (ix_listK K rfl) (pv 1) pe_int (fun _ _ => rfl)) (C8.pe_gc (v := .ref aP) rfl gPG) rfl) (pw_and (pt_cmpR op_eq (pe_ix (ix_listK K rfl) (pv 1) pe_int (fun _ _ => rfl)) pe_str (nomark _)) (pw_and1 (pt_cmpR op_eq (pe_ix (ix_listK K rfl) (pv 1) (pe_un un_neg pe_int) (fun _ _ => rfl)) pe_str (nomark _))))))) (pss_cons (by exact (ps_set (i := 2) sc_Reader_moving.nd rfl (Or.inl rfl) (pe_call GS (hr.mono (by decide)) rfl gS FS.kp bS .nil pass0 (pa_cons (pe_slice (sl_listK K rfl) (pv 1) (po_some pe_int) (po_some (pe_un un_neg pe_int))) pa_nil)))) (pss_cons (by exact (ps_set (i := 3) sc_Reader_moving.nd rfl (Or.inl rfl) (pe_and (pe_cmpR op_notN (pv 2) pe_non (nomark _)) (pe_one (pe_cmpR op_ne (pe_ix (ix_listK K rfl) (pv 1) pe_int (fun _ _ => rfl)) (pe_ix (ix_listK K rfl) (pv 1) (pe_un un_neg pe_int) (fun _ _ => rfl)) (nomark _)))))) (pss_one (by exact (ps_ret (pe_ifExp (pt_val (pv 3)) (pe_tup (pa_cons pe_str (pa_cons (pe_fld (pv 0) rfl) (pa_cons (pe_ix (ix_listK K rfl) (pv 1) pe_int (fun _ _ => rfl)) (pa_cons (pv 2) (pa_cons (pe_ix (ix_listK K rfl) (pv 1) (pe_un un_neg pe_int) (fun _ _ => rfl)) pa_nil)))))) pe_non)))))) pss_nil)) (C8.pss_cut (by exact (ps_if (PW.pt (pw_or (pt_cmpR op_ne (pe_ix (ix_listK K rfl) (pv 1) pe_int (fun _ _ => rfl)) pe_str (nomark _)) (pw_or (pt_cmpR op_ne (pe_ix (ix_listK K rfl) (pv 1) (pe_un un_neg pe_int) (fun _ _ => rfl)) pe_str (nomark _)) (pw_or (pt_cmpR (op_notInK K rfl) (pe_ix (ix_listK K rfl) (pv 1) (pe_un un_neg pe_int) (fun _ _ => rfl)) (C8.pe_gc (v := .ref aP) rfl gPG) rfl) (pw_or1 (pt_cmpR op_ne (pe_ix (ix_listK K rfl) (pv 1) (pe_un un_neg pe_int) (fun _ _ => rfl)) pe_str (nomark _))))))) (pss_one (by exact (ps_ret pe_non))) pss_nil)) (pss_cons (by exact (ps_set (i := 2) sc_Reader_moving.nd rfl (Or.inl rfl) (pe_call GS (hr.mono (by decide)) rfl gS FS.kp bS .nil pass0 (pa_cons (pe_slice (sl_listK K rfl) (pv 1) (po_some pe_int) (po_some (pe_un un_neg pe_int))) pa_nil)))) (pss_cons (by exact (ps_set (i := 3) sc_Reader_moving.nd rfl (Or.inl rfl) (pe_and (pe_cmpR op_notN (pv 2) pe_non (nomark _)) (pe_one (pe_cmpR op_ne (pe_ix (ix_listK K rfl) (pv 1) (pe_un un_neg pe_int) (fun _ _ => rfl)) (pe_ix (ix_listK K rfl) (pv 1) (pe_un un_neg pe_int) (fun _ _ => rfl)) (nomark _)))))) (pss_one (by exact (ps_ret (pe_ifExp (pt_val (pv 3)) (pe_tup (pa_cons pe_str (pa_cons (pe_fld (pv 0) rfl) (pa_cons (pv 2) (pa_cons (pe_ix (ix_listK K rfl) (pv 1) (pe_un un_neg pe_int) (fun _ _ => rfl)) (pa_cons (pe_ix (ix_listK K rfl) (pv 1) (pe_un un_neg pe_int) (fun _ _ => rfl)) pa_nil)))))) pe_non))))))))), ?_⟩
    have none_ : ∀ {G : Prop}, movingM line ws = none → (Q .non H → G) → G := fun e k => k (q0 e H (Same.refl H))
    refine ⟨fun σ H' => σ = [some (.ref r), some (.ref a), none, none] ∧ H' = H ∧ 6 ≤ ws.length ∧ at_ ws (ws.length - 1) ∈ PAGEL, ?_, ?_⟩
    · refine ⟨_, rfl, a, _, rfl, .inl hS, _, _, rfl, rfl, _, rfl, ite2 (fun e => ?_) fun e => ?_⟩
      · have k : ws.length < 6 := by
          have z : ((ws.map V.str).length : Int) < 6 := of_decide_eq_true e
          rw [map_len] at z
          omega
        exact q0 (by unfold movingM; rw [if_pos (.inl k)]) _ (Same.refl _)
      · have k : 6 ≤ ws.length := by
          have z : ¬ ((ws.map V.str).length : Int) < 6 := fun z => e (decide_eq_true z)
          rw [map_len] at z
          omega
        refine ⟨_, rfl, 1, rfl, a, _, -(1 : Nat), .str (at_ ws (ws.length - 1)), rfl, rfl, hS, at_ng (by decide) (by omega), aP, _, rfl, .inr (tP _), rfl, flat_strs, _, rfl, ite2 (fun e2 => ?_) fun e2 => ?_⟩
        · exact q0 (by unfold movingM; rw [if_pos (.inr (niE e2))]) _ (Same.refl _)
        · exact ⟨rfl, rfl, k, niN e2⟩
    rintro σ H' ⟨rfl, rfl, l6, hX⟩
    have last : ∀ {k : Nat}, 1 ≤ k → k ≤ 6 → atI (ws.map V.str) (-(k : Int)) = some (.str (at_ ws (ws.length - k))) := fun h1 h2 => at_ng h1 (by omega)
    have nb : ¬ (ws.length < 6 ∨ at_ ws (ws.length - 1) ∉ PAGEL) := fun z => z.elim (fun z => by omega) fun z => z hX
    have wsub : ∀ {n m : Nat}, ∀ w ∈ (ws.take n).drop m, w.length ≤ 1000000 := fun w h => (hw w (List.mem_of_mem_take (List.mem_of_mem_drop h))).1
    have lsub : ∀ {n m : Nat}, ((ws.take n).drop m).length ≤ 1000000 := fun {n m} => by
      rw [List.length_drop, List.length_take]
      omega
    refine ⟨fun σ H2 => σ = [some (.ref r), some (.ref a), none, none] ∧ H2 = H' ∧ ¬ (at_ ws 0 = "cut" ∧ at_ ws 1 ∈ PAGEL ∧ at_ ws 2 = "at" ∧ at_ ws (ws.length - 2) = "into"), ?_, ?_⟩
    · refine ⟨_, rfl, a, _, _, .str (at_ ws 0), rfl, rfl, hS, at0 (by omega), rfl, _, rfl, ite2 (fun e1 => ?_) fun e1 => ⟨rfl, rfl, fun z => strN e1 z.1⟩⟩
      refine ⟨_, rfl, a, _, _, .str (at_ ws 1), rfl, rfl, hS, at1 (by omega), aP, _, rfl, .inr (tP _), rfl, flat_strs, _, rfl, ite2 (fun e2 => ?_) fun e2 => ⟨rfl, rfl, fun z => inN e2 z.2.1⟩⟩
      refine ⟨_, rfl, a, _, _, .str (at_ ws 2), rfl, rfl, hS, at2 (by omega), rfl, _, rfl, ite2 (fun e3 => ?_) fun e3 => ⟨rfl, rfl, fun z => strN e3 z.2.2.1⟩⟩
      refine ⟨_, rfl, 2, rfl, a, _, -(2 : Nat), .str (at_ ws (ws.length - 2)), rfl, rfl, hS, last (by decide) (by decide), rfl, _, rfl, ite2 (fun e4 => ?_) fun e4 => ⟨rfl, rfl, fun z => strN e4 z.2.2.2⟩⟩
      have C1 : at_ ws 0 = "cut" ∧ at_ ws 1 ∈ PAGEL ∧ at_ ws 2 = "at" ∧ at_ ws (ws.length - 2) = "into" := ⟨strE e1, inE e2, strE e3, strE e4⟩
      have dm : movingM line ws = (sumM ((ws.take (ws.length - 2)).drop 3)).bind fun ts => if at_ ws 1 ≠ at_ ws (ws.length - 1) then some (.cut line (at_ ws 1) ts (at_ ws (ws.length - 1))) else none := by
        unfold movingM
        rw [if_neg nb, if_pos C1]
        cases sumM ((ws.take (ws.length - 2)).drop 3) <;> rfl
      refine ⟨_, rfl, 3, rfl, 2, rfl, -(2 : Nat), rfl, a, _, rfl, hS, fun l hl1 => ?_⟩
      rw [show cutV (ws.map V.str) (some 3) (some (-(2 : Nat))) = _ from cut_amid (a := 3) (b := 2) (by decide) (by omega)]
      have S1 := same_new (o := .lst (((ws.take (ws.length - 2)).drop 3).map V.str)) hl1
      refine ⟨l, _, rfl, SqL.of upd_same, lsub, wsub, fun e0 H1 s1 => ?_, fun ts e p refs H1 s1 np hp pr => ?_⟩
      · exact ⟨_, rfl, rfl, false, rfl, _, rfl, _, rfl, q0 (by rw [dm, e0]; rfl) _ (S1.trans s1)⟩
      · have sH := S1.trans s1
        have hS1 : SqL K H1 a (ws.map V.str) := sH.seq hS
        refine ⟨_, rfl, rfl, true, rfl, _, rfl, a, _, _, .str (at_ ws 1), rfl, rfl, hS1, at1 (by omega), _, rfl, 1, rfl, a, _, -(1 : Nat), .str (at_ ws (ws.length - 1)), rfl, rfl, hS1, last (by decide) (by decide), rfl, _, rfl, _, rfl, ite2 (fun e5 => ?_) fun e5 => q0 (by rw [dm, e]; exact if_neg fun z => z (neN e5)) _ sH⟩
        refine ⟨_, rfl, r, C, dx, _, .int (line : Nat), rfl, sH _ _ hR, RD.cls, RD.no _ (by simp), rfl, ?_⟩
        refine ⟨_, rfl, a, _, _, .str (at_ ws 1), rfl, rfl, hS1, at1 (by omega), _, rfl, _, rfl, 1, rfl, a, _, -(1 : Nat), .str (at_ ws (ws.length - 1)), rfl, rfl, hS1, last (by decide) (by decide), by show 5 ≤ sizeLine; decide, fun p5 hp5 => ?_⟩
        have S5 := same_new (o := .tup [.str "cut", .int (line : Nat), .str (at_ ws 1), .ref p, .str (at_ ws (ws.length - 1))]) hp5
        exact q1 _ (by rw [dm, e]; exact if_pos (neE e5)) p5 _ (sH.trans S5) (sH.back hp5) (.cut upd_same ⟨refs, S5 _ _ hp, S5.paired pr⟩)
    rintro σ H2 ⟨rfl, rfl, nc⟩
    have NC : ¬ (at_ ws 0 = "cut" ∧ at_ ws 1 ∈ PAGEL ∧ at_ ws 2 = "at" ∧ at_ ws (ws.length - 2) = "into") := nc
    have dn : (at_ ws 0 ≠ "shift" ∨ at_ ws (ws.length - 4) ≠ "from" ∨ at_ ws (ws.length - 3) ∉ PAGEL ∨ at_ ws (ws.length - 2) ≠ "to") → movingM line ws = none := fun z => by
      unfold movingM
      rw [if_neg nb, if_neg NC, if_pos z]
    refine ⟨fun σ H3 => σ = [some (.ref r), some (.ref a), none, none] ∧ H3 = H2 ∧ at_ ws 0 = "shift" ∧ at_ ws (ws.length - 4) = "from" ∧ at_ ws (ws.length - 3) ∈ PAGEL ∧ at_ ws (ws.length - 2) = "to", ?_, ?_⟩
    · refine ⟨_, rfl, a, _, _, .str (at_ ws 0), rfl, rfl, hS, at0 (by omega), rfl, _, rfl, ite2 (fun e1 => q0 (dn (.inl (neE e1))) _ (Same.refl _)) fun e1 => ?_⟩
      refine ⟨_, rfl, 4, rfl, a, _, -(4 : Nat), .str (at_ ws (ws.length - 4)), rfl, rfl, hS, last (by decide) (by decide), rfl, _, rfl, ite2 (fun e2 => q0 (dn (.inr (.inl (neE e2)))) _ (Same.refl _)) fun e2 => ?_⟩
      refine ⟨_, rfl, 3, rfl, a, _, -(3 : Nat), .str (at_ ws (ws.length - 3)), rfl, rfl, hS, last (by decide) (by decide), aP, _, rfl, .inr (tP _), rfl, flat_strs, _, rfl, ite2 (fun e3 => q0 (dn (.inr (.inr (.inl (niE e3))))) _ (Same.refl _)) fun e3 => ?_⟩
      refine ⟨_, rfl, 2, rfl, a, _, -(2 : Nat), .str (at_ ws (ws.length - 2)), rfl, rfl, hS, last (by decide) (by decide), rfl, _, rfl, ite2 (fun e4 => q0 (dn (.inr (.inr (.inr (neE e4))))) _ (Same.refl _)) fun e4 => ?_⟩
      exact ⟨rfl, rfl, neN e1, neN e2, niN e3, neN e4⟩
    rintro σ H3 ⟨rfl, rfl, k1, k2, k3, k4⟩
    have dm : movingM line ws = (sumM ((ws.take (ws.length - 4)).drop 1)).bind fun ts => if at_ ws (ws.length - 3) ≠ at_ ws (ws.length - 1) then some (.shift line ts (at_ ws (ws.length - 3)) (at_ ws (ws.length - 1))) else none := by
      unfold movingM
      rw [if_neg nb, if_neg NC, if_neg (fun z => z.elim (fun z => z k1) fun z => z.elim (fun z => z k2) fun z => z.elim (fun z => z k3) fun z => z k4)]
      cases sumM ((ws.take (ws.length - 4)).drop 1) <;> rfl
    refine ⟨_, rfl, 1, rfl, 4, rfl, -(4 : Nat), rfl, a, _, rfl, hS, fun l hl1 => ?_⟩
    rw [show cutV (ws.map V.str) (some 1) (some (-(4 : Nat))) = _ from cut_amid (a := 1) (b := 4) (by decide) (by omega)]
    have S1 := same_new (o := .lst (((ws.take (ws.length - 4)).drop 1).map V.str)) hl1
    refine ⟨l, _, rfl, SqL.of upd_same, lsub, wsub, fun e0 H1 s1 => ?_, fun ts e p refs H1 s1 np hp pr => ?_⟩
    · exact ⟨_, rfl, rfl, false, rfl, _, rfl, _, rfl, q0 (by rw [dm, e0]; rfl) _ (S1.trans s1)⟩
    · have sH := S1.trans s1
      have hS1 : SqL K H1 a (ws.map V.str) := sH.seq hS
      refine ⟨_, rfl, rfl, true, rfl, _, rfl, 3, rfl, a, _, -(3 : Nat), .str (at_ ws (ws.length - 3)), rfl, rfl, hS1, last (by decide) (by decide), _, rfl, 1, rfl, a, _, -(1 : Nat), .str (at_ ws (ws.length - 1)), rfl, rfl, hS1, last (by decide) (by decide), rfl, _, rfl, _, rfl, ite2 (fun e5 => ?_) fun e5 => q0 (by rw [dm, e]; exact if_neg fun z => z (neN e5)) _ sH⟩
      refine ⟨_, rfl, r, C, dx, _, .int (line : Nat), rfl, sH _ _ hR, RD.cls, RD.no _ (by simp), rfl, ?_⟩
      refine ⟨_, rfl, _, rfl, 3, rfl, a, _, -(3 : Nat), .str (at_ ws (ws.length - 3)), rfl, rfl, hS1, last (by decide) (by decide), _, rfl, 1, rfl, a, _, -(1 : Nat), .str (at_ ws (ws.length - 1)), rfl, rfl, hS1, last (by decide) (by decide), by show 5 ≤ sizeLine; decide, fun p5 hp5 => ?_⟩
      have S5 := same_new (o := .tup [.str "shift", .int (line : Nat), .ref p, .str (at_ ws (ws.length - 3)), .str (at_ ws (ws.length - 1))]) hp5
      exact q1 _ (by rw [dm, e]; exact if_pos (neE e5)) p5 _ (sH.trans S5) (sH.back hp5) (.shift upd_same ⟨refs, S5 _ _ hp, S5.paired pr⟩)
end
end Pk
namespace Pk
open L2 PyProof.Rows PySem.Spec PySem
section
variable {K : PySem.W.Frag} {P : Program} {w : World} {base : Heap} {mg : Str → Option Value} {C fI : Addr}
theorem sc_Reader_deed : FnScope ["self", "words", "found"] ["self", "words"] (defScope sDeed) := ⟨rfl, rfl, rfl, by decide +kernel, rfl, by decide +kernel, by decide +kernel⟩
theorem ok_Reader_deed {f fD fM aP aR : Addr} {fd fdD fdM : FuncData} (F : FunD K "deed" "Reader.deed" (defArgs sDeed) (defBody sDeed) (defScope sDeed) [] [] f fd) (RD : ReaderC K mg C fI) (FD : FunD K "divided" "divided" (defArgs sDiv) (defBody sDiv) (defScope sDiv) [] [] fD fdD)
    (FM : FunD K "moving" "Reader.moving" (defArgs sMoving) (defBody sMoving) (defScope sMoving) [] [] fM fdM) (GD : FnOk P w K mg base CX0 4 fD fdD ["words", "most"] (spDiv K)) (GM : FnOk P w K mg base CX0 4 fM fdM ["self", "words"] (spDeed K C movingM)) (gD : mg "divided" = some (.ref fD)) (mM : Meth K C "moving" fM) (mLen : mg "len" = none)
    (gMF : ∃ u, mg "MOST_FACTOR" = some u ∧ RelV (.int 12) u) (gPG : ∃ u, mg "PAGES" = some u ∧ RelV (.ref aP) u) (tP : ∀ H, SqT K H aP (PAGEL.map V.str)) (gRG : ∃ u, mg "REGISTERS" = some u ∧ RelV (.ref aR) u) (tR : ∀ H, SqT K H aR (REGL.map V.str)) : FnOk P w K mg base CX0 5 f fd ["self", "words"] (spDeed K C deedM) := by
  have bD : Binds K fdD ["words", "most"] [] := FD.bindsN fun _ _ _ _ _ _ us hl => match us, hl with | [_, _], _ => rfl
  have bM : Binds K fdM ["self", "words"] [] := FM.bindsN fun _ _ _ _ _ _ us hl => match us, hl with | [_, _], _ => rfl
  refine F.ok sc_Reader_deed (fun vs H Q E h => ?_) (fun cdv A outer s H vs Q E hr h => ?_)
  · obtain ⟨r, dx, tl, a, line, ws, rfl, _⟩ := h
    rfl
  · obtain ⟨r, dx, tl, a, line, ws, rfl, hR, hS, hl, hw, q0, q1⟩ := h
    have lenE : ∀ {n : Nat}, decide (V.int ((ws.map V.str).length : Nat) = V.int (n : Nat)) = true → ws.length = n := fun {n} e => by
      have z := V.int.inj (of_decide_eq_true e)
      rw [map_len] at z
      omega
    have lenN : ∀ {n : Nat}, ¬ decide (V.int ((ws.map V.str).length : Nat) = V.int (n : Nat)) = true → ¬ ws.length = n := fun e z => e (decide_eq_true (by rw [map_len, z]))
    refine ⟨_, PSs.nox (C8.pss_cut (by exact (ps_if (pt_cmpR (op_eqDK K rfl (Room.units hr)) (pv 1) (pe_lst (pa_cons pe_str pa_nil)) (nomark _)) (pss_one (by exact (ps_ret (pe_tup (pa_cons pe_str (pa_cons (pe_fld (pv 0) rfl) pa_nil)))))) pss_nil)) (C8.pss_cut (by exact (ps_if (PW.pt (pw_and (pt_cmpR op_gt (pe_callB call_len_seq (by rfl) mLen PySem.boot_len (pa_cons (pv 1) pa_nil)) pe_int (nomark _)) (pw_and (pt_cmpR (op_inK K rfl) (pe_ix (ix_listK K rfl) (pv 1) pe_int (fun _ _ => rfl)) (C8.pe_gc (v := .ref aR) rfl gRG) rfl) (pw_and1 (pt_cmpR op_eq (pe_ix (ix_listK K rfl) (pv 1) pe_int (fun _ _ => rfl)) pe_str (nomark _)))))) (pss_cons (by exact (ps_set (i := 2) sc_Reader_deed.nd rfl (Or.inl rfl) (pe_call GD (hr.mono (by decide)) rfl gD FD.kp bD .nil pass0 (pa_cons (pe_slice (sl_listK K rfl) (pv 1) (po_some pe_int) po_none) (pa_cons (C8.pe_gc (v := .int 12) rfl gMF) pa_nil))))) (pss_one (by exact (ps_ret (pe_ifExp (pt_cmp (pc_notN (pv 2))) (pe_tup (pa_cons pe_str (pa_cons (pe_fld (pv 0) rfl) (pa_cons (pe_ix (ix_listK K rfl) (pv 1) pe_int (fun _ _ => rfl)) (StX.pa_star (pv 2) pa_nil))))) pe_non))))) pss_nil)) (C8.pss_cut (by exact (ps_if (PW.pt (pw_and (pt_cmpR op_eq (pe_callB call_len_seq (by rfl) mLen PySem.boot_len (pa_cons (pv 1) pa_nil)) pe_int (nomark _)) (pw_and (pt_cmpR op_eq (pe_ix (ix_listK K rfl) (pv 1) pe_int (fun _ _ => rfl)) pe_str (nomark _)) (pw_and1 (pt_cmpR (op_inK K rfl) (pe_ix (ix_listK K rfl) (pv 1) pe_int (fun _ _ => rfl)) (C8.pe_gc (v := .ref aP) rfl gPG) rfl))))) (pss_one (by exact (ps_ret (pe_tup (pa_cons pe_str (pa_cons (pe_fld (pv 0) rfl) (pa_cons (pe_ix (ix_listK K rfl) (pv 1) pe_int (fun _ _ => rfl)) pa_nil))))))) pss_nil)) (C8.pss_cut (by exact (ps_if (PW.pt (pw_and (pt_cmpR op_eq (pe_callB call_len_seq (by rfl) mLen PySem.boot_len (pa_cons (pv 1) pa_nil)) pe_int (nomark _)) (pw_and (pt_cmpR op_eq (pe_ix (ix_listK K rfl) (pv 1) pe_int (fun _ _ => rfl)) pe_str (nomark _)) (pw_and (pt_cmpR (op_inK K rfl) (pe_ix (ix_listK K rfl) (pv 1) pe_int (fun _ _ => rfl)) (C8.pe_gc (v := .ref aP) rfl gPG) rfl) (pw_and1 (pt_cmpR (op_inK K rfl) (pe_ix (ix_listK K rfl) (pv 1) pe_int (fun _ _ => rfl)) (C8.pe_gc (v := .ref aP) rfl gPG) rfl)))))) (pss_one (by exact (ps_ret (pe_ifExp (pt_cmpR op_ne (pe_ix (ix_listK K rfl) (pv 1) pe_int (fun _ _ => rfl)) (pe_ix (ix_listK K rfl) (pv 1) pe_int (fun _ _ => rfl)) (nomark _)) (pe_tup (pa_cons pe_str (pa_cons (pe_fld (pv 0) rfl) (pa_cons (pe_ix (ix_listK K rfl) (pv 1) pe_int (fun _ _ => rfl)) (pa_cons (pe_ix (ix_listK K rfl) (pv 1) pe_int (fun _ _ => rfl)) pa_nil))))) pe_non)))) pss_nil)) (pss_one (by exact (ps_ret (pe_meth (pv 0) RD.cls mM GM (hr.mono (by decide)) bM .nil pass0 (pa_cons (pv 1) pa_nil))))))))), ?_⟩
    refine ⟨fun σ H' => σ = [some (.ref r), some (.ref a), none] ∧ Same H H' ∧ ¬ ws = [("quit" : Str)], ?_, ?_⟩
    · refine ⟨_, rfl, by show 1 ≤ sizeLine; decide, fun l hl1 => ?_⟩
      have S := same_new (o := .lst [.str "quit"]) hl1
      refine eq_words (ws := ws) (us := [("quit" : Str)]) (S.seq hS) (SqL.of upd_same) hw (fun w h => by rw [List.mem_singleton.mp h]; exact ⟨by decide +kernel, by decide +kernel⟩) ⟨_, rfl, ite2 (fun e => ?_) fun e => ⟨rfl, S, fun z => e (decide_eq_true z)⟩⟩
      have ew : ws = [("quit" : Str)] := of_decide_eq_true e
      refine ⟨_, rfl, r, C, dx, _, .int (line : Nat), rfl, S _ _ hR, RD.cls, RD.no _ (by simp), rfl, by show 2 ≤ sizeLine; decide, fun p hp => ?_⟩
      exact q1 _ (by unfold deedM; rw [if_pos ew]) p _ (S.step hp) (S.back hp) (.quit upd_same)
    rintro σ H1 ⟨rfl, S1, nq⟩
    have hS := S1.seq hS
    have hR := S1 _ _ hR
    have d1 : ∀ {x : Option Row}, (if 2 < ws.length ∧ at_ ws 0 ∈ REGL ∧ at_ ws 1 = "=" then (divM (ws.drop 2) 12).map fun x => .set line (at_ ws 0) x.1 x.2
      else if ws.length = 2 ∧ at_ ws 0 = "mark" ∧ at_ ws 1 ∈ PAGEL then some (.mark line (at_ ws 1))
      else if ws.length = 3 ∧ at_ ws 0 = "join" ∧ at_ ws 1 ∈ PAGEL ∧ at_ ws 2 ∈ PAGEL then (if at_ ws 1 ≠ at_ ws 2 then some (.join line (at_ ws 1) (at_ ws 2)) else none)
      else movingM line ws) = x → deedM line ws = x := fun e => by
      rw [← e]
      unfold deedM
      rw [if_neg nq]
    refine ⟨fun σ H' => σ = [some (.ref r), some (.ref a), none] ∧ H' = H1 ∧ ¬ (2 < ws.length ∧ at_ ws 0 ∈ REGL ∧ at_ ws 1 = "="), ?_, ?_⟩
    · refine ⟨_, rfl, a, _, rfl, .inl hS, _, _, rfl, rfl, _, rfl, ite2 (fun e => ?_) fun e => ⟨rfl, rfl, fun z => e (decide_eq_true (by rw [map_len]; have := z.1; omega))⟩⟩
      have l2 : 2 < ws.length := by
        have z : ((ws.map V.str).length : Int) > 2 := of_decide_eq_true e
        rw [map_len] at z
        omega
      refine ⟨_, rfl, a, _, _, .str (at_ ws 0), rfl, rfl, hS, at0 (by omega), aR, _, rfl, .inr (tR _), rfl, flat_strs, _, rfl, ite2 (fun e1 => ?_) fun e1 => ⟨rfl, rfl, fun z => inN e1 z.2.1⟩⟩
      refine ⟨_, rfl, a, _, _, .str (at_ ws 1), rfl, rfl, hS, at1 (by omega), rfl, _, rfl, ite2 (fun e2 => ?_) fun e2 => ⟨rfl, rfl, fun z => strN e2 z.2.2⟩⟩
      have C1 : 2 < ws.length ∧ at_ ws 0 ∈ REGL ∧ at_ ws 1 = "=" := ⟨l2, inE e1, strE e2⟩
      refine ⟨_, rfl, 2, rfl, a, _, rfl, hS, fun l hl1 => ?_⟩
      rw [show cutV (ws.map V.str) (some 2) none = _ from cut_from (n := 2)]
      have S2 := same_new (o := .lst ((ws.drop 2).map V.str)) hl1
      refine ⟨l, _, 12, rfl, SqL.of upd_same, by rw [List.length_drop]; omega, fun x h => (hw x (List.mem_of_mem_drop h)).1, fun e0 H' s' => ?_, fun x e p H' s' np hp => ?_⟩
      · exact ⟨_, rfl, _, rfl, q0 (d1 (by rw [if_pos C1, e0]; rfl)) _ (S1.trans (S2.trans s'))⟩
      · have sH := S2.trans s'
        obtain ⟨ql, refs, h1, h2, h3⟩ := id hp
        refine ⟨_, rfl, _, rfl, _, rfl, r, C, dx, _, .int (line : Nat), rfl, sH _ _ hR, RD.cls, RD.no _ (by simp), rfl, _, rfl, a, _, _, .str (at_ ws 0), rfl, rfl, sH.seq hS, at0 (by omega), _, rfl, p, _, rfl, .inl (SqT.of h1), by show 5 ≤ sizeLine; decide, fun p5 hp5 => ?_⟩
        have S5 := same_new (o := .tup [.str "set", .int (line : Nat), .str (at_ ws 0), .ref ql, natV x.2]) hp5
        exact q1 _ (d1 (by rw [if_pos C1, e]; rfl)) p5 _ (S1.trans (sH.trans S5)) (S1.back (sH.back hp5)) (.set upd_same ⟨refs, S5 _ _ h2, S5.paired h3⟩)
    rintro σ H2 ⟨rfl, rfl, n1⟩
    have d2 : ∀ {x : Option Row}, (if ws.length = 2 ∧ at_ ws 0 = "mark" ∧ at_ ws 1 ∈ PAGEL then some (.mark line (at_ ws 1))
      else if ws.length = 3 ∧ at_ ws 0 = "join" ∧ at_ ws 1 ∈ PAGEL ∧ at_ ws 2 ∈ PAGEL then (if at_ ws 1 ≠ at_ ws 2 then some (.join line (at_ ws 1) (at_ ws 2)) else none)
      else movingM line ws) = x → deedM line ws = x := fun e => d1 (by rw [if_neg n1]; exact e)
    refine ⟨fun σ H' => σ = [some (.ref r), some (.ref a), none] ∧ H' = H2 ∧ ¬ (ws.length = 2 ∧ at_ ws 0 = "mark" ∧ at_ ws 1 ∈ PAGEL), ?_, ?_⟩
    · refine ⟨_, rfl, a, _, rfl, .inl hS, rfl, _, rfl, ite2 (fun e => ?_) fun e => ⟨rfl, rfl, fun z => lenN (n := 2) e z.1⟩⟩
      have l2 : ws.length = 2 := lenE (n := 2) e
      refine ⟨_, rfl, a, _, _, .str (at_ ws 0), rfl, rfl, hS, at0 (by omega), rfl, _, rfl, ite2 (fun e1 => ?_) fun e1 => ⟨rfl, rfl, fun z => strN e1 z.2.1⟩⟩
      refine ⟨_, rfl, a, _, _, .str (at_ ws 1), rfl, rfl, hS, at1 (by omega), aP, _, rfl, .inr (tP _), rfl, flat_strs, _, rfl, ite2 (fun e2 => ?_) fun e2 => ⟨rfl, rfl, fun z => inN e2 z.2.2⟩⟩
      refine ⟨_, rfl, r, C, dx, _, .int (line : Nat), rfl, hR, RD.cls, RD.no _ (by simp), rfl, _, rfl, a, _, _, .str (at_ ws 1), rfl, rfl, hS, at1 (by omega), by show 3 ≤ sizeLine; decide, fun p hp => ?_⟩
      exact q1 _ (d2 (if_pos ⟨l2, strE e1, inE e2⟩)) p _ (S1.step hp) (S1.back hp) (.mark upd_same)
    rintro σ H3 ⟨rfl, rfl, n2⟩
    refine ⟨fun σ H' => σ = [some (.ref r), some (.ref a), none] ∧ H' = H3 ∧ ¬ (ws.length = 3 ∧ at_ ws 0 = "join" ∧ at_ ws 1 ∈ PAGEL ∧ at_ ws 2 ∈ PAGEL), ?_, ?_⟩
    · refine ⟨_, rfl, a, _, rfl, .inl hS, rfl, _, rfl, ite2 (fun e => ?_) fun e => ⟨rfl, rfl, fun z => lenN (n := 3) e z.1⟩⟩
      have l2 : ws.length = 3 := lenE (n := 3) e
      refine ⟨_, rfl, a, _, _, .str (at_ ws 0), rfl, rfl, hS, at0 (by omega), rfl, _, rfl, ite2 (fun e1 => ?_) fun e1 => ⟨rfl, rfl, fun z => strN e1 z.2.1⟩⟩
      refine ⟨_, rfl, a, _, _, .str (at_ ws 1), rfl, rfl, hS, at1 (by omega), aP, _, rfl, .inr (tP _), rfl, flat_strs, _, rfl, ite2 (fun e2 => ?_) fun e2 => ⟨rfl, rfl, fun z => inN e2 z.2.2.1⟩⟩
      refine ⟨_, rfl, a, _, _, .str (at_ ws 2), rfl, rfl, hS, at2 (by omega), aP, _, rfl, .inr (tP _), rfl, flat_strs, _, rfl, ite2 (fun e3 => ?_) fun e3 => ⟨rfl, rfl, fun z => inN e3 z.2.2.2⟩⟩
      have dm : deedM line ws = if at_ ws 1 ≠ at_ ws 2 then some (.join line (at_ ws 1) (at_ ws 2)) else none := d2 (by rw [if_neg n2, if_pos ⟨l2, strE e1, inE e2, inE e3⟩])
      refine ⟨_, rfl, a, _, _, .str (at_ ws 1), rfl, rfl, hS, at1 (by omega), _, rfl, a, _, _, .str (at_ ws 2), rfl, rfl, hS, at2 (by omega), rfl, _, rfl, ite2 (fun e5 => ?_) fun e5 => q0 (by rw [dm]; exact if_neg fun z => z (neN e5)) _ S1⟩
      refine ⟨_, rfl, r, C, dx, _, .int (line : Nat), rfl, hR, RD.cls, RD.no _ (by simp), rfl, _, rfl, a, _, _, .str (at_ ws 1), rfl, rfl, hS, at1 (by omega), _, rfl, a, _, _, .str (at_ ws 2), rfl, rfl, hS, at2 (by omega), by show 4 ≤ sizeLine; decide, fun p hp => ?_⟩
      exact q1 _ (by rw [dm]; exact if_pos (neE e5)) p _ (S1.step hp) (S1.back hp) (.join upd_same)
    rintro σ H4 ⟨rfl, rfl, n3⟩
    have dm : deedM line ws = movingM line ws := d2 (by rw [if_neg n2, if_neg n3])
    exact ⟨_, rfl, r, dx, _, rfl, hR, rfl, _, rfl, r, dx, tl, a, line, ws, rfl, hR, hS, hl, hw, fun e H' s' => q0 (by rw [dm]; exact e) _ (S1.trans s'), fun row e p H' s' np hp => q1 row (by rw [dm]; exact e) p _ (S1.trans s') (S1.back np) hp⟩
end
end Pk
namespace Pk
open L2 PyProof.Rows PySem.Spec PySem
def spPart (K : PySem.W.Frag) (C : Addr) : Sp := fun vs H Q E => ∃ (r dx tl a : Addr) (line : Nat) (ws : List Str), vs = [.ref r, .ref a] ∧ H r = some (.ins C dx (rdF tl line)) ∧ SqL K H a (ws.map V.str) ∧ ws.length ≤ 1000000 ∧ (∀ w ∈ ws, okW w) ∧
  (partM ws = none → Err1 K "BadLine" "line" (.int (line : Nat)) H E) ∧ ∀ p, partM ws = some p → ∀ t H', Same H H' → H t = none → PartAt H' t p → Q (.ref t) H'
def OptS (H : Hp) (v : V) : Option Term → Prop
  | none => v = .non
  | some t => ∃ p, v = .ref p ∧ SumAt H p [t]
theorem OptS.same {H H' : Hp} {v : V} {o : Option Term} (h : OptS H v o) (s : Same H H') : OptS H' v o := by
  cases o with
  | none => exact h
  | some t =>
    obtain ⟨p, e, h⟩ := h
    exact ⟨p, e, h.keep (Keeps.same (fr := fun _ => True) s)⟩
theorem side_any {w : Str} {H : Hp} {Q : VK} {E : XK} (hl : w.length ≤ 1000000) (q : ∀ v H', Same H H' → OptS H' v (sideM w) → Q v H') : spSide [.str w] H Q E :=
  ⟨w, rfl, hl, fun e H' s => q _ _ s (by rw [e]; rfl), fun t e p H' s n h => q _ _ s (by rw [e]; exact ⟨p, rfl, h⟩)⟩
section
variable {K : PySem.W.Frag} {P : Program} {w : World} {base : Heap} {mg : Str → Option Value} {C fI : Addr}
theorem sc_Reader_part : FnScope ["self", "words", "wanted", "rest", "one", "other"] ["self", "words"] (defScope sPart) := ⟨rfl, rfl, rfl, by decide +kernel, rfl, by decide +kernel, by decide +kernel⟩
theorem ok_Reader_part {f fS aP : Addr} {fd fdS : FuncData} (F : FunD K "part" "Reader.part" (defArgs sPart) (defBody sPart) (defScope sPart) [] [] f fd) (RD : ReaderC K mg C fI) (FS : FunD K "side_of" "side_of" (defArgs sSide) (defBody sSide) (defScope sSide) [] [] fS fdS)
    (GS : FnOk P w K mg base CX0 3 fS fdS ["word"] spSide) (gS : mg "side_of" = some (.ref fS)) (mLen : mg "len" = none) (ER : Errs P K mg) (gPG : ∃ u, mg "PAGES" = some u ∧ RelV (.ref aP) u) (tP : ∀ H, SqT K H aP (PAGEL.map V.str)) : FnOk P w K mg base (L2.CX P w) 4 f fd ["self", "words"] (spPart K C) := by
  have bS : Binds K fdS ["word"] [] := FS.bindsN fun _ _ _ _ _ _ us hl => match us, hl with | [_], _ => rfl
  refine F.ok sc_Reader_part (fun vs H Q E h => ?_) (fun cdv A outer s H vs Q E hr h => ?_)
  · obtain ⟨r, dx, tl, a, line, ws, rfl, _⟩ := h
    rfl
  · obtain ⟨r, dx, tl, a, line, ws, rfl, hR, hS, hl, hw, q0, q1⟩ := h
    obtain ⟨_, IBadLine⟩ := ER.iBadLine
    refine ⟨_, (pss_cons (by exact (ps_set (i := 2) sc_Reader_part.nd rfl (Or.inl rfl) (pe_cmpR (op_neDK K rfl (Room.units hr)) (pe_slice (sl_listK K rfl) (pv 1) po_none (po_some pe_int)) (pe_lst (pa_cons pe_str pa_nil)) (nomark _)))) (C8.pss_cut (by exact (ps_set (i := 3) sc_Reader_part.nd rfl (Or.inl rfl) (pe_ifExp (pt_val (pv 2)) (pv 1) (pe_slice (sl_listK K rfl) (pv 1) (po_some pe_int) po_none)))) (C8.pss_cut (by exact (ps_if (PW.pt (pw_and (pt_cmpR op_eq (pe_callB call_len_seq (by rfl) mLen PySem.boot_len (pa_cons (pv 3) pa_nil)) pe_int (nomark _)) (pw_and (pt_cmpR (op_eqDK K rfl (Room.units hr)) (pe_slice (sl_listK K rfl) (pv 3) po_none (po_some pe_int)) (pe_lst (pa_cons pe_str (pa_cons pe_str pa_nil))) (nomark _)) (pw_and1 (pt_cmpR (op_inK K rfl) (pe_ix (ix_listK K rfl) (pv 3) pe_int (fun _ _ => rfl)) (C8.pe_gc (v := .ref aP) rfl gPG) rfl))))) (pss_one (by exact (ps_ret (pe_tup (pa_cons pe_str (pa_cons (pe_ix (ix_listK K rfl) (pv 3) pe_int (fun _ _ => rfl)) (pa_cons (pv 2) pa_nil))))))) pss_nil)) (C8.pss_cut (by exact (ps_if (PW.pt (pw_and (pt_cmpR op_eq (pe_callB call_len_seq (by rfl) mLen PySem.boot_len (pa_cons (pv 3) pa_nil)) pe_int (nomark _)) (pw_and1 (pt_cmpR op_ne (pe_ix (ix_listK K rfl) (pv 3) pe_int (fun _ _ => rfl)) (pe_ix (ix_listK K rfl) (pv 3) pe_int (fun _ _ => rfl)) (nomark _))))) (pss_cons (by exact (ps_par (i := 4) (j := 5) rfl sc_Reader_part.nd rfl rfl (by decide) rfl rfl (pa_cons (pe_call GS (hr.mono (by decide)) rfl gS FS.kp bS .nil pass0 (pa_cons (pe_ix (ix_listK K rfl) (pv 3) pe_int (fun _ _ => rfl)) pa_nil)) (pa_cons (pe_call GS (hr.mono (by decide)) rfl gS FS.kp bS .nil pass0 (pa_cons (pe_ix (ix_listK K rfl) (pv 3) pe_int (fun _ _ => rfl)) pa_nil)) pa_nil)) rfl)) (C8.pss_cut (by exact (ps_if (PW.pt (pw_and (pt_cmp (pc_notN (pv 4))) (pw_and (pt_cmp (pc_notN (pv 5))) (pw_and1 (pt_cmpR (op_inK K rfl) (pe_ix (ix_listK K rfl) (pv 3) pe_int (fun _ _ => rfl)) (pe_tup (pa_cons pe_str (pa_cons pe_str pa_nil))) rfl))))) (pss_one (by exact (ps_ret (pe_tup (pa_cons pe_str (pa_cons (pv 4) (pa_cons (pv 5) (pa_cons (pe_cmpR op_eq (pe_ix (ix_listK K rfl) (pv 3) pe_int (fun _ _ => rfl)) pe_str (nomark _)) (pa_cons (pv 2) pa_nil))))))))) pss_nil)) (pss_one (by exact (ps_if (PW.pt (pw_and (pt_cmp (pc_notN (pv 4))) (pw_and (pt_cmp (pc_notN (pv 5))) (pw_and1 (pt_cmpR op_eq (pe_ix (ix_listK K rfl) (pv 3) pe_int (fun _ _ => rfl)) pe_str (nomark _)))))) (pss_one (by exact (ps_ret (pe_tup (pa_cons pe_str (pa_cons (pv 4) (pa_cons (pv 5) (pa_cons (pv 2) pa_nil)))))))) pss_nil))))) pss_nil)) (pss_one (by exact (ps_raise rfl (takes_of rfl rfl rfl rfl) (pmk_sup1 IBadLine.sup (okIBadLine IBadLine ER.mS ER.hP) (hr.mono (by decide)) (bIBadLine IBadLine) pass0 rfl (pe_fld (pv 0) rfl))))))))), ?_⟩
    refine ⟨_, rfl, 1, rfl, a, _, rfl, hS, fun l hl1 => ?_⟩
    rw [show cutV (ws.map V.str) none (some 1) = _ from cut_to (n := 1)]
    have S1 := same_new (o := .lst ((ws.take 1).map V.str)) hl1
    refine ⟨by show 1 ≤ sizeLine; decide, fun l2 hl2 => ?_⟩
    have S2 := S1.step (o := .lst [.str "not"]) hl2
    refine ne_words (ws := ws.take 1) (us := [("not" : Str)]) (SqL.of (same_new hl2 _ _ upd_same)) (SqL.of upd_same) (fun w h => hw w (List.mem_of_mem_take h)) (fun w h => by rw [List.mem_singleton.mp h]; exact ⟨by decide +kernel, by decide +kernel⟩) ?_
    have hwM : (!decide (ws.take 1 = [("not" : Str)])) = wantedM ws := rfl
    rw [hwM]
    generalize hwv : wantedM ws = wv
    have rs : restM ws = if wv = true then ws else ws.drop 1 := by
      unfold restM
      rw [hwv]
    have ok0 : ∀ w ∈ restM ws, okW w := fun w h => by
      rw [rs] at h
      split at h
      · exact hw w h
      · exact hw w (List.mem_of_mem_drop h)
    refine ⟨fun σ H' => ∃ b : Addr, σ = [some (.ref r), some (.ref a), some (.bl wv), some (.ref b), none, none] ∧ Same H H' ∧ SqL K H' b ((restM ws).map V.str), ?_, ?_⟩
    · refine ⟨_, rfl, _, rfl, ite2 (fun e => ?_) fun e => ?_⟩
      · exact ⟨_, rfl, a, rfl, S2, by rw [rs, if_pos e]; exact S2.seq hS⟩
      · refine ⟨_, rfl, 1, rfl, a, _, rfl, S2.seq hS, fun l3 hl3 => ?_⟩
        rw [show cutV (ws.map V.str) (some 1) none = _ from cut_from (n := 1)]
        exact ⟨l3, rfl, S2.step hl3, by rw [rs, if_neg e]; exact SqL.of upd_same⟩
    clear rs S1 S2 hl1 hl2 hwM
    rintro σ H1 ⟨b, rfl, S1, hB⟩
    have hR1 := S1 _ _ hR
    have pm : partM ws = (if (restM ws).length = 3 ∧ (restM ws).take 2 = [("there" : Str), ("is" : Str)] ∧ at_ (restM ws) 2 ∈ PAGEL then some (.there (at_ (restM ws) 2) wv)
      else if (restM ws).length = 3 ∧ at_ (restM ws) 0 ≠ at_ (restM ws) 2 then (sideM (at_ (restM ws) 0)).bind fun a => (sideM (at_ (restM ws) 2)).bind fun b => if at_ (restM ws) 1 = "<" ∨ at_ (restM ws) 1 = "<=" then some (.less a b (decide (at_ (restM ws) 1 = "<")) wv) else if at_ (restM ws) 1 = "is" then some (.same a b wv) else none
      else none) := by
      unfold partM
      rw [hwv]
      cases sideM (at_ (restM ws) 0) <;> cases sideM (at_ (restM ws) 2) <;> rfl
    generalize restM ws = us at hB ok0 pm
    have lenE : ∀ {n : Nat}, decide (V.int ((us.map V.str).length : Nat) = V.int (n : Nat)) = true → us.length = n := fun {n} e => by
      have z := V.int.inj (of_decide_eq_true e)
      rw [map_len] at z
      omega
    have lenN : ∀ {n : Nat}, ¬ decide (V.int ((us.map V.str).length : Nat) = V.int (n : Nat)) = true → ¬ us.length = n := fun e z => e (decide_eq_true (by rw [map_len, z]))
    refine ⟨fun σ H' => σ = [some (.ref r), some (.ref a), some (.bl wv), some (.ref b), none, none] ∧ Same H H' ∧ SqL K H' b (us.map V.str) ∧ ¬ (us.length = 3 ∧ us.take 2 = [("there" : Str), ("is" : Str)] ∧ at_ us 2 ∈ PAGEL), ?_, ?_⟩
    · refine ⟨_, rfl, b, _, rfl, .inl hB, rfl, _, rfl, ite2 (fun e => ?_) fun e => ⟨rfl, S1, hB, fun z => lenN (n := 3) e z.1⟩⟩
      have l3 : us.length = 3 := lenE (n := 3) e
      refine ⟨_, rfl, 2, rfl, b, _, rfl, hB, fun l hl1 => ?_⟩
      rw [show cutV (us.map V.str) none (some 2) = _ from cut_to (n := 2)]
      have T1 := same_new (o := .lst ((us.take 2).map V.str)) hl1
      refine ⟨by show 2 ≤ sizeLine; decide, fun l2 hl2 => ?_⟩
      have T2 := T1.step (o := .lst [.str "there", .str "is"]) hl2
      refine eq_words (ws := us.take 2) (us := [("there" : Str), ("is" : Str)]) (SqL.of (same_new hl2 _ _ upd_same)) (SqL.of upd_same) (fun w h => ok0 w (List.mem_of_mem_take h)) (fun w h => by
        simp only [List.mem_cons, List.not_mem_nil, or_false] at h
        rcases h with h | h <;> rw [h] <;> exact ⟨by decide +kernel, by decide +kernel⟩) ?_
      refine ⟨_, rfl, ite2 (fun e1 => ?_) fun e1 => ⟨rfl, S1.trans T2, T2.seq hB, fun z => e1 (decide_eq_true z.2.1)⟩⟩
      refine ⟨_, rfl, b, _, _, .str (at_ us 2), rfl, rfl, T2.seq hB, at2 (by omega), aP, _, rfl, .inr (tP _), rfl, flat_strs, _, rfl, ite2 (fun e2 => ?_) fun e2 => ⟨rfl, S1.trans T2, T2.seq hB, fun z => inN e2 z.2.2⟩⟩
      refine ⟨_, rfl, b, _, _, .str (at_ us 2), rfl, rfl, T2.seq hB, at2 (by omega), _, rfl, by show 3 ≤ sizeLine; decide, fun p hp => ?_⟩
      exact q1 _ (by rw [pm, if_pos ⟨l3, of_decide_eq_true e1, inE e2⟩]) p _ ((S1.trans T2).step hp) ((S1.trans T2).back hp) (.there upd_same)
    rintro σ H2 ⟨rfl, S2, hB2, n1⟩
    rw [if_neg n1] at pm
    have bad : ∀ {H'}, Same H H' → partM ws = none → Err1 K "BadLine" "line" (.int (line : Nat)) H' E := fun s e d H3 s3 n3 => q0 e d H3 (s.trans s3) n3
    refine ⟨fun σ H' => (∃ y4 y5, σ = [some (.ref r), some (.ref a), some (.bl wv), some (.ref b), y4, y5]) ∧ Same H H' ∧ partM ws = none, ?_, ?_⟩
    · refine ⟨_, rfl, b, _, rfl, .inl hB2, rfl, _, rfl, ite2 (fun e => ?_) fun e => ⟨⟨_, _, rfl⟩, S2, by rw [pm, if_neg fun z => lenN (n := 3) e z.1]⟩⟩
      have l3 : us.length = 3 := lenE (n := 3) e
      refine ⟨_, rfl, b, _, _, .str (at_ us 0), rfl, rfl, hB2, at0 (by omega), _, rfl, b, _, _, .str (at_ us 2), rfl, rfl, hB2, at2 (by omega), rfl, _, rfl, ite2 (fun e1 => ?_) fun e1 => ⟨⟨_, _, rfl⟩, S2, by rw [pm, if_neg fun z => z.2 (neN e1)]⟩⟩
      rw [if_pos ⟨l3, neE e1⟩] at pm
      have ow : ∀ {i : Nat}, i < 3 → (at_ us i).length ≤ 1000000 := fun h => (ok0 _ (at_mem (by omega))).1
      refine ⟨_, rfl, b, _, _, .str (at_ us 0), rfl, rfl, hB2, at0 (by omega), ?_⟩
      dsimp only [tNil]
      refine side_any (w := at_ us 0) (ow (i := 0) (by decide)) fun v4 H4 s4 o4 => ?_
      refine ⟨_, rfl, b, _, _, .str (at_ us 2), rfl, rfl, s4.seq hB2, at2 (by omega), ?_⟩
      dsimp only [tNil]
      refine side_any (w := at_ us 2) (ow (i := 2) (by decide)) fun v5 H5 s5 o5 => ?_
      refine ⟨_, _, rfl, ?_⟩
      have S5 := S2.trans (s4.trans s5)
      have hB5 := (s4.trans s5).seq hB2
      have o4 := o4.same s5
      have none_ : (sideM (at_ us 0) = none ∨ sideM (at_ us 2) = none) → partM ws = none := fun z => by
        rw [pm]
        rcases z with z | z
        · rw [z]
          rfl
        · rw [z]
          cases sideM (at_ us 0) <;> rfl
      cases e4 : sideM (at_ us 0) with
      | none =>
        rw [e4] at o4
        have o4 : v4 = .non := o4
        subst o4
        refine ⟨fun σ H' => σ = [some (.ref r), some (.ref a), some (.bl wv), some (.ref b), some .non, some v5] ∧ H' = H5, ⟨_, rfl, _, rfl, rfl, rfl⟩, ?_⟩
        rintro σ H' ⟨rfl, rfl⟩
        exact ⟨_, rfl, _, rfl, ⟨_, _, rfl⟩, S5, none_ (.inl e4)⟩
      | some t4 => cases e5 : sideM (at_ us 2) with
        | none =>
          rw [e5] at o5
          have o5 : v5 = .non := o5
          subst o5
          rw [e4] at o4
          obtain ⟨p4, rfl, h4⟩ := o4
          refine ⟨fun σ H' => σ = [some (.ref r), some (.ref a), some (.bl wv), some (.ref b), some (.ref p4), some .non] ∧ H' = H5, ⟨_, rfl, _, rfl, _, rfl, _, rfl, rfl, rfl⟩, ?_⟩
          rintro σ H' ⟨rfl, rfl⟩
          exact ⟨_, rfl, _, rfl, _, rfl, _, rfl, ⟨_, _, rfl⟩, S5, none_ (.inr e5)⟩
        | some t5 =>
          rw [e5] at o5
          rw [e4] at o4
          obtain ⟨p4, rfl, h4⟩ := o4
          obtain ⟨p5, rfl, h5⟩ := o5
          have pm : partM ws = if at_ us 1 = "<" ∨ at_ us 1 = "<=" then some (.less t4 t5 (decide (at_ us 1 = "<")) wv) else if at_ us 1 = "is" then some (.same t4 t5 wv) else none := by
            rw [pm, e4, e5]
            rfl
          refine ⟨fun σ H' => σ = [some (.ref r), some (.ref a), some (.bl wv), some (.ref b), some (.ref p4), some (.ref p5)] ∧ Same H5 H' ∧ ¬ (at_ us 1 = "<" ∨ at_ us 1 = "<="), ?_, ?_⟩
          · refine ⟨_, rfl, _, rfl, _, rfl, _, rfl, _, rfl, b, _, _, .str (at_ us 1), rfl, rfl, hB5, at1 (by omega), by show 2 ≤ sizeLine; decide, fun t2 ht2 => ?_⟩
            have T := same_new (o := .tup [.str "<", .str "<="]) ht2
            refine ⟨t2, _, rfl, .inr (SqT.of upd_same), rfl, rfl, _, rfl, ite2 (fun e6 => ?_) fun e6 => ⟨rfl, T, fun z => inN (l := ["<", "<="]) e6 (by rcases z with z | z <;> rw [z] <;> simp)⟩⟩
            have m6 : at_ us 1 = "<" ∨ at_ us 1 = "<=" := by
              have z := inE (l := ["<", "<="]) e6
              simpa using z
            refine ⟨_, rfl, _, rfl, _, rfl, b, _, _, .str (at_ us 1), rfl, rfl, T.seq hB5, at1 (by omega), rfl, _, rfl, by show 5 ≤ sizeLine; decide, fun p hp => ?_⟩
            have T2 := same_new (o := .tup [.str "less", .ref p4, .ref p5, .bl (decide (V.str (at_ us 1) = V.str "<")), .bl wv]) hp
            have eD : decide (V.str (at_ us 1) = V.str "<") = decide (at_ us 1 = "<") := decide_eq_decide.mpr ⟨V.str.inj, fun z => by rw [z]⟩
            refine q1 _ (by rw [pm, if_pos m6]) p _ (S5.trans (T.trans T2)) (S5.back (T.back hp)) (.less (p := p4) (q := p5) ?_ (h4.keep (Keeps.same (fr := fun _ => True) (T.trans T2))) (h5.keep (Keeps.same (fr := fun _ => True) (T.trans T2))))
            rw [← eD]
            exact upd_same
          rintro σ H6 ⟨rfl, S6, n6⟩
          refine ⟨_, rfl, _, rfl, _, rfl, _, rfl, _, rfl, b, _, _, .str (at_ us 1), rfl, rfl, S6.seq hB5, at1 (by omega), rfl, _, rfl, ite2 (fun e7 => ?_) fun e7 => ⟨⟨_, _, rfl⟩, S5.trans S6, by rw [pm, if_neg n6, if_neg (strN e7)]⟩⟩
          refine ⟨_, rfl, _, rfl, _, rfl, by show 4 ≤ sizeLine; decide, fun p hp => ?_⟩
          have T2 := same_new (o := .tup [.str "same", .ref p4, .ref p5, .bl wv]) hp
          exact q1 _ (by rw [pm, if_neg n6, if_pos (strE e7)]) p _ (S5.trans (S6.trans T2)) (S5.back (S6.back hp)) (.same upd_same (h4.keep (Keeps.same (fr := fun _ => True) (S6.trans T2))) (h5.keep (Keeps.same (fr := fun _ => True) (S6.trans T2))))
    rintro σ H3 ⟨⟨y4, y5, rfl⟩, S3, e⟩
    exact ⟨_, rfl, r, C, dx, _, .int (line : Nat), rfl, S3 _ _ hR, RD.cls, RD.no _ (by simp), rfl, fun d hd => bad S3 e d _ (Same.refl _) hd⟩
end
end Pk
namespace Pk
open L2 PyProof.Rows PySem.Spec PySem
def spParts (K : PySem.W.Frag) (C : Addr) : Sp := fun vs H Q E => ∃ (r dx tl a : Addr) (line : Nat) (ws : List Str), vs = [.ref r, .ref a] ∧ H r = some (.ins C dx (rdF tl line)) ∧ SqL K H a (ws.map V.str) ∧ ws.length ≤ 900000 ∧ (∀ w ∈ ws, okW w) ∧
  (partsM ws = none → Err1 K "BadLine" "line" (.int (line : Nat)) H E) ∧ ∀ ps, partsM ws = some ps → ∀ t H', Same H H' → H t = none → PartsAt H' t ps → Q (.ref t) H'
theorem paired_snoc {α β : Type} {R : α → β → Prop} {a : α} {b : β} (h : R a b) : ∀ {xs : List α} {ys : List β}, Paired R xs ys → Paired R (xs ++ [a]) (ys ++ [b])
  | _, _, .nil => .cons h .nil
  | _, _, .cons r rs => .cons r (paired_snoc h rs)
structure PartsI (K : PySem.W.Frag) (H0 : Hp) (ws : List Str) (fa pt la : Addr) (i : Nat) (refs : List Addr) (found : List Part) (part : List Str) (H : Hp) : Prop where
  same : Same H0 H
  nf : H0 fa = none
  np : H0 pt = none
  ne : fa ≠ pt
  hf : H fa = some (.lst (refs.map V.ref))
  hp : H pt = some (.lst (part.map V.str))
  hl : H la = some (.lst ((ws ++ [("and" : Str)]).map V.str))
  lf : la ≠ fa
  lp : la ≠ pt
  pr : Paired (PartAt H) refs found
  ok : ∀ w ∈ part, okW w
  len : part.length ≤ i
  fl : found.length ≤ i
  go : partsGo (ws ++ [("and" : Str)]) [] [] = partsGo ((ws ++ [("and" : Str)]).drop i) found part
section
variable {K : PySem.W.Frag} {P : Program} {w : World} {base : Heap} {mg : Str → Option Value} {C fI : Addr}
theorem sc_Reader_read_parts : FnScope ["self", "words", "found", "part", "word"] ["self", "words"] (defScope sParts) := ⟨rfl, rfl, rfl, by decide +kernel, rfl, by decide +kernel, by decide +kernel⟩
theorem ok_Reader_read_parts {f fP : Addr} {fd fdP : FuncData} (F : FunD K "read_parts" "Reader.read_parts" (defArgs sParts) (defBody sParts) (defScope sParts) [] [] f fd) (RD : ReaderC K mg C fI) (FP : FunD K "part" "Reader.part" (defArgs sPart) (defBody sPart) (defScope sPart) [] [] fP fdP)
    (GP : FnOk P w K mg base (L2.CX P w) 4 fP fdP ["self", "words"] (spPart K C)) (mP : Meth K C "part" fP) (mLen : mg "len" = none) (mTuple : mg "tuple" = none) (ER : Errs P K mg) (gMP : ∃ u, mg "MOST_PARTS" = some u ∧ RelV (.int 4) u) : FnOk P w K mg base (L2.CX P w) 5 f fd ["self", "words"] (spParts K C) := by
  have bP : Binds K fdP ["self", "words"] [] := FP.bindsN fun _ _ _ _ _ _ us hl => match us, hl with | [_, _], _ => rfl
  refine F.ok sc_Reader_read_parts (fun vs H Q E h => ?_) (fun cdv A outer s H vs Q E hr h => ?_)
  · obtain ⟨r, dx, tl, a, line, ws, rfl, _⟩ := h
    rfl
  · obtain ⟨r, dx, tl, a, line, ws, rfl, hR, hS, hl, hw, q0, q1⟩ := h
    obtain ⟨_, IBadLine⟩ := ER.iBadLine
    have hand : okW ("and" : Str) := ⟨by decide +kernel, by decide +kernel⟩
    refine ⟨_, (pss_cons (by exact (ps_set (i := 2) sc_Reader_read_parts.nd rfl (Or.inl rfl) (pe_lst pa_nil))) (pss_cons (by exact (ps_set (i := 3) sc_Reader_read_parts.nd rfl (Or.inl rfl) (pe_lst pa_nil))) (pss_cons (by exact (ps_for (passes_of rfl) rfl (pi_list (pe_lst (StX.pa_star (pv 1) (pa_cons pe_str pa_nil)))) (pg_name (i := 4) sc_Reader_read_parts.nd rfl (Or.inl rfl)) (pss_one (by exact (ps_if (pt_cmpR op_eq (pv 4) pe_str (nomark _)) (pss_cons (by exact (ps_expr (pe_bm PySem.F.plainAttrs_list PySem.F.slot_list_append PySem.F.type_list_append mt_append (pv 2) (pa_cons (pe_meth (pv 0) RD.cls mP GP (hr.mono (by decide)) bP .nil (passes_call (takes_of rfl rfl rfl rfl) (fun _ _ _ _ h => h)) (pa_cons (pv 3) pa_nil)) pa_nil)))) (pss_one (by exact (ps_set (i := 3) sc_Reader_read_parts.nd rfl (Or.inl rfl) (pe_lst pa_nil))))) (pss_one (by exact (ps_expr (pe_bm PySem.F.plainAttrs_list PySem.F.slot_list_append PySem.F.type_list_append mt_append (pv 3) (pa_cons (pv 4) pa_nil)))))))))) (pss_cons (by exact (ps_if (pt_cmpR op_gt (pe_callB call_len_seq (by rfl) mLen PySem.boot_len (pa_cons (pv 2) pa_nil)) (C8.pe_gc (v := .int 4) rfl gMP) (nomark _)) (pss_one (by exact (ps_raise rfl (takes_of rfl rfl rfl rfl) (pmk_sup1 IBadLine.sup (okIBadLine IBadLine ER.mS ER.hP) (hr.mono (by decide)) (bIBadLine IBadLine) pass0 rfl (pe_fld (pv 0) rfl))))) pss_nil)) (pss_one (by exact (ps_ret (pe_callTy call_tuple_of (by rfl) mTuple (by decide +kernel) (pa_cons (pv 2) pa_nil))))))))), ?_⟩
    refine ⟨by show 0 ≤ sizeLine; decide, fun fa hfa => ⟨by show 0 ≤ sizeLine; decide, fun pt hpt => ?_⟩⟩
    have S2 := (same_new (o := .lst []) hfa).step (o := .lst []) hpt
    refine ⟨_, rfl, a, _, rfl, .inr (S2.seq hS), by show (ws.map V.str ++ [V.str "and"]).length ≤ sizeLine; rw [List.length_append, List.length_map]; exact Nat.le_trans (Nat.succ_le_succ hl) (by decide), fun la hla => ?_⟩
    have eqL : ws.map V.str ++ [V.str "and"] = (ws ++ [("and" : Str)]).map V.str := by
      rw [List.map_append]
      rfl
    rw [eqL]
    have S3 := S2.step (o := .lst ((ws ++ [("and" : Str)]).map V.str)) hla
    have n1 : fa ≠ pt := fun z => by
      rw [← z, upd_same] at hpt
      cases hpt
    have f1 : upd (upd H fa (.lst [])) pt (.lst []) fa = some (.lst []) := by
      rw [upd_ne n1]
      exact upd_same
    have n2 : la ≠ fa := fun z => by
      rw [z, f1] at hla
      cases hla
    have n3 : la ≠ pt := fun z => by
      rw [z, upd_same] at hla
      cases hla
    have npt : H pt = none := (same_new (o := .lst []) hfa).back hpt
    have lenw : (ws ++ [("and" : Str)]).length ≤ 900001 := by
      rw [List.length_append]
      exact Nat.succ_le_succ hl
    have okA : ∀ w ∈ ws ++ [("and" : Str)], okW w := fun w h => by
      rcases (List.mem_append.mp h) with h | h
      · exact hw w h
      · rw [List.mem_singleton.mp h]
        exact hand
    have bad : ∀ {H'}, Same H H' → partsM ws = none → Err1 K "BadLine" "line" (.int (line : Nat)) H' E := fun s e d H3 s3 n3 => q0 e d H3 (s.trans s3) n3
    refine ⟨la, rfl, ⟨_, SqL.of upd_same⟩, for_list (K := K) (a := la) (xs := (ws ++ [("and" : Str)]).map V.str) (fun i σ H' => ∃ (refs : List Addr) (found : List Part) (part : List Str) (pt : Addr) (v4 : Option V), σ = [some (.ref r), some (.ref a), some (.ref fa), some (.ref pt), v4] ∧ PartsI K H ws fa pt la i refs found part H') ?_ ?_ ?_ ?_⟩
    · refine ⟨[], [], [], pt, none, rfl, S3, hfa, npt, n1, ?_, ?_, upd_same, n2, n3, .nil, fun w h => (by cases h), Nat.le_refl _, Nat.le_refl _, rfl⟩
      · rw [upd_ne (Ne.symm n2)]
        exact f1
      · rw [upd_ne (Ne.symm n3)]
        exact upd_same
    · rintro i σ H' _ ⟨refs, found, part, pt, v4, rfl, I⟩
      exact SqL.of I.hl
    · rintro i v σ H' hi ⟨refs, found, part, pt, v4, rfl, I⟩
      obtain ⟨x, hx, rfl⟩ : ∃ x, (ws ++ [("and" : Str)])[i]? = some x ∧ v = .str x := by
        rw [List.getElem?_map] at hi
        cases e : (ws ++ [("and" : Str)])[i]? with
        | none => rw [e] at hi; cases hi
        | some x => rw [e] at hi; exact ⟨x, rfl, (Option.some.inj hi).symm⟩
      have hlt := (List.getElem?_eq_some_iff.mp hx).1
      have hdr : (ws ++ [("and" : Str)]).drop i = x :: (ws ++ [("and" : Str)]).drop (i + 1) := by
        rw [List.drop_eq_getElem_cons hlt]; rw [List.getElem?_eq_getElem hlt] at hx
        rw [Option.some.inj hx]
      have go := I.go
      rw [hdr] at go
      refine ⟨_, rfl, rfl, _, rfl, ite2 (fun e => ?_) fun e => ?_⟩
      · have ex : x = "and" := strE e
        rw [partsGo, if_pos ex] at go
        refine ⟨_, rfl, .inl ⟨rfl, _, SqL.of I.hf⟩, ?_⟩
        refine ⟨_, rfl, r, dx, _, rfl, I.same _ _ hR, rfl, _, rfl, r, dx, tl, pt, line, part, rfl, I.same _ _ hR, SqL.of I.hp, by have := I.len; omega, I.ok, fun e0 => ?_, fun p e1 t H4 s4 n4 h4 => ?_⟩
        · refine bad I.same ?_
          unfold partsM
          rw [go, e0]
        · rw [e1] at go
          have hf4 := s4 _ _ I.hf
          refine ⟨fa, _, _, rfl, rfl, hf4, ?_, ?_⟩
          · rw [List.length_map, ← paired_len I.pr]
            exact Nat.lt_of_le_of_lt I.fl (Nat.lt_of_lt_of_le (show i < 1000000 by omega) (by decide))
          · refine ⟨by show 0 ≤ sizeLine; decide, fun pn hpn => ?_⟩
            have tf : t ≠ fa := fun z => by
              rw [z, I.hf] at n4
              cases n4
            have kk : ∀ b xs, H4 b = some (.tup xs) → upd H4 fa (.lst (refs.map V.ref ++ [V.ref t])) b = some (.tup xs) := fun b xs h => by
              rw [upd_ne (fun z => by rw [z, hf4] at h; cases h)]
              exact h
            have pnf : pn ≠ fa := fun z => by
              rw [z, upd_same] at hpn
              cases hpn
            have npn : H pn = none := I.same.back (s4.back (by rw [upd_ne pnf] at hpn; exact hpn))
            have kp : Keeps (fun _ => False) H4 (upd (upd H4 fa (.lst (refs.map V.ref ++ [V.ref t]))) pn (.lst [])) := ⟨fun b xs h => same_new hpn _ _ (kk b xs h), fun b xs h => h.elim⟩
            have sm : Same H (upd (upd H4 fa (.lst (refs.map V.ref ++ [V.ref t]))) pn (.lst [])) := fun b o h => by
              refine same_new hpn _ _ ?_
              rw [upd_ne (fun z => by rw [z, I.nf] at h; cases h)]
              exact s4 _ _ (I.same _ _ h)
            refine ⟨refs ++ [t], found ++ [p], [], pn, _, rfl, sm, I.nf, npn, Ne.symm pnf, ?_, upd_same, ?_, I.lf, ?_, ?_, fun w h => (by cases h), Nat.zero_le _, ?_, go⟩
            · rw [upd_ne (Ne.symm pnf), upd_same, List.map_append]
              rfl
            · refine same_new hpn _ _ ?_
              rw [upd_ne I.lf]
              exact s4 _ _ I.hl
            · intro z
              rw [← z, upd_ne I.lf, s4 _ _ I.hl] at hpn
              cases hpn
            · refine paired_snoc (h4.keep kp) (Paired.mapP I.pr fun _ _ h => ?_)
              exact (h.keep (Keeps.same (fr := fun _ => True) s4)).keep kp
            · rw [List.length_append]
              have := I.fl
              show _ + 1 ≤ i + 1
              omega
      · have ex : ¬ x = "and" := strN e
        rw [partsGo, if_neg ex] at go
        refine ⟨_, rfl, .inl ⟨rfl, _, SqL.of I.hp⟩, _, rfl, pt, _, _, rfl, rfl, I.hp, ?_, ?_⟩
        · rw [List.length_map]
          exact Nat.lt_of_le_of_lt I.len (Nat.lt_of_lt_of_le (show i < 1000000 by omega) (by decide))
        · have kp : Keeps (fun _ => False) H' (upd H' pt (.lst (part.map V.str ++ [V.str x]))) := ⟨fun b xs h => by
            rw [upd_ne (fun z => by rw [z, I.hp] at h; cases h)]
            exact h, fun b xs h => h.elim⟩
          refine ⟨refs, found, part ++ [x], pt, _, rfl, ?_, I.nf, I.np, I.ne, ?_, ?_, ?_, I.lf, I.lp, Paired.mapP I.pr fun _ _ h => h.keep kp, ?_, ?_, Nat.le_succ_of_le I.fl, go⟩
          · intro b o h
            rw [upd_ne (fun z => by rw [z, I.np] at h; cases h)]
            exact I.same _ _ h
          · rw [upd_ne I.ne]
            exact I.hf
          · rw [upd_same, List.map_append]
            rfl
          · rw [upd_ne I.lp]
            exact I.hl
          · intro w h
            rcases (List.mem_append.mp h) with h | h
            · exact I.ok w h
            · rw [List.mem_singleton.mp h]
              exact okA x (List.mem_of_getElem? hx)
          · rw [List.length_append]
            have := I.len
            show _ + 1 ≤ i + 1
            omega
    · rintro σ H' ⟨refs, found, part, pt, v4, rfl, I⟩
      have go := I.go
      rw [map_len, List.drop_length, partsGo] at go
      have pm : partsM ws = if found.length ≤ 4 then some found else none := by
        unfold partsM
        rw [go]
      refine ⟨_, rfl, fa, _, rfl, .inl (SqL.of I.hf), _, _, rfl, rfl, _, rfl, ite2 (fun e => ?_) fun e => ?_⟩
      · have k : ((refs.map V.ref).length : Int) > 4 := of_decide_eq_true e
        rw [List.length_map, ← paired_len I.pr] at k
        refine ⟨_, rfl, r, C, dx, _, .int (line : Nat), rfl, I.same _ _ hR, RD.cls, RD.no _ (by simp), rfl, fun d hd => bad I.same (by rw [pm, if_neg (by omega)]) d _ (Same.refl _) hd⟩
      · have k : ¬ ((refs.map V.ref).length : Int) > 4 := fun z => e (decide_eq_true z)
        rw [List.length_map, ← paired_len I.pr] at k
        refine ⟨_, rfl, fa, _, rfl, .inl ⟨SqL.of I.hf, fun t ht => ?_⟩⟩
        have T := same_new (o := .tup (refs.map V.ref)) ht
        exact q1 found (by rw [pm, if_pos (by omega)]) t _ (I.same.trans T) (I.same.back ht) ⟨refs, upd_same, Paired.mapP I.pr fun _ _ h => h.keep (Keeps.same (fr := fun _ => True) T)⟩
end
end Pk
namespace Pk
open L2 PyProof.Rows PySem.Spec PySem
/-! ### the words of a line that can be laid -/
theorem spl_sub (S : List Nat) : ∀ (l : List Nat) (k : Nat) (acc : List Nat), ∀ p ∈ TL.spl S k acc l, ∀ c ∈ p, c ∈ acc ∨ c ∈ l
  | [], k, acc => by
    rw [TL.spl_nil]
    intro p hp c hc
    rw [List.mem_singleton.mp hp] at hc
    exact .inl hc
  | x :: r, 0, acc => by
    intro p hp c hc
    by_cases h : TL.pre S (x :: r) = true
    · rw [TL.spl_hit h] at hp; rcases List.mem_cons.mp hp with e | e
      · rw [e] at hc
        exact .inl hc
      · rcases spl_sub S r (S.length - 1) [] p e c hc with z | z
        · cases z
        · exact .inr (List.mem_cons_of_mem _ z)
    · rw [TL.spl_miss (by simpa using h)] at hp
      rcases spl_sub S r 0 (acc ++ [x]) p hp c hc with z | z
      · rcases List.mem_append.mp z with z | z
        · exact .inl z
        · rw [List.mem_singleton.mp z]; exact .inr (by simp)
      · exact .inr (List.mem_cons_of_mem _ z)
  | x :: r, k + 1, acc => by
    intro p hp c hc
    rcases spl_sub S r k acc p hp c hc with z | z
    · exact .inl z
    · exact .inr (List.mem_cons_of_mem _ z)
def okL (t : Str) : Prop := t.length ≤ 800000 ∧ (PyData.str t).canLay0 = true
theorem lay_tl {a : Str} : (PyData.str a).canLay0 = true ↔ ∀ c ∈ TL.tl a, c < 1114112 := by
  constructor
  · intro h c hc
    have h' : a.cps.all (· < 0x110000) = true := h
    exact of_decide_eq_true (Array.all_eq_true_iff_forall_mem.mp h' c (Array.mem_toList_iff.mp hc))
  · intro h
    show a.cps.all (· < 0x110000) = true
    exact Array.all_eq_true_iff_forall_mem.mpr fun c hc => decide_eq_true (h c (Array.mem_toList_iff.mpr hc))
theorem split_lay {y : Str} (hy : TL.tl y ≠ []) (hk : y.cps.all (· < 256) = true) {s : Str} (h : (PyData.str s).canLay0 = true) : ∀ w ∈ Txt.split s y, (PyData.str w).canLay0 = true := fun w hw => by
  have e := TL.split_spl s y hy (TL.kind_ok hk)
  refine lay_tl.mpr fun c hc => ?_
  have m : TL.tl w ∈ TL.spl (TL.tl y) 0 [] (TL.tl s) := by
    rw [← e]
    exact List.mem_map_of_mem hw
  rcases spl_sub _ _ _ _ _ m c hc with z | z
  · cases z
  · exact lay_tl.mp h c z
theorem okL.words {t : Str} (h : okL t) : ∀ w ∈ Txt.split t " ", okW w := fun w hw => ⟨Nat.le_trans ((split_few t).2 w hw) (Nat.le_trans h.1 (by decide)), split_lay (by decide +kernel) (by decide +kernel) h.2 w hw⟩
theorem okL.few {t : Str} (h : okL t) : (Txt.split t " ").length ≤ 900000 := by
  have := (split_few t).1
  have := h.1
  omega
theorem split_ne (t : Str) : 0 < (Txt.split t " ").length := by
  have e := TL.split_spl t " " (by decide +kernel) (TL.kind_ok (by decide +kernel))
  have n : ∀ (S : List Nat) (l : List Nat) (k : Nat) (acc : List Nat), 0 < (TL.spl S k acc l).length := by
    intro S l
    induction l with
    | nil => intro k acc; rw [TL.spl_nil]; exact Nat.zero_lt_one
    | cons x r ih =>
      intro k acc
      cases k with
      | zero =>
        by_cases h : TL.pre S (x :: r) = true
        · rw [TL.spl_hit h]
          exact Nat.succ_pos _
        · rw [TL.spl_miss (by simpa using h)]
          exact ih _ _
      | succ k => exact ih k acc
  have l := congrArg List.length e
  rw [List.length_map] at l
  rw [l]
  exact n _ _ _ _
/-! ### rows being read -/
def lastV : Option Str → V
  | none => .non
  | some s => .str s
def ErrL (K : PySem.W.Frag) (r : Addr) (H : Hp) (e : Nat) (E : XK) : Prop := ∀ d H1, KeepB r H H1 → H1 d = none → H d = none → E (.ref (He.ga K "BadLine")) (some d) (upd H1 d (.xd [("line", .int (e : Nat))]))
/-- a reader in the middle of its lines -/
structure RdAt (C : Addr) (H : Hp) (r dx tl : Addr) (all : List Str) (line : Nat) (ls : List Str) : Prop where
  hR : H r = some (.ins C dx (rdF tl line))
  hT : H tl = some (.lst (all.map V.str))
  suf : ∃ pre, all = pre ++ ls ∧ line = pre.length
  few : all.length ≤ 900000
  ok : ∀ t ∈ all, okL t
def spRows (K : PySem.W.Frag) (C : Addr) (n : Nat) : Sp := fun vs H Q E => ∃ (r dx tl : Addr) (all : List Str) (line : Nat) (ls : List Str) (inner : Bool), vs = [.ref r, .bl inner] ∧ RdAt C H r dx tl all line ls ∧ ls.length < n ∧
  (∀ e, rowsM n inner line ls = .error e → ErrL K r H e E) ∧ ∀ rows last l2 r2, rowsM n inner line ls = .ok (rows, last, l2, r2) → ∀ p a rr H', KeepB r H H' → RdAt C H' r dx tl all l2 r2 → H p = none → H a = none → H' p = some (.tup [.ref a, lastV last]) → H' a = some (.lst (rr.map V.ref)) → RowsAt (fun b => H b = none) H' rr rows → Q (.ref p) H'
def spRow (K : PySem.W.Frag) (C : Addr) (n : Nat) : Sp := fun vs H Q E => ∃ (r dx tl a : Addr) (all : List Str) (line : Nat) (ls : List Str) (ws : List Str), vs = [.ref r, .ref a] ∧ RdAt C H r dx tl all line ls ∧ ls.length < n ∧ SqL K H a (ws.map V.str) ∧ ws.length ≤ 900000 ∧ 0 < ws.length ∧ (∀ w ∈ ws, okW w) ∧
  (∀ e, rowM (rowsM n) line ws ls = .error e → ErrL K r H e E) ∧ ∀ row l2 r2, rowM (rowsM n) line ws ls = .ok (row, l2, r2) → ∀ p H', KeepB r H H' → RdAt C H' r dx tl all l2 r2 → H p = none → RowAt (fun b => H b = none) H' p row → Q (.ref p) H'
theorem RdAt.same {C : Addr} {H H' : Hp} {r dx tl : Addr} {all : List Str} {line : Nat} {ls : List Str} (h : RdAt C H r dx tl all line ls) (s : Same H H') : RdAt C H' r dx tl all line ls := ⟨s _ _ h.hR, s _ _ h.hT, h.suf, h.few, h.ok⟩
theorem keeps_of {fr : Addr → Prop} {r C dx : Addr} {fs : List (Str × V)} {H H' : Hp} (k : KeepB r H H') (h : H r = some (.ins C dx fs)) : Keeps fr H H' := ⟨fun b xs e => k _ _ (fun z => by rw [z, h] at e; cases e) e, fun b xs _ e => k _ _ (fun z => by rw [z, h] at e; cases e) e⟩
theorem ErrL.later {K : PySem.W.Frag} {r : Addr} {H H' : Hp} {e : Nat} {E : XK} (h : ErrL K r H e E) (k : KeepB r H H') (hr : ∃ o, H' r = some o) : ErrL K r H' e E := fun d H1 k1 n1 n2 => h d H1 (k.trans k1) n1 (by
  cases q : H d with
  | none => rfl
  | some o =>
    by_cases z : d = r
    · obtain ⟨o2, h2⟩ := hr
      rw [z, h2] at n2
      cases n2
    · rw [k _ _ z q] at n2
      cases n2)
theorem free_back {r d : Addr} {H H' : Hp} (k : KeepB r H H') (hr : ∃ o, H' r = some o) (n : H' d = none) : H d = none := by
  cases q : H d with
  | none => rfl
  | some o =>
    by_cases z : d = r
    · obtain ⟨o2, h2⟩ := hr
      rw [z, h2] at n
      cases n
    · rw [k _ _ z q] at n
      cases n
end Pk
namespace Pk
open L2 PyProof.Rows PySem.Spec PySem
theorem lastV_flat (o : Option Str) (s : Str) : scal (lastV o) (V.str s) = true := by cases o <;> rfl
theorem lastV_iff {o : Option Str} {s : Str} : lastV o = V.str s ↔ o = some s := by
  cases o with
  | none => exact ⟨fun z => (by cases z), fun z => (by cases z)⟩
  | some x => exact ⟨fun z => by rw [V.str.inj z], fun z => by rw [Option.some.inj z]; rfl⟩
theorem lastV_E {o : Option Str} {s : Str} (h : decide (lastV o = V.str s) = true) : o = some s := lastV_iff.mp (of_decide_eq_true h)
theorem lastV_N {o : Option Str} {s : Str} (h : ¬ decide (lastV o = V.str s) = true) : ¬ o = some s := fun z => h (decide_eq_true (lastV_iff.mpr z))
theorem lastV_NE {o : Option Str} {s : Str} (h : (!decide (lastV o = V.str s)) = true) : ¬ o = some s := fun z => by
  rw [decide_eq_true (lastV_iff.mpr z)] at h
  cases h
theorem lastV_EN {o : Option Str} {s : Str} (h : ¬ (!decide (lastV o = V.str s)) = true) : o = some s := Classical.byContradiction fun z => h (by
  rw [decide_eq_false (fun q => z (lastV_iff.mp q))]
  rfl)
section
variable {K : PySem.W.Frag} {P : Program} {w : World} {base : Heap} {mg : Str → Option Value} {C fI : Addr}
theorem sc_Reader_read_row : FnScope ["self", "words", "line", "parts", "rows", "last", "others", "row"] ["self", "words"] (defScope sRow) := ⟨rfl, rfl, rfl, by decide +kernel, rfl, by decide +kernel, by decide +kernel⟩
theorem ok_Reader_read_row {f fP fR fD : Addr} {fd fdP fdR fdD : FuncData} (n : Nat) (F : FunD K "read_row" "Reader.read_row" (defArgs sRow) (defBody sRow) (defScope sRow) [] [] f fd) (RD : ReaderC K mg C fI) (FP : FunD K "read_parts" "Reader.read_parts" (defArgs sParts) (defBody sParts) (defScope sParts) [] [] fP fdP)
    (FR : FunD K "read_rows" "Reader.read_rows" (defArgs sRows) (defBody sRows) (defScope sRows) [] [] fR fdR) (FD : FunD K "deed" "Reader.deed" (defArgs sDeed) (defBody sDeed) (defScope sDeed) [] [] fD fdD) (GP : FnOk P w K mg base (L2.CX P w) 5 fP fdP ["self", "words"] (spParts K C)) (GD : FnOk P w K mg base CX0 5 fD fdD ["self", "words"] (spDeed K C deedM))
    (GR : FnOk P w K mg base (L2.CX P w) (6 + 2 * n) fR fdR ["self", "inner"] (spRows K C n)) (mP : Meth K C "read_parts" fP) (mR : Meth K C "read_rows" fR) (mD : Meth K C "deed" fD) (mLen : mg "len" = none) (ER : Errs P K mg) : FnOk P w K mg base (L2.CX P w) ((6 + 2 * n) + 1) f fd ["self", "words"] (spRow K C n) := by
  have bP : Binds K fdP ["self", "words"] [] := FP.bindsN fun _ _ _ _ _ _ us hl => match us, hl with | [_, _], _ => rfl
  have bR : Binds K fdR ["self", "inner"] [] := FR.bindsN fun _ _ _ _ _ _ us hl => match us, hl with | [_, _], _ => rfl
  have bD : Binds K fdD ["self", "words"] [] := FD.bindsN fun _ _ _ _ _ _ us hl => match us, hl with | [_, _], _ => rfl
  refine F.ok sc_Reader_read_row (fun vs H Q E h => ?_) (fun cdv A outer s H vs Q E hr h => ?_)
  · obtain ⟨r, dx, tl, a, all, line, ls, ws, rfl, _⟩ := h
    rfl
  · obtain ⟨r, dx, tl, a, all, line, ls, ws, rfl, R, hn, hS, hl, h0, hw, q0, q1⟩ := h
    obtain ⟨_, IBadLine⟩ := ER.iBadLine
    refine ⟨_, (pss_cons (by exact (ps_set (i := 2) sc_Reader_read_row.nd rfl (Or.inl rfl) (pe_fld (pv 0) rfl))) (C8.pss_cut (by exact (ps_if (PW.pt (pw_and (pt_cmpR op_eq (pe_ix (ix_listK K rfl) (pv 1) pe_int (fun _ _ => rfl)) pe_str (nomark _)) (pw_and1 (pt_cmpR op_gt (pe_callB call_len_seq (by rfl) mLen PySem.boot_len (pa_cons (pv 1) pa_nil)) pe_int (nomark _))))) (pss_cons (by exact (ps_set (i := 3) sc_Reader_read_row.nd rfl (Or.inl rfl) (pe_meth (pv 0) RD.cls mP GP (hr.mono (by omega)) bP .nil (passes_call (takes_of rfl rfl rfl rfl) (fun _ _ _ _ h => h)) (pa_cons (pe_slice (sl_listK K rfl) (pv 1) (po_some pe_int) po_none) pa_nil)))) (pss_cons (by exact (ps_asg (pe_meth (pv 0) RD.cls mR GR hr bR .nil (passes_call (takes_of rfl rfl rfl rfl) (fun _ _ _ _ h => h)) (pa_cons pe_bl pa_nil)) (pg_tupK (n := 2) K rfl rfl (pgs_cons (pg_name (i := 4) sc_Reader_read_row.nd rfl (Or.inl rfl)) (pgs_cons (pg_name (i := 5) sc_Reader_read_row.nd rfl (Or.inl rfl)) pgs_nil))))) (pss_cons (by exact (ps_set (i := 6) sc_Reader_read_row.nd rfl (Or.inl rfl) (pe_lst pa_nil))) (C8.pss_cut (by exact (ps_if (pt_cmpR op_eq (pv 5) pe_str (nomark _)) (pss_one (by exact (ps_asg (pe_meth (pv 0) RD.cls mR GR hr bR .nil (passes_call (takes_of rfl rfl rfl rfl) (fun _ _ _ _ h => h)) (pa_cons pe_bl pa_nil)) (pg_tupK (n := 2) K rfl rfl (pgs_cons (pg_name (i := 6) sc_Reader_read_row.nd rfl (Or.inl rfl)) (pgs_cons (pg_name (i := 5) sc_Reader_read_row.nd rfl (Or.inl rfl)) pgs_nil)))))) pss_nil)) (pss_cons (by exact (ps_if (pt_cmpR op_ne (pv 5) pe_str (nomark _)) (pss_one (by exact (ps_raise rfl (takes_of rfl rfl rfl rfl) (pmk_sup1 IBadLine.sup (okIBadLine IBadLine ER.mS ER.hP) (hr.mono (by omega)) (bIBadLine IBadLine) pass0 rfl (pe_fld (pv 0) rfl))))) pss_nil)) (pss_one (by exact (ps_ret (pe_tup (pa_cons pe_str (pa_cons (pv 2) (pa_cons (pv 3) (pa_cons (pv 4) (pa_cons (pv 6) pa_nil)))))))))))))) pss_nil)) (pss_cons (by exact (ps_set (i := 7) sc_Reader_read_row.nd rfl (Or.inl rfl) (pe_meth (pv 0) RD.cls mD GD (hr.mono (by omega)) bD .nil pass0 (pa_cons (pv 1) pa_nil)))) (pss_cons (by exact (ps_if (pt_cmp (pc_isN (pv 7))) (pss_one (by exact (ps_raise rfl (takes_of rfl rfl rfl rfl) (pmk_sup1 IBadLine.sup (okIBadLine IBadLine ER.mS ER.hP) (hr.mono (by omega)) (bIBadLine IBadLine) pass0 rfl (pv 2))))) pss_nil)) (pss_one (by exact (ps_ret (pv 7)))))))), ?_⟩
    refine ⟨_, rfl, r, C, dx, _, .int (line : Nat), rfl, R.hR, RD.cls, RD.no _ (by simp), rfl, ?_⟩
    refine ⟨fun σ H' => σ = [some (.ref r), some (.ref a), some (.int (line : Nat)), none, none, none, none, none] ∧ H' = H ∧ ¬ (at_ ws 0 = "if" ∧ 1 < ws.length), ?_, ?_⟩
    · refine ⟨_, rfl, a, _, _, .str (at_ ws 0), rfl, rfl, hS, at0 h0, rfl, _, rfl, ite2 (fun e => ?_) fun e => ⟨rfl, rfl, fun z => strN e z.1⟩⟩
      refine ⟨_, rfl, a, _, rfl, .inl hS, _, _, rfl, rfl, _, rfl, ite2 (fun e1 => ?_) fun e1 => ⟨rfl, rfl, fun z => e1 (decide_eq_true (by rw [map_len]; have := z.2; omega))⟩⟩
      have l1 : 1 < ws.length := by
        have z : ((ws.map V.str).length : Int) > 1 := of_decide_eq_true e1
        rw [map_len] at z
        omega
      have C1 : at_ ws 0 = "if" ∧ 1 < ws.length := ⟨strE e, l1⟩
      refine ⟨_, rfl, r, dx, _, rfl, R.hR, rfl, _, rfl, 1, rfl, a, _, rfl, hS, fun l hl1 => ?_⟩
      rw [show cutV (ws.map V.str) (some 1) none = _ from cut_from (n := 1)]
      have T1 := same_new (o := .lst ((ws.drop 1).map V.str)) hl1
      have R1 := R.same T1
      refine ⟨r, dx, tl, l, line, ws.drop 1, rfl, R1.hR, SqL.of upd_same, by rw [List.length_drop]; omega, fun w h => hw w (List.mem_of_mem_drop h), fun e0 d H1 s1 n1 => ?_, fun ps eP t H1 s1 nt ht => ?_⟩
      · exact q0 line (rowM_p0 C1 e0) d H1 (T1.trans s1).keepB n1 ((T1.trans s1).back n1)
      have S1 := T1.trans s1
      have R1 := R.same S1
      refine ⟨_, rfl, r, dx, _, rfl, R1.hR, rfl, r, dx, tl, all, line, ls, true, rfl, R1, hn, fun x ex d H2 k2 m1 m2 => ?_, fun rows last l2 r2 ex p2 a2 rr2 H2 k2 R2 np2 na2 hp2 ha2 hr2 => ?_⟩
      · exact q0 x (rowM_r1 C1 eP ex) d H2 (S1.keepB.trans k2) m1 (S1.back m2)
      have k02 := S1.keepB.trans k2
      have ht2 : PartsAt H2 t ps := ht.keep (keeps_of (fr := fun _ => True) k2 R1.hR)
      have fb := fun {b : Addr} (z : H1 b = none) => S1.back z
      have left2 : r2.length ≤ ls.length := (rowsM_left _ _ _ _ _ _ _ _ ex).le
      refine ⟨p2, _, rfl, SqT.of hp2, rfl, _, _, rfl, _, _, rfl, rfl, ?_⟩
      refine ⟨by show 0 ≤ sizeLine; decide, fun o2 ho2 => ?_⟩
      have T2 := same_new (o := .lst []) ho2
      have k03 := k02.trans T2.keepB
      have R3 := R2.same T2
      have ne2 : a2 ≠ o2 := fun z => by
        rw [z, ho2] at ha2
        cases ha2
      have no2 : H o2 = none := free_back k02 ⟨_, R2.hR⟩ ho2
      have rows2 : RowsAt (fun b => H b = none) (upd H2 o2 (.lst [])) rr2 rows := hr2.keep (Keeps.same T2) fun b z => fb z
      refine ⟨fun σ H' => ∃ (oa : Addr) (v6 : Option V) (lastf : Option Str) (others : List Row) (orr : List Addr) (l3 : Nat) (r3 : List Str), σ = [some (.ref r), some (.ref a), some (.int (line : Nat)), some (.ref t), some (.ref a2), some (lastV lastf), some (.ref oa), none] ∧ KeepB r H H' ∧ RdAt C H' r dx tl all l3 r3 ∧ PartsAt H' t ps ∧ H a2 = none ∧ H' a2 = some (.lst (rr2.map V.ref)) ∧ RowsAt (fun b => H b = none) H' rr2 rows ∧ H oa = none ∧ H' oa = some (.lst (orr.map V.ref)) ∧ RowsAt (fun b => H b = none) H' orr others ∧
        (lastf = some ("end" : Str) → rowM (rowsM n) line ws ls = .ok (.ifr line ps rows others, l3, r3)) ∧ (¬ lastf = some ("end" : Str) → rowM (rowsM n) line ws ls = .error l3), ?_, ?_⟩
      · refine ⟨_, rfl, lastV_flat last _, _, rfl, ite2 (fun e2 => ?_) fun e2 => ?_⟩
        · have el := lastV_E e2
          refine ⟨_, rfl, r, dx, _, rfl, R3.hR, rfl, r, dx, tl, all, l2, r2, true, rfl, R3, by omega, fun x ex2 d H4 k4 m1 m2 => ?_, fun others last2 l3 r3 ex2 p4 a4 rr4 H4 k4 R4 np4 na4 hp4 ha4 hr4 => ?_⟩
          · exact q0 x (rowM_r2 C1 eP ex el ex2) d H4 (k03.trans k4) m1 (free_back k03 ⟨_, R3.hR⟩ m2)
          · refine ⟨p4, _, rfl, SqT.of hp4, rfl, _, _, rfl, _, _, rfl, rfl, ?_⟩
            have kp := keeps_of (fr := fun b => H b = none) k4 R3.hR
            have n24 : a2 ≠ r := fun z => by
              have z2 := T2 _ _ ha2
              rw [z, R3.hR] at z2
              cases z2
            exact ⟨a4, none, last2, others, rr4, l3, r3, rfl, k03.trans k4, R4, (ht2.keep (Keeps.same (fr := fun _ => True) T2)).keep (keeps_of (fr := fun _ => True) k4 R3.hR), fb na2, k4 _ _ n24 (T2 _ _ ha2), rows2.keep kp fun _ z => z, free_back k03 ⟨_, R3.hR⟩ na4, ha4, hr4.keep (Keeps.same (Same.refl _)) fun b z => free_back k03 ⟨_, R3.hR⟩ z,
              fun z => rowM_r3 C1 eP ex el ex2 z, fun z => rowM_r4 C1 eP ex el ex2 z⟩
        · have el := lastV_N e2
          exact ⟨o2, none, last, [], [], l2, r2, rfl, k03, R3, ht2.keep (Keeps.same (fr := fun _ => True) T2), fb na2, T2 _ _ ha2, rows2, no2, upd_same, .nil, fun z => rowM_r5 C1 eP ex el z, fun z => rowM_r6 C1 eP ex el z⟩
      rintro σ H4 ⟨oa, v6, lastf, others, orr, l3, r3, rfl, k4, R4, ht4, n2, hl2, hr4, no4, ho4, hor4, w1, w2⟩
      refine ⟨_, rfl, lastV_flat lastf _, _, rfl, ite2 (fun e2 => ?_) fun e2 => ?_⟩
      · have el := lastV_NE e2
        exact ⟨_, rfl, r, C, dx, _, .int (l3 : Nat), rfl, R4.hR, RD.cls, RD.no _ (by simp), rfl, fun d hd => q0 l3 (w2 el) d H4 k4 hd (free_back k4 ⟨_, R4.hR⟩ hd)⟩
      · have el := lastV_EN e2
        refine ⟨_, rfl, _, rfl, _, rfl, _, rfl, by show 5 ≤ sizeLine; decide, fun p hp => ?_⟩
        have T := same_new (o := .tup [.str "if", .int (line : Nat), .ref t, .ref a2, .ref oa]) hp
        have kp := Keeps.same (fr := fun b => H b = none) T
        exact q1 _ l3 r3 (w1 el) p _ (k4.trans T.keepB) (R4.same T) (free_back k4 ⟨_, R4.hR⟩ hp) (.ifr upd_same (ht4.keep kp) n2 (T _ _ hl2) (hr4.keep kp fun _ z => z) no4 (T _ _ ho4) (hor4.keep kp fun _ z => z))
    rintro σ H1 ⟨rfl, rfl, n1⟩
    have rm : rowM (rowsM n) line ws ls = (match deedM line ws with
      | none => .error line
      | some row => .ok (row, line, ls)) := by
      unfold rowM
      rw [if_neg n1]
      all_goals (cases deedM line ws <;> rfl)
    refine ⟨_, rfl, r, dx, _, rfl, R.hR, rfl, _, rfl, r, dx, tl, a, line, ws, rfl, R.hR, hS, by omega, hw, fun e H' s' => ?_, fun row e p H' s' np hp => ?_⟩
    · refine ⟨_, rfl, _, rfl, ite2 (fun _ => ?_) fun z => absurd rfl z⟩
      exact ⟨_, rfl, fun d hd => q0 line (by rw [rm, e]) d _ s'.keepB hd (s'.back hd)⟩
    · refine ⟨_, rfl, _, rfl, ite2 (fun z => nomatch z) fun _ => ?_⟩
      exact ⟨_, rfl, q1 row line ls (by rw [rm, e]) p H' s'.keepB (R.same s') np (hp.keep (Keeps.same (Same.refl _)) fun _ z => z.elim)⟩
end
end Pk
namespace Pk
open L2 PyProof.Rows PySem.Spec PySem
def lineOf (H : Hp) (r : Addr) : Nat := match H r with
  | some (.ins _ _ [_, (_, .int l)]) => l.toNat
  | _ => 0
theorem lineOf_at {C : Addr} {H : Hp} {r dx tl : Addr} {all : List Str} {line : Nat} {ls : List Str} (h : RdAt C H r dx tl all line ls) : lineOf H r = line := by
  unfold lineOf
  rw [h.hR]
  show ((line : Nat) : Int).toNat = line
  exact Int.toNat_natCast line
theorem RdAt.sum {C : Addr} {H : Hp} {r dx tl : Addr} {all : List Str} {line : Nat} {ls : List Str} (h : RdAt C H r dx tl all line ls) : line + ls.length = all.length := by
  obtain ⟨pre, e1, e2⟩ := h.suf
  rw [e1, e2, List.length_append]
theorem RdAt.next {C : Addr} {H : Hp} {r dx tl : Addr} {all : List Str} {line : Nat} {t : Str} {ls : List Str} (h : RdAt C H r dx tl all line (t :: ls)) : RdAt C (upd H r (.ins C dx (rdF tl (line + 1)))) r dx tl all (line + 1) ls := by
  have ne : tl ≠ r := fun z => by
    have e := h.hT
    rw [z, h.hR] at e
    cases e
  obtain ⟨pre, e1, e2⟩ := h.suf
  refine ⟨upd_same, by rw [upd_ne ne]; exact h.hT, ⟨pre ++ [t], ?_, ?_⟩, h.few, h.ok⟩
  · rw [e1, List.append_assoc]
    rfl
  · rw [e2, List.length_append]
    rfl
section
variable {K : PySem.W.Frag} {P : Program} {w : World} {base : Heap} {mg : Str → Option Value} {C fI : Addr}
theorem sc_Reader_read_rows : FnScope ["self", "inner", "found", "text"] ["self", "inner"] (defScope sRows) := ⟨rfl, rfl, rfl, by decide +kernel, rfl, by decide +kernel, by decide +kernel⟩
theorem ok_Reader_read_rows {f fR : Addr} {fd fdR : FuncData} (n : Nat) (F : FunD K "read_rows" "Reader.read_rows" (defArgs sRows) (defBody sRows) (defScope sRows) [] [] f fd) (RD : ReaderC K mg C fI) (FR : FunD K "read_row" "Reader.read_row" (defArgs sRow) (defBody sRow) (defScope sRow) [] [] fR fdR)
    (GR : FnOk P w K mg base (L2.CX P w) (7 + 2 * n) fR fdR ["self", "words"] (spRow K C n)) (mR : Meth K C "read_row" fR) (mLen : mg "len" = none) (ER : Errs P K mg) : FnOk P w K mg base (L2.CX P w) ((7 + 2 * n) + 1) f fd ["self", "inner"] (spRows K C (n + 1)) := by
  have bR : Binds K fdR ["self", "words"] [] := FR.bindsN fun _ _ _ _ _ _ us hl => match us, hl with | [_, _], _ => rfl
  refine F.ok sc_Reader_read_rows (fun vs H Q E h => ?_) (fun cdv A outer s H vs Q E hr h => ?_)
  · obtain ⟨r, dx, tl, all, line, ls, inner, rfl, _⟩ := h
    rfl
  · obtain ⟨r, dx, tl, all, line, ls, inner, rfl, R, hn, q0, q1⟩ := h
    obtain ⟨_, IBadLine⟩ := ER.iBadLine
    refine ⟨_, (pss_cons (by exact (ps_set (i := 2) sc_Reader_read_rows.nd rfl (Or.inl rfl) (pe_lst pa_nil))) (pss_cons (by exact (ps_while (passes_of rfl) (pt_cmpR op_lt (pe_fld (pv 0) rfl) (pe_callB call_len_seq (by rfl) mLen PySem.boot_len (pa_cons (pe_fld (pv 0) rfl) pa_nil)) (nomark _)) (pss_cons (by exact (ps_set (i := 3) sc_Reader_read_rows.nd rfl (Or.inl rfl) (pe_ix (ix_listK K rfl) (pe_fld (pv 0) rfl) (pe_fld (pv 0) rfl) (fun _ _ => rfl)))) (pss_cons (by exact (ps_fldaug (pv 0) pe_int iop_add)) (C8.pss_cut (by exact (ps_if (PW.pt (pw_and (pt_val (pv 1)) (pw_and1 (pt_cmpR (op_inK K rfl) (pv 3) (pe_tup (pa_cons pe_str (pa_cons pe_str pa_nil))) rfl)))) (pss_one (by exact (ps_ret (pe_tup (pa_cons (pv 2) (pa_cons (pv 3) pa_nil)))))) pss_nil)) (pss_one (by exact (ps_expr (pe_bm PySem.F.plainAttrs_list PySem.F.slot_list_append PySem.F.type_list_append mt_append (pv 2) (pa_cons (pe_meth (pv 0) RD.cls mR GR hr bR .nil (passes_call (takes_of rfl rfl rfl rfl) (fun _ _ _ _ h => h)) (pa_cons (pe_split (pv 3) pe_str) pa_nil)) pa_nil)))))))))) (pss_cons (by exact (ps_if (pt_val (pv 1)) (pss_one (by exact (ps_raise rfl (takes_of rfl rfl rfl rfl) (pmk_sup1 IBadLine.sup (okIBadLine IBadLine ER.mS ER.hP) (hr.mono (by omega)) (bIBadLine IBadLine) pass0 rfl (pe_op op_add (pe_fld (pv 0) rfl) pe_int))))) pss_nil)) (pss_one (by exact (ps_ret (pe_tup (pa_cons (pv 2) (pa_cons pe_non pa_nil))))))))), ?_⟩
    refine ⟨by show 0 ≤ sizeLine; decide, fun fa hfa => ?_⟩
    have T0 := same_new (o := .lst []) hfa
    refine while_by (fun σ H' => ∃ (v3 : Option V) (refs : List Addr) (done : List Row) (l' : Nat) (ls' : List Str), σ = [some (.ref r), some (.bl inner), some (.ref fa), v3] ∧ KeepB r H H' ∧ RdAt C H' r dx tl all l' ls' ∧ H' fa = some (.lst (refs.map V.ref)) ∧ RowsAt (fun b => H b = none ∧ b ≠ fa) H' refs done ∧ ls'.length < n + 1 ∧ refs.length + ls'.length ≤ all.length ∧ rowsM (n + 1) inner line ls = preps done (rowsM (n + 1) inner l' ls'))
      (fun _ H' => all.length - lineOf H' r) ⟨none, [], [], line, ls, rfl, T0.keepB, R.same T0, upd_same, .nil, hn, by have := R.sum; rw [List.length_nil]; omega, (preps_nil _).symm⟩ ?_ ?_
    · rintro σ H1 ⟨v3, refs, done, l', ls', rfl, k1, R1, hf, hrr, hn1, hsz, go⟩
      have nrf : fa ≠ r := fun z => by
        rw [z, R.hR] at hfa
        cases hfa
      refine ⟨_, rfl, r, C, dx, _, .int (l' : Nat), rfl, R1.hR, RD.cls, RD.no _ (by simp), rfl, _, rfl, r, C, dx, _, .ref tl, rfl, R1.hR, RD.cls, RD.no _ (by simp), rfl, tl, _, rfl, .inl (SqL.of R1.hT), _, _, rfl, rfl, _, rfl, ite2 (fun e => ?_) fun e => ?_⟩
      · have lt : l' < all.length := by
          have z : (l' : Int) < ((all.map V.str).length : Nat) := of_decide_eq_true e
          rw [map_len] at z
          omega
        obtain ⟨t, r', els⟩ : ∃ t r', ls' = t :: r' := by
          have := R1.sum
          cases ls' with
          | nil => simp at this; omega
          | cons t r' => exact ⟨t, r', rfl⟩
        subst els
        have hat : all[l']? = some t := by
          obtain ⟨pre, e1, e2⟩ := R1.suf
          rw [e1, e2, List.getElem?_append_right (Nat.le_refl _), Nat.sub_self]
          rfl
        have okt := R1.ok t (List.mem_of_getElem? hat)
        refine ⟨_, rfl, r, C, dx, _, .ref tl, rfl, R1.hR, RD.cls, RD.no _ (by simp), rfl, _, rfl, r, C, dx, _, .int (l' : Nat), rfl, R1.hR, RD.cls, RD.no _ (by simp), rfl, tl, _, _, .str t, rfl, rfl, SqL.of R1.hT, atI_nat (by rw [List.getElem?_map, hat]; rfl), ?_⟩
        refine ⟨_, rfl, r, C, dx, _, .int (l' : Nat), rfl, R1.hR, RD.cls, RD.no _ (by simp), rfl, _, _, rfl, rfl, dx, _, R1.hR, by show 2 < 1000; decide, ?_⟩
        have R2 := R1.next
        have kr : KeepB r H1 (upd H1 r (.ins C dx (rdF tl (l' + 1)))) := KeepB.upd
        have hf2 : upd H1 r (.ins C dx (rdF tl (l' + 1))) fa = some (.lst (refs.map V.ref)) := by
          rw [upd_ne nrf]
          exact hf
        have rr2 := hrr.keep (keeps_of (fr := fun b => H b = none ∧ b ≠ fa) kr R1.hR) fun _ z => z
        refine ⟨fun σ H' => σ = [some (.ref r), some (.bl inner), some (.ref fa), some (.str t)] ∧ Same (upd H1 r (.ins C dx (rdF tl (l' + 1)))) H' ∧ ¬ (inner = true ∧ (t = "end" ∨ t = "else")), ?_, ?_⟩
        · refine ⟨_, rfl, inner, rfl, ite2 (fun ei => ?_) fun ei => ⟨rfl, Same.refl _, fun z => ei z.1⟩⟩
          refine ⟨_, rfl, by show 2 ≤ sizeLine; decide, fun t2 ht2 => ?_⟩
          have T := same_new (o := .tup [.str "end", .str "else"]) ht2
          refine ⟨t2, _, rfl, .inr (SqT.of upd_same), rfl, rfl, _, rfl, ite2 (fun e2 => ?_) fun e2 => ⟨rfl, T, fun z => inN (l := ["end", "else"]) e2 (by rcases z.2 with z | z <;> rw [z] <;> simp)⟩⟩
          have m2 : t = "end" ∨ t = "else" := by
            have z := inE (l := ["end", "else"]) e2
            simpa using z
          refine ⟨_, rfl, _, rfl, by show 2 ≤ sizeLine; decide, fun p hp => ?_⟩
          have T3 := T.step (o := .tup [.ref fa, .str t]) hp
          have kk := (k1.trans kr).trans T3.keepB
          have e3 : rowsM (n + 1) inner l' (t :: r') = .ok ([], some t, l' + 1, r') := by
            rw [rowsM, if_pos ⟨ei, m2⟩]
          refine q1 done (some t) (l' + 1) r' ?_ p fa refs _ kk (R2.same T3) (free_back ((k1.trans kr).trans T.keepB) ⟨_, T _ _ R2.hR⟩ hp) hfa upd_same (T3 _ _ hf2) (rr2.keep (Keeps.same T3) fun _ z => z.1)
          rw [go, e3]
          show Except.ok (done ++ [], some t, l' + 1, r') = _
          rw [List.append_nil]
        rintro σ H3 ⟨rfl, S3, ni⟩
        have R3 := R2.same S3
        have hf3 := S3 _ _ hf2
        have rr3 := rr2.keep (Keeps.same S3) fun _ z => z
        have k3 := (k1.trans kr).trans S3.keepB
        obtain ⟨w1, w2⟩ := split_few t
        refine ⟨_, rfl, .inl ⟨rfl, _, SqL.of hf3⟩, _, rfl, r, dx, _, rfl, R3.hR, rfl, _, rfl, ⟨_, rfl⟩, t, " ", rfl, rfl, rfl, ?_, fun l hl => ?_⟩
        · exact Nat.le_trans (Nat.add_le_add_right okt.1 2) (by decide)
        have T4 := same_new (o := .lst ((Txt.split t " ").map V.str)) hl
        have R4 := R3.same T4
        have k4 := k3.trans T4.keepB
        refine ⟨r, dx, tl, l, all, l' + 1, r', Txt.split t " ", rfl, R4, by rw [List.length_cons] at hn1; omega, SqL.of upd_same, okt.few, split_ne t, okt.words, fun x ex => ?_, fun row l2 r2 ex p H5 k5 R5 np hp => ?_⟩
        · refine (q0 x ?_).later k4 ⟨_, R4.hR⟩
          rw [go, rowsM, if_neg ni, ex]
          rfl
        · have step := rowsM_row (n := n) (i := inner) (l := l') (t := t) (r := r') ni ex (by rw [List.length_cons] at hn1; omega)
          have lft := rowM_left (rowsM_left n) ex
          have hf5 := k5 _ _ nrf (T4 _ _ hf3)
          have npf : p ≠ fa := fun z => by
            rw [z, T4 _ _ hf3] at np
            cases np
          refine ⟨fa, _, _, rfl, rfl, hf5, ?_, ?_⟩
          · rw [List.length_map]
            have := R1.few
            exact Nat.lt_of_lt_of_le (show refs.length < 900001 by omega) (by decide)
          · have kp : Keeps (fun b => H b = none ∧ b ≠ fa) H5 (upd H5 fa (.lst (refs.map V.ref ++ [V.ref p]))) := ⟨fun b xs h => by
              rw [upd_ne (fun z => by rw [z, hf5] at h; cases h)]
              exact h, fun b xs hb h => by
              rw [upd_ne hb.2]
              exact h⟩
            have rr5 := (rr3.keep (Keeps.same T4) fun _ z => z).keep (keeps_of (fr := fun b => H b = none ∧ b ≠ fa) k5 R4.hR) fun _ z => z
            have hp5 : RowAt (fun b => H b = none ∧ b ≠ fa) H5 p row := hp.keep (Keeps.same (Same.refl _)) fun b z => ⟨free_back k4 ⟨_, R4.hR⟩ z, fun y => by rw [y, T4 _ _ hf3] at z; cases z⟩
            have neR : r ≠ fa := Ne.symm nrf
            have R6 : RdAt C (upd H5 fa (.lst (refs.map V.ref ++ [V.ref p]))) r dx tl all l2 r2 := ⟨by rw [upd_ne neR]; exact R5.hR, by
              rw [upd_ne (fun z => by have e := R.hT; rw [z, hfa] at e; cases e)]
              exact R5.hT, R5.suf, R5.few, R5.ok⟩
            refine ⟨⟨_, refs ++ [p], done ++ [row], l2, r2, rfl, ?_, R6, ?_, RowsAt.snoc (hp5.keep kp fun _ z => z) (rr5.keep kp fun _ z => z), ?_, ?_, ?_⟩, ?_⟩
            · intro b o nb hb
              rw [upd_ne (fun z => by rw [z, hfa] at hb; cases hb)]
              exact (k4.trans k5) b o nb hb
            · rw [upd_same, List.map_append]
              rfl
            · have := lft.le
              rw [List.length_cons] at hn1
              omega
            · have := lft.le
              rw [List.length_cons] at hsz
              rw [List.length_append]
              show refs.length + 1 + r2.length ≤ all.length
              omega
            · rw [go, step]
              cases rowsM (n + 1) inner l2 r2 with
              | error e => rfl
              | ok y =>
                show Except.ok (done ++ row :: y.1, y.2) = Except.ok ((done ++ [row]) ++ y.1, y.2)
                rw [List.append_assoc]
                rfl
            · rw [lineOf_at R6, lineOf_at R1]
              have := lft.sum
              have := lft.le
              omega
      · have ge : ¬ l' < all.length := fun z => e (decide_eq_true (by rw [map_len]; omega))
        have els : ls' = [] := by
          have := R1.sum
          exact List.eq_nil_of_length_eq_zero (by omega)
        subst els
        refine ⟨_, rfl, inner, rfl, ite2 (fun ei => ?_) fun ei => ?_⟩
        · refine ⟨_, rfl, r, C, dx, _, .int (l' : Nat), rfl, R1.hR, RD.cls, RD.no _ (by simp), rfl, _, _, rfl, rfl, fun d hd => ?_⟩
          refine q0 (l' + 1) ?_ d H1 k1 hd (free_back k1 ⟨_, R1.hR⟩ hd)
          rw [go, rowsM, if_pos ei]
          rfl
        · refine ⟨_, rfl, by show 2 ≤ sizeLine; decide, fun p hp => ?_⟩
          have T := same_new (o := .tup [.ref fa, .non]) hp
          refine q1 done none l' [] ?_ p fa refs _ (k1.trans T.keepB) (R1.same T) (free_back k1 ⟨_, R1.hR⟩ hp) hfa upd_same (T _ _ hf) (hrr.keep (Keeps.same T) fun _ z => z.1)
          rw [go, rowsM, if_neg ei]
          show Except.ok (done ++ [], none, l', []) = _
          rw [List.append_nil]
    · rintro σ H' Z Z' hm ⟨x, hx, p, C', dx', fs, v, e1, e2, e3, e4, e5, x2, hx2, p2, C2, dx2, fs2, v2, e6, e7, e8, e9, e10, h⟩
      obtain ⟨p3, ys, e11, e12, i, j, e13, e14, k, e15, z⟩ := h
      exact ⟨x, hx, p, C', dx', fs, v, e1, e2, e3, e4, e5, x2, hx2, p2, C2, dx2, fs2, v2, e6, e7, e8, e9, e10, p3, ys, e11, e12, i, j, e13, e14, k, e15, hm _ _ z⟩
end
end Pk
namespace Pk
open L2 PyProof.Rows PySem.Spec PySem
/-- the text of a code: short enough, of signs that are some -/
def okT (t : Str) : Prop := t.length ≤ 800000 ∧ (PyData.str t).canLay0 = true
theorem okT.lines {t : Str} (h : okT t) : ∀ l ∈ linesM t, okL l := fun l hl => by
  unfold linesM at hl
  split at hl
  · cases hl
  · have e := TL.split_spl t "\n" (by decide +kernel) (TL.kind_ok (by decide +kernel))
    refine ⟨?_, split_lay (by decide +kernel) (by decide +kernel) h.2 l hl⟩
    have m : TL.tl l ∈ TL.spl (TL.tl "\n") 0 [] (TL.tl t) := by
      rw [← e]
      exact List.mem_map_of_mem hl
    have q := (spl_few _ _ _ _).2 _ m
    rw [List.length_nil, Nat.zero_add] at q
    rw [TL.len_tl l]
    exact Nat.le_trans q (Nat.le_trans (Nat.le_of_eq (TL.len_tl t).symm) h.1)
def spReadI (C : Addr) : Sp := fun vs H Q _ => ∃ (r dx : Addr) (t : Str), vs = [.ref r, .str t] ∧ H r = some (.ins C dx []) ∧ okT t ∧ ∀ tl H', KeepB r H H' → H tl = none → H' r = some (.ins C dx (rdF tl 0)) → H' tl = some (.lst ((linesM t).map V.str)) → Q .non H'
def spRead (K : PySem.W.Frag) : Sp := fun vs H Q E => ∃ t : Str, vs = [.str t] ∧ okT t ∧ (linesM t).length ≤ 40 ∧ (∀ e, readM t = .error e → Err1 K "BadLine" "line" (.int (e : Nat)) H E) ∧
  ∀ rows, readM t = .ok rows → ∀ a rr H', Same H H' → H a = none → H' a = some (.lst (rr.map V.ref)) → RowsAt (fun b => H b = none) H' rr rows → Q (.ref a) H'
section
variable {K : PySem.W.Frag} {P : Program} {w : World} {base : Heap} {mg : Str → Option Value} {C fI : Addr}
/-- read_rows, for any number of lines left -/
theorem rows_all {fP fR fW fD : Addr} {fdP fdR fdW fdD : FuncData} (FR : FunD K "read_rows" "Reader.read_rows" (defArgs sRows) (defBody sRows) (defScope sRows) [] [] fR fdR) (FW : FunD K "read_row" "Reader.read_row" (defArgs sRow) (defBody sRow) (defScope sRow) [] [] fW fdW) (RD : ReaderC K mg C fI)
    (FP : FunD K "read_parts" "Reader.read_parts" (defArgs sParts) (defBody sParts) (defScope sParts) [] [] fP fdP) (FD : FunD K "deed" "Reader.deed" (defArgs sDeed) (defBody sDeed) (defScope sDeed) [] [] fD fdD) (GP : FnOk P w K mg base (L2.CX P w) 5 fP fdP ["self", "words"] (spParts K C)) (GD : FnOk P w K mg base CX0 5 fD fdD ["self", "words"] (spDeed K C deedM))
    (mP : Meth K C "read_parts" fP) (mR : Meth K C "read_rows" fR) (mW : Meth K C "read_row" fW) (mD : Meth K C "deed" fD) (mLen : mg "len" = none) (ER : Errs P K mg) : ∀ n, FnOk P w K mg base (L2.CX P w) (6 + 2 * n) fR fdR ["self", "inner"] (spRows K C n)
  | 0 => by
    refine FR.ok (k := 5) sc_Reader_read_rows (fun vs H Q E h => ?_) (fun cdv A outer s H vs Q E hr h => ?_)
    · obtain ⟨r, dx, tl, all, line, ls, inner, rfl, _⟩ := h
      rfl
    · obtain ⟨r, dx, tl, all, line, ls, inner, rfl, R, hn, _⟩ := h
      exact absurd hn (Nat.not_lt_zero _)
  | n + 1 => by
    have ih := rows_all FR FW RD FP FD GP GD mP mR mW mD mLen ER n
    have row := ok_Reader_read_row n FW RD FP FR FD GP GD ih mP mR mD mLen ER
    rw [show 6 + 2 * n + 1 = 7 + 2 * n by omega] at row
    have r2 := ok_Reader_read_rows n FR RD FW row mW mLen ER
    rw [show 7 + 2 * n + 1 = 6 + 2 * (n + 1) by omega] at r2
    exact r2
theorem sc_Reader_init : FnScope ["self", "text"] ["self", "text"] (defScope sRdI) := ⟨rfl, rfl, rfl, by decide +kernel, rfl, by decide +kernel, by decide +kernel⟩
theorem ok_Reader_init {f : Addr} {fd : FuncData} (F : FunD K "__init__" "Reader.__init__" (defArgs sRdI) (defBody sRdI) (defScope sRdI) [] [] f fd) (RD : ReaderC K mg C fI) : FnOk P w K mg base CX0 1 f fd ["self", "text"] (spReadI C) := by
  refine F.ok sc_Reader_init (fun vs H Q E h => ?_) (fun cdv A outer s H vs Q E hr h => ?_)
  · obtain ⟨r, dx, t, rfl, _⟩ := h
    rfl
  · obtain ⟨r, dx, t, rfl, hR, ht, q⟩ := h
    refine ⟨_, PSs.nox (pss_cons (by exact (ps_fld (pv 0) (pe_ifExp (pt_cmpR op_ne (pv 1) pe_str (nomark _)) (pe_split (pv 1) pe_str) (pe_lst pa_nil)) rfl)) (pss_one (by exact (ps_fld (pv 0) pe_int rfl)))), ?_⟩
    have fin : ∀ (ls : List Str) (tl : Addr), ls = linesM t → H tl = none → Q .non (upd (upd (upd H tl (.lst (ls.map V.str))) r (.ins C dx [("texts", .ref tl)])) r (.ins C dx (rdF tl 0))) := fun ls tl e n => by
      have ne : tl ≠ r := fun z => by
        rw [z, hR] at n
        cases n
      refine q tl _ (fun b o nb h => ?_) n upd_same ?_
      · rw [upd_ne nb, upd_ne nb]
        exact same_new n _ _ h
      · rw [upd_ne ne, upd_ne ne, upd_same, e]
    refine ⟨_, rfl, rfl, _, rfl, ite2 (fun e => ?_) fun e => ?_⟩
    · have ne := neE e
      refine ⟨_, rfl, ⟨_, rfl⟩, t, "\n", rfl, rfl, rfl, Nat.le_trans (Nat.add_le_add_right ht.1 2) (by decide), fun tl htl => ?_⟩
      have T := same_new (o := .lst ((Txt.split t "\n").map V.str)) htl
      refine ⟨_, rfl, r, C, dx, _, rfl, T _ _ hR, RD.cls, RD.no _ (by simp), by show 0 < 1000; decide, ?_⟩
      refine ⟨_, rfl, r, C, dx, _, rfl, upd_same, RD.cls, RD.no _ (by simp), by show 1 < 1000; decide, ?_⟩
      exact fin _ tl (by unfold linesM; rw [if_neg ne]) htl
    · have ne := neN e
      refine ⟨by show 0 ≤ sizeLine; decide, fun tl htl => ?_⟩
      have T := same_new (o := .lst []) htl
      refine ⟨_, rfl, r, C, dx, _, rfl, T _ _ hR, RD.cls, RD.no _ (by simp), by show 0 < 1000; decide, ?_⟩
      refine ⟨_, rfl, r, C, dx, _, rfl, upd_same, RD.cls, RD.no _ (by simp), by show 1 < 1000; decide, ?_⟩
      exact fin [] tl (by unfold linesM; rw [if_pos ne]) htl
theorem sc_read : FnScope ["text"] ["text"] (defScope sRead) := ⟨rfl, rfl, rfl, by decide +kernel, rfl, by decide +kernel, by decide +kernel⟩
theorem ok_read {f fR : Addr} {fd fdR fdI : FuncData} (F : FunD K "read" "read" (defArgs sRead) (defBody sRead) (defScope sRead) [] [] f fd) (RD : ReaderC K mg C fI) (FI : FunD K "__init__" "Reader.__init__" (defArgs sRdI) (defBody sRdI) (defScope sRdI) [] [] fI fdI) (FR : FunD K "read_rows" "Reader.read_rows" (defArgs sRows) (defBody sRows) (defScope sRows) [] [] fR fdR)
    (GI : FnOk P w K mg base CX0 1 fI fdI ["self", "text"] (spReadI C)) (GR : FnOk P w K mg base (L2.CX P w) 88 fR fdR ["self", "inner"] (spRows K C 41)) (mR : Meth K C "read_rows" fR) : FnOk P w K mg base (L2.CX P w) 89 f fd ["text"] (spRead K) := by
  have bI : Binds K fdI ["self", "text"] [] := FI.bindsN fun _ _ _ _ _ _ us hl => match us, hl with | [_, _], _ => rfl
  have bR : Binds K fdR ["self", "inner"] [] := FR.bindsN fun _ _ _ _ _ _ us hl => match us, hl with | [_, _], _ => rfl
  refine F.ok sc_read (fun vs H Q E h => ?_) (fun cdv A outer s H vs Q E hr h => ?_)
  · obtain ⟨t, rfl, _⟩ := h
    rfl
  · obtain ⟨t, rfl, ht, hl, q0, q1⟩ := h
    refine ⟨_, (pss_one (by exact (ps_ret (pe_ix (ix_tupK K rfl) (pe_meth (pe_make RD.made GI (hr.mono (by decide)) rfl RD.g bI .nil pass0 (pa_cons (pv 0) pa_nil)) RD.cls mR GR hr bR .nil (passes_call (takes_of rfl rfl rfl rfl) (fun _ _ _ _ h => h)) (pa_cons pe_bl pa_nil)) pe_int (fun _ _ => rfl))))), ?_⟩
    refine ⟨_, rfl, ?_⟩
    intro x dx nx nd ndx
    have nx' : upd H dx (.own x) x = none := by
      rw [upd_ne (Ne.symm ndx)]
      exact nx
    have sA : Same H (upd (upd H dx (.own x)) x (.ins C dx [])) := (same_new nd).step nx'
    refine ⟨x, dx, t, rfl, upd_same, ht, fun tl H1 k1 ntl h1 h2 => ⟨rfl, ?_⟩⟩
    have s1 : Same H H1 := fun b o h => k1 b o (fun z => by rw [z, nx] at h; cases h) (sA b o h)
    refine ⟨x, dx, _, rfl, h1, rfl, ?_⟩
    have R : RdAt C H1 x dx tl (linesM t) 0 (linesM t) := ⟨h1, h2, ⟨[], rfl, rfl⟩, by omega, ht.lines⟩
    have e41 : rowsM 41 false 0 (linesM t) = rowsM ((linesM t).length + 1) false 0 (linesM t) := by
      have m := rowsM_more ((linesM t).length + 1) (40 - (linesM t).length) false 0 (linesM t) (Nat.lt_succ_self _)
      rw [m]
      congr 1
      omega
    refine ⟨x, dx, tl, linesM t, 0, linesM t, false, rfl, R, by omega, fun e ex d H2 k2 n1 n2 => ?_, fun rows last l2 r2 ex p a rr H2 k2 R2 np na hp ha hrr => ?_⟩
    · refine q0 e ?_ d H2 (fun b o h => k2 b o (fun z => by rw [z, nx] at h; cases h) (s1 b o h)) n1
      unfold readM
      rw [← e41, ex]
    · refine ⟨p, _, _, .ref a, rfl, rfl, SqT.of hp, rfl, ?_⟩
      have s2 : Same H H2 := fun b o h => k2 b o (fun z => by rw [z, nx] at h; cases h) (s1 b o h)
      refine q1 rows ?_ a rr H2 s2 (s1.back na) ha (hrr.keep (Keeps.same (Same.refl _)) fun b z => s1.back z)
      unfold readM
      rw [← e41, ex]
end
end Pk
namespace Pk
open L2 PyProof.Rows PySem.Spec PySem
/-! ### limits of codes: plain functions -/
mutual
def countR : Row → Nat
  | .ifr _ _ a b => 1 + countM a + countM b
  | _ => 0
def countM : List Row → Nat
  | [] => 0
  | r :: rs => countR r + countM rs
end
mutual
def depthR : Row → Nat
  | .ifr _ _ a b => 1 + max (depthM a) (depthM b)
  | _ => 0
def depthM : List Row → Nat
  | [] => 0
  | r :: rs => max (depthR r) (depthM rs)
end
mutual
def sizeR : Row → Nat
  | .ifr _ _ a b => 1 + sizeM a + sizeM b
  | _ => 1
def sizeM : List Row → Nat
  | [] => 0
  | r :: rs => sizeR r + sizeM rs
end
mutual
def marksR : Row → List Nat
  | .mark l _ => [l]
  | .ifr _ _ a b => marksM a ++ marksM b
  | _ => []
def marksM : List Row → List Nat
  | [] => []
  | r :: rs => marksR r ++ marksM rs
end
abbrev Way := List Row × Bool
def isQuit : Row → Bool
  | .quit _ => true
  | _ => false
mutual
/-- what comes of a way when a row follows it -/
def longerR : Row → Way → List Way
  | .ifr l ps a b, (told, goes) => if goes = true then ((waysFrom a [([], true)]) ++ (waysFrom b [([], true)])).map fun w => (told ++ (.ifr l ps a b) :: w.1, w.2) else [(told, false)]
  | r, (told, goes) => if goes = true then [(told ++ [r], !isQuit r)] else [(told, false)]
def waysFrom : List Row → List Way → List Way
  | [], ws => ws
  | r :: rs, ws => waysFrom rs (ws.flatMap (longerR r))
end
def waysM (rows : List Row) : List Way := waysFrom rows [([], true)]
def lineR : Row → Nat
  | .set l _ _ _ => l
  | .cut l _ _ _ => l
  | .join l _ _ => l
  | .shift l _ _ _ => l
  | .mark l _ => l
  | .quit l => l
  | .ifr l _ _ _ => l
/-- settings of registers so far, divisions, their product; the lines that break a limit -/
structure Much where
  sets : List (Str × Nat)
  divs : Nat
  prod : Nat
  found : List Nat
def getS (ks : List (Str × Nat)) (r : Str) : Nat := (ks.lookup r).getD 0
def muchStep (m : Much) : Row → Much
  | .set l r _ d =>
    let n := getS m.sets r + 1
    let f1 := if n > 2 then m.found ++ [l] else m.found
    match d with
    | none => ⟨(r, n) :: m.sets, m.divs, m.prod, f1⟩
    | some d => ⟨(r, n) :: m.sets, m.divs + 1, m.prod * d, if m.divs + 1 > 2 ∨ m.prod * d > 144 then f1 ++ [l] else f1⟩
  | _ => m
def tooMuchM (told : List Row) (product : Nat) : List Nat := (told.foldl muchStep ⟨[], 0, product, []⟩).found
def PLAINL : List (Option Str) := [none, some ("k" : Str), some ("cap" : Str), some ("low" : Str)]
def oddSum (ts : List Term) : Bool := ts.any fun t => !decide (t.2 ∈ PLAINL)
def mvLine : Row → Option Nat
  | .cut l _ ts _ => if oddSum ts = true then some l else none
  | .shift l ts _ _ => if oddSum ts = true then some l else none
  | _ => none
def movesM (told : List Row) : List Nat := told.filterMap mvLine
def wrongM (rows : List Row) (taken : Bool) (product : Nat) : List Nat := (if taken = true then marksM rows else []) ++ (waysM rows).flatMap fun w => tooMuchM w.1 product ++ ((movesM w.1).drop 3).take 1
inductive LimR where
  | fine
  | many (n : Nat)
  | refused (l : Nat)
def limitsM (rows : List Row) (taken : Bool) (product : Nat) : LimR :=
  if countM rows > 7 then .many (countM rows) else match wrongM rows taken product with
    | [] => .fine
    | l :: ls => .refused (ls.foldl min l)
/-! ### how many ways, how long -/
theorem two_le (a b : Nat) : 2 ^ a + 2 ^ b ≤ 2 ^ (1 + a + b) := by
  have h1 : 2 ^ a ≤ 2 ^ (a + b) := Nat.pow_le_pow_right (by decide) (Nat.le_add_right a b)
  have h2 : 2 ^ b ≤ 2 ^ (a + b) := Nat.pow_le_pow_right (by decide) (Nat.le_add_left b a)
  have e : 2 ^ (1 + a + b) = 2 * 2 ^ (a + b) := by
    rw [Nat.add_assoc, Nat.pow_add]
  omega
theorem flatMap_le {α β : Type} (f : α → List β) (n : Nat) : ∀ l : List α, (∀ x ∈ l, (f x).length ≤ n) → (l.flatMap f).length ≤ l.length * n
  | [], _ => by simp
  | x :: l, h => by
    rw [List.flatMap_cons, List.length_append, List.length_cons, Nat.succ_mul]
    have a := h x (by simp)
    have b := flatMap_le f n l fun y hy => h y (List.mem_cons_of_mem _ hy)
    omega
mutual
theorem longer_len : ∀ (r : Row) (w : Way), (longerR r w).length ≤ 2 ^ countR r
  | .ifr l ps a b, (told, goes) => by
    have h1 := ways_len a [([], true)]
    have h2 := ways_len b [([], true)]
    have t := two_le (countM a) (countM b)
    unfold longerR
    split
    · rw [List.length_map, List.length_append]
      rw [List.length_singleton, Nat.one_mul] at h1 h2
      show _ ≤ 2 ^ (1 + countM a + countM b)
      omega
    · exact Nat.one_le_two_pow
  | .set .., (told, goes) => by unfold longerR; split <;> exact Nat.le_refl _
  | .cut .., (told, goes) => by unfold longerR; split <;> exact Nat.le_refl _
  | .join .., (told, goes) => by unfold longerR; split <;> exact Nat.le_refl _
  | .shift .., (told, goes) => by unfold longerR; split <;> exact Nat.le_refl _
  | .mark .., (told, goes) => by unfold longerR; split <;> exact Nat.le_refl _
  | .quit .., (told, goes) => by unfold longerR; split <;> exact Nat.le_refl _
theorem ways_len : ∀ (rows : List Row) (ws : List Way), (waysFrom rows ws).length ≤ ws.length * 2 ^ countM rows
  | [], ws => by unfold waysFrom countM; omega
  | r :: rs, ws => by
    have h1 := ways_len rs (ws.flatMap (longerR r))
    have h2 := flatMap_le (longerR r) (2 ^ countR r) ws fun w _ => longer_len r w
    unfold waysFrom countM
    rw [Nat.pow_add, ← Nat.mul_assoc]
    exact Nat.le_trans h1 (Nat.mul_le_mul_right _ h2)
end
mutual
theorem longer_told : ∀ (r : Row) (w : Way), ∀ v ∈ longerR r w, v.1.length ≤ w.1.length + sizeR r
  | .ifr l ps a b, (told, goes) => fun v hv => by
    unfold longerR at hv
    split at hv
    · obtain ⟨u, hu, rfl⟩ := List.mem_map.mp hv
      show (told ++ _ :: u.1).length ≤ told.length + (1 + sizeM a + sizeM b)
      rw [List.length_append, List.length_cons]; rcases List.mem_append.mp hu with hu | hu
      · have h := ways_told a _ 0 (fun w hw => by rw [List.mem_singleton.mp hw]; exact Nat.le_refl _) u hu
        omega
      · have h := ways_told b _ 0 (fun w hw => by rw [List.mem_singleton.mp hw]; exact Nat.le_refl _) u hu
        omega
    · rw [List.mem_singleton.mp hv]
      exact Nat.le_add_right _ _
  | .set .., (told, goes) => fun v hv => by
    unfold longerR at hv
    split at hv <;> rw [List.mem_singleton.mp hv]
    · show (told ++ [_]).length ≤ told.length + 1
      rw [List.length_append]
      exact Nat.le_refl _
    · exact Nat.le_add_right _ _
  | .cut .., (told, goes) => fun v hv => by
    unfold longerR at hv
    split at hv <;> rw [List.mem_singleton.mp hv]
    · show (told ++ [_]).length ≤ told.length + 1
      rw [List.length_append]
      exact Nat.le_refl _
    · exact Nat.le_add_right _ _
  | .join .., (told, goes) => fun v hv => by
    unfold longerR at hv
    split at hv <;> rw [List.mem_singleton.mp hv]
    · show (told ++ [_]).length ≤ told.length + 1
      rw [List.length_append]
      exact Nat.le_refl _
    · exact Nat.le_add_right _ _
  | .shift .., (told, goes) => fun v hv => by
    unfold longerR at hv
    split at hv <;> rw [List.mem_singleton.mp hv]
    · show (told ++ [_]).length ≤ told.length + 1
      rw [List.length_append]
      exact Nat.le_refl _
    · exact Nat.le_add_right _ _
  | .mark .., (told, goes) => fun v hv => by
    unfold longerR at hv
    split at hv <;> rw [List.mem_singleton.mp hv]
    · show (told ++ [_]).length ≤ told.length + 1
      rw [List.length_append]
      exact Nat.le_refl _
    · exact Nat.le_add_right _ _
  | .quit .., (told, goes) => fun v hv => by
    unfold longerR at hv
    split at hv <;> rw [List.mem_singleton.mp hv]
    · show (told ++ [_]).length ≤ told.length + 1
      rw [List.length_append]
      exact Nat.le_refl _
    · exact Nat.le_add_right _ _
theorem ways_told : ∀ (rows : List Row) (ws : List Way) (n : Nat), (∀ w ∈ ws, w.1.length ≤ n) → ∀ v ∈ waysFrom rows ws, v.1.length ≤ n + sizeM rows
  | [], ws, n, h => fun v hv => by
    unfold waysFrom at hv
    exact Nat.le_trans (h v hv) (Nat.le_add_right _ _)
  | r :: rs, ws, n, h => fun v hv => by
    unfold waysFrom at hv
    have q := ways_told rs _ (n + sizeR r) (fun w hw => by
      obtain ⟨u, hu, hw⟩ := List.mem_flatMap.mp hw
      exact Nat.le_trans (longer_told r u w hw) (Nat.add_le_add_right (h u hu) _)) v hv
    show v.1.length ≤ n + (sizeR r + sizeM rs)
    omega
end
/-! ### rows that were read: how deep, how many -/
structure Few (n l l2 : Nat) (rows : List Row) : Prop where
  deep : depthM rows ≤ n
  size : sizeM rows + l ≤ l2
theorem rowM_few {n : Nat} (hr : ∀ i l ls rows last l2 r2, rowsM n i l ls = .ok (rows, last, l2, r2) → Few n l l2 rows) {line : Nat} {ws r : List Str} {row : Row} {l2 : Nat} {r2 : List Str} (h : rowM (rowsM n) line ws r = .ok (row, l2, r2)) : depthR row ≤ n + 1 ∧ sizeR row + line ≤ l2 + 1 := by
  have plain : ∀ {row}, deedM line ws = some row → depthR row = 0 ∧ sizeR row = 1 := fun {row} e => by
    have k : ∀ (o : Option (List Term)) (f : List Term → Option Row), (∀ ts row, f ts = some row → depthR row = 0 ∧ sizeR row = 1) → (match o with
      | some ts => f ts
      | none => none) = some row → depthR row = 0 ∧ sizeR row = 1 := fun o f hf z => by
      cases o with
      | none => cases z
      | some ts => exact hf ts row z
    unfold deedM at e
    split at e
    · cases e
      exact ⟨rfl, rfl⟩
    · split at e
      · cases q : divM (ws.drop 2) 12 with
        | none => (rw [q] at e; cases e)
        | some x =>
          rw [q] at e
          cases e
          exact ⟨rfl, rfl⟩
      · split at e
        · cases e
          exact ⟨rfl, rfl⟩
        · split at e
          · split at e
            · cases e
              exact ⟨rfl, rfl⟩
            · cases e
          · unfold movingM at e
            split at e
            · cases e
            · split at e
              · split at e
                · split at e
                  · cases e
                    exact ⟨rfl, rfl⟩
                  · cases e
                · cases e
              · split at e
                · cases e
                · split at e
                  · split at e
                    · cases e
                      exact ⟨rfl, rfl⟩
                    · cases e
                  · cases e
  unfold rowM at h
  split at h
  · split at h
    · cases h
    · split at h
      · cases h
      · rename_i e
        have a := hr _ _ _ _ _ _ _ e
        split at h
        · split at h
          · cases h
          · rename_i e2
            have b := hr _ _ _ _ _ _ _ e2
            split at h
            · cases h
              have := a.deep
              have := b.deep
              have := a.size
              have := b.size
              refine ⟨?_, ?_⟩
              · show 1 + max _ _ ≤ n + 1
                omega
              · show 1 + sizeM _ + sizeM _ + line ≤ _
                omega
            · cases h
        · split at h
          · cases h
            have := a.deep
            have := a.size
            refine ⟨?_, ?_⟩
            · show 1 + max _ (depthM []) ≤ n + 1
              unfold depthM at *
              omega
            · show 1 + sizeM _ + sizeM [] + line ≤ _
              have z : sizeM [] = 0 := rfl
              omega
          · cases h
  · split at h
    · cases h
    · rename_i e
      cases h
      obtain ⟨a, b⟩ := plain e
      omega
theorem rowsM_few : ∀ (n : Nat) (i : Bool) (l : Nat) (ls : List Str) (rows : List Row) (last : Option Str) (l2 : Nat) (r2 : List Str), rowsM n i l ls = .ok (rows, last, l2, r2) → Few n l l2 rows
  | 0, _, _, _, _, _, _, _, h => by cases h
  | n + 1, i, l, ls, rows, last, l2, r2, h => by
    unfold rowsM at h
    split at h
    · split at h
      · cases h
      · cases h
        exact ⟨Nat.zero_le _, Nat.le_of_eq (Nat.zero_add _)⟩
    · split at h
      · cases h
        exact ⟨Nat.zero_le _, by show 0 + l ≤ l + 1; omega⟩
      · split at h
        · cases h
        · rename_i e
          have a := rowM_few (rowsM_few n) e
          split at h
          · cases h
          · rename_i e2
            have b := rowsM_few n _ _ _ _ _ _ _ e2
            cases h
            have := b.deep
            have := b.size
            refine ⟨?_, ?_⟩
            · show max (depthR _) (depthM _) ≤ n + 1
              omega
            · show sizeR _ + sizeM _ + l ≤ l2
              omega
theorem readM_few {t : Str} {rows : List Row} (h : readM t = .ok rows) : depthM rows ≤ (linesM t).length + 1 ∧ sizeM rows ≤ (linesM t).length := by
  unfold readM at h
  split at h
  · cases h
  · rename_i x e
    cases h
    obtain ⟨rows, last, l2, r2⟩ := x
    have a := rowsM_few _ _ _ _ _ _ _ _ e
    have b := (rowsM_left _ _ _ _ _ _ _ _ e).sum
    have := a.size
    exact ⟨a.deep, by show sizeM rows ≤ _; omega⟩
end Pk
namespace Pk
open L2 PyProof.Rows PySem.Spec PySem
abbrev sCount : Stmt := top 16
abbrev sWays : Stmt := top 17
abbrev sLonger : Stmt := top 18
abbrev sMarks : Stmt := top 19
abbrev sMuch : Stmt := top 20
abbrev sMoves : Stmt := top 21
abbrev sLimits : Stmt := top 22
/-! ### a row's tuple -/
def kindR : Row → Str
  | .set .. => "set"
  | .cut .. => "cut"
  | .join .. => "join"
  | .shift .. => "shift"
  | .mark .. => "mark"
  | .quit .. => "quit"
  | .ifr .. => "if"
theorem row_at {fr : Addr → Prop} {H : Hp} {a : Addr} {row : Row} (h : RowAt fr H a row) : ∃ xs, H a = some (.tup xs) ∧ atI xs 0 = some (.str (kindR row)) ∧ atI xs 1 = some (.int (lineR row : Nat)) := by
  cases h with
  | set e _ => exact ⟨_, e, rfl, rfl⟩
  | cut e _ => exact ⟨_, e, rfl, rfl⟩
  | join e => exact ⟨_, e, rfl, rfl⟩
  | shift e _ => exact ⟨_, e, rfl, rfl⟩
  | mark e => exact ⟨_, e, rfl, rfl⟩
  | quit e => exact ⟨_, e, rfl, rfl⟩
  | ifr e => exact ⟨_, e, rfl, rfl⟩
structure IfAt (fr : Addr → Prop) (H : Hp) (q : Addr) (l : Nat) (ps : List Part) (a b : List Row) (p ra oa : Addr) (rr orr : List Addr) : Prop where
  h : H q = some (.tup [.str "if", .int (l : Nat), .ref p, .ref ra, .ref oa])
  ps : PartsAt H p ps
  fa : fr ra
  ha : H ra = some (.lst (rr.map V.ref))
  ra : RowsAt fr H rr a
  fb : fr oa
  hb : H oa = some (.lst (orr.map V.ref))
  rb : RowsAt fr H orr b
theorem row_if {fr : Addr → Prop} {H : Hp} {q : Addr} {l : Nat} {ps : List Part} {a b : List Row} (h : RowAt fr H q (.ifr l ps a b)) : ∃ p ra oa rr orr, IfAt fr H q l ps a b p ra oa rr orr := by
  cases h with
  | ifr e p f1 e1 r1 f2 e2 r2 => exact ⟨_, _, _, _, _, e, p, f1, e1, r1, f2, e2, r2⟩
theorem rows_len {fr : Addr → Prop} {H : Hp} : ∀ {rr : List Addr} {rows : List Row}, RowsAt fr H rr rows → rr.length = rows.length
  | _, _, .nil => rfl
  | _, _, .cons _ rs => congrArg Nat.succ (rows_len rs)
theorem rows_get {fr : Addr → Prop} {H : Hp} : ∀ {rr : List Addr} {rows : List Row} {i : Nat} {b : Addr}, RowsAt fr H rr rows → rr[i]? = some b → ∃ row, rows[i]? = some row ∧ RowAt fr H b row
  | _, _, _, _, .nil, h => by simp at h
  | _, _, 0, _, .cons r _, h => by
    cases h
    exact ⟨_, rfl, r⟩
  | _, _, i + 1, _, .cons _ rs, h => rows_get (i := i) rs h
/-- the i-th reference of a list of rows -/
theorem ref_get {fr : Addr → Prop} {H : Hp} {rr : List Addr} {rows : List Row} {i : Nat} {x : V} (h : RowsAt fr H rr rows) (e : (rr.map V.ref)[i]? = some x) : ∃ b row, x = .ref b ∧ rows[i]? = some row ∧ RowAt fr H b row := by
  rw [List.getElem?_map] at e
  cases q : rr[i]? with
  | none => (rw [q] at e; cases e)
  | some b =>
    rw [q] at e
    obtain ⟨row, h1, h2⟩ := rows_get h q
    exact ⟨b, row, (Option.some.inj e).symm, h1, h2⟩
theorem take_snoc {α : Type} {l : List α} {i : Nat} {x : α} (h : l[i]? = some x) : l.take (i + 1) = l.take i ++ [x] := by
  rw [List.take_succ, h]
  rfl
theorem depth_mem {row : Row} : ∀ {rows : List Row}, row ∈ rows → depthR row ≤ depthM rows
  | r :: rs, h => by
    show depthR row ≤ max (depthR r) (depthM rs)
    rcases (List.mem_cons.mp h) with e | e
    · rw [e]
      exact Nat.le_max_left _ _
    · exact Nat.le_trans (depth_mem e) (Nat.le_max_right _ _)
theorem size_mem {row : Row} : ∀ {rows : List Row}, row ∈ rows → sizeR row ≤ sizeM rows
  | r :: rs, h => by
    show sizeR row ≤ sizeR r + sizeM rs
    rcases (List.mem_cons.mp h) with e | e
    · rw [e]
      omega
    · have := size_mem e
      omega
theorem size_pos : ∀ (row : Row), 1 ≤ sizeR row
  | .set .. => Nat.le_refl _
  | .cut .. => Nat.le_refl _
  | .join .. => Nat.le_refl _
  | .shift .. => Nat.le_refl _
  | .mark .. => Nat.le_refl _
  | .quit .. => Nat.le_refl _
  | .ifr .. => by unfold sizeR; omega
theorem size_len : ∀ rows : List Row, rows.length ≤ sizeM rows
  | [] => Nat.le_refl _
  | r :: rs => by
    have := size_pos r
    have := size_len rs
    show rs.length + 1 ≤ sizeR r + sizeM rs
    omega
theorem kind_if {row : Row} (h : kindR row = "if") : ∃ l ps a b, row = .ifr l ps a b := by
  cases row with
  | ifr l ps a b => exact ⟨l, ps, a, b, rfl⟩
  | _ => exact absurd h (by simp only [kindR]; decide)
theorem count_not {row : Row} (h : ¬ kindR row = "if") : countR row = 0 := by
  cases row with
  | ifr l ps a b => exact absurd rfl h
  | _ => rfl
theorem countM_snoc (r : Row) : ∀ rs : List Row, countM (rs ++ [r]) = countM rs + countR r
  | [] => by show countR r + 0 = 0 + countR r; omega
  | x :: rs => by
    have := countM_snoc r rs
    show countR x + countM (rs ++ [r]) = countR x + countM rs + countR r
    omega
theorem marksM_snoc (r : Row) : ∀ rs : List Row, marksM (rs ++ [r]) = marksM rs ++ marksR r
  | [] => by show marksR r ++ [] = [] ++ marksR r; rw [List.append_nil, List.nil_append]
  | x :: rs => by
    have := marksM_snoc r rs
    show marksR x ++ marksM (rs ++ [r]) = marksR x ++ marksM rs ++ marksR r
    rw [this, List.append_assoc]
mutual
theorem marksR_len : ∀ r : Row, (marksR r).length ≤ sizeR r
  | .ifr l ps a b => by
    have := marksM_len a
    have := marksM_len b
    show (marksM a ++ marksM b).length ≤ 1 + sizeM a + sizeM b
    rw [List.length_append]
    omega
  | .mark .. => Nat.le_refl _
  | .set .. => Nat.zero_le _
  | .cut .. => Nat.zero_le _
  | .join .. => Nat.zero_le _
  | .shift .. => Nat.zero_le _
  | .quit .. => Nat.zero_le _
theorem marksM_len : ∀ rs : List Row, (marksM rs).length ≤ sizeM rs
  | [] => Nat.le_refl _
  | r :: rs => by
    have := marksR_len r
    have := marksM_len rs
    show (marksR r ++ marksM rs).length ≤ sizeR r + sizeM rs
    rw [List.length_append]
    omega
end
theorem size_take : ∀ (rows : List Row) (i : Nat), sizeM (rows.take i) ≤ sizeM rows
  | [], i => by rw [List.take_nil]; exact Nat.le_refl _
  | r :: rs, 0 => Nat.zero_le _
  | r :: rs, i + 1 => by
    have := size_take rs i
    show sizeR r + sizeM (rs.take i) ≤ sizeR r + sizeM rs
    omega
def spCount (n : Nat) : Sp := fun vs H Q _ => ∃ (a : Addr) (fr : Addr → Prop) (rr : List Addr) (rows : List Row), vs = [.ref a] ∧ H a = some (.lst (rr.map V.ref)) ∧ RowsAt fr H rr rows ∧ depthM rows < n ∧ sizeM rows ≤ 1000 ∧ ∀ H', Same H H' → Q (.int (countM rows : Nat)) H'
def spMarks (n : Nat) : Sp := fun vs H Q _ => ∃ (a : Addr) (fr : Addr → Prop) (rr : List Addr) (rows : List Row), vs = [.ref a] ∧ H a = some (.lst (rr.map V.ref)) ∧ RowsAt fr H rr rows ∧ depthM rows < n ∧ sizeM rows ≤ 1000 ∧ ∀ p H', Same H H' → H p = none → H' p = some (.lst ((marksM rows).map fun l => V.int (l : Nat))) → Q (.ref p) H'
/-- the ifs' counts, row by row -/
def cntL (rows : List Row) : List Int := rows.filterMap fun r => if kindR r = "if" then some (countR r : Int) else none
theorem cnt_sum : ∀ rows : List Row, (cntL rows).sum = (countM rows : Nat)
  | [] => rfl
  | r :: rs => by
    have ih := cnt_sum rs
    unfold cntL at ih ⊢
    rw [List.filterMap_cons]
    by_cases h : kindR r = "if"
    · rw [if_pos h]
      dsimp only
      rw [List.sum_cons, ih]
      exact (Int.natCast_add _ _).symm
    · rw [if_neg h]
      dsimp only
      rw [ih]
      show ((countM rs : Nat) : Int) = ((countR r + countM rs : Nat) : Int)
      rw [count_not h, Nat.zero_add]
theorem cnt_snoc {rows : List Row} {r : Row} : cntL (rows ++ [r]) = cntL rows ++ (if kindR r = "if" then [(countR r : Int)] else []) := by
  unfold cntL
  rw [List.filterMap_append]
  congr 1
  by_cases h : kindR r = "if"
  · rw [if_pos h, List.filterMap_cons, if_pos h]
    rfl
  · rw [if_neg h, List.filterMap_cons, if_neg h]
    rfl
section
variable {K : PySem.W.Frag} {P : Program} {w : World} {base : Heap} {mg : Str → Option Value}
theorem sc_count_ifs : FnScope ["rows", "row"] ["rows"] (defScope sCount) := ⟨rfl, rfl, rfl, by decide +kernel, rfl, by decide +kernel, by decide +kernel⟩
theorem ok_count_ifs {fC : Addr} {fdC : FuncData} (FC : FunD K "count_ifs" "count_ifs" (defArgs sCount) (defBody sCount) (defScope sCount) [] [] fC fdC) (gC : mg "count_ifs" = some (.ref fC)) (mSum : mg "sum" = none) : ∀ n, FnOk P w K mg base CX0 (n + 1) fC fdC ["rows"] (spCount n)
  | 0 => by
    refine FC.ok sc_count_ifs (fun vs H Q E h => ?_) (fun cdv A outer s H vs Q E hr h => ?_)
    · obtain ⟨a, fr, rr, rows, rfl, _⟩ := h
      rfl
    · obtain ⟨a, fr, rr, rows, rfl, _, _, hn, _⟩ := h
      exact absurd hn (Nat.not_lt_zero _)
  | n + 1 => by
    have GC := ok_count_ifs FC gC mSum n
    have bC : Binds K fdC ["rows"] [] := FC.bindsN fun _ _ _ _ _ _ us hl => match us, hl with | [_], _ => rfl
    refine FC.ok sc_count_ifs (fun vs H Q E h => ?_) (fun cdv A outer s H vs Q E hr h => ?_)
    · obtain ⟨a, fr, rr, rows, rfl, _⟩ := h
      rfl
    · obtain ⟨a, fr, rr, rows, rfl, ha, hrr, hn, hs, q⟩ := h
      refine ⟨_, PSs.nox (pss_one (by exact (ps_ret (pe_callB (cr_sum rfl) (by rfl) mSum (by decide +kernel) (pa_cons (pe_lc (own := [("row", 1)]) (g := gName 1) rfl sc_count_ifs.nd (pi_list (pv 0)) (blkOk_by (N := ["rows", "row"]) (sc := defScope sCount) (by decide +kernel)) (fun _ _ _ _ _ => pg_name (i := 1) sc_count_ifs.nd rfl (Or.inl rfl)) (fun _ _ _ _ _ => (pts_one (pt_cmpR op_eq (pe_ix (ix_tupK K rfl) (pv 1) pe_int (fun _ _ => rfl)) pe_str (nomark _)))) (fun _ _ _ _ _ => (pe_op op_add (pe_op op_add pe_int (pe_call GC hr rfl gC FC.kp bC .nil pass0 (pa_cons (pe_ix (ix_tupK K rfl) (pv 1) pe_int (fun _ _ => rfl)) pa_nil))) (pe_call GC hr rfl gC FC.kp bC .nil pass0 (pa_cons (pe_ix (ix_tupK K rfl) (pv 1) pe_int (fun _ _ => rfl)) pa_nil))))) pa_nil))))), ?_⟩
      have lr := rows_len hrr
      refine ⟨_, rfl, a, rfl, ⟨_, SqL.of ha⟩, fun D hD => lc_list (K := K) (a := a) (xs := rr.map V.ref) (fun i H' => Same H H' ∧ H' D = some (.lst ((cntL (rows.take i)).map V.int))) ⟨same_new hD, by rw [upd_same]; rfl⟩ (fun i H' _ h => SqL.of (h.1 _ _ ha)) ?_ ?_⟩
      · intro i x H' hi hp
        obtain ⟨b, row, rfl, hrow, hb⟩ := ref_get hrr hi
        have hb' := hb.keep (Keeps.same hp.1) fun _ z => z
        obtain ⟨xs, h1, h2, _⟩ := row_at hb'
        have mem := List.mem_of_getElem? hrow
        have st : ∀ H2 acc, Same H' H2 → Same H (upd H2 D (.lst acc)) := fun H2 acc s2 u o e => by
          rw [upd_ne (fun z => by rw [z, hD] at e; cases e)]
          exact s2 _ _ (hp.1 u o e)
        refine ⟨rfl, ?_⟩
        refine ⟨_, rfl, b, xs, 0, .str (kindR row), rfl, rfl, SqT.of h1, h2, rfl, _, rfl, ite2 (fun e => ?_) fun e => ?_⟩
        · have ek := strE e
          obtain ⟨l, ps, ra, rb, rfl⟩ := kind_if ek
          obtain ⟨p, r1, r2, rr1, rr2, I⟩ := row_if hb'
          have dm := depth_mem mem
          have sm := size_mem mem
          have d1 : 1 + max (depthM ra) (depthM rb) ≤ depthM rows := dm
          have s1 : 1 + sizeM ra + sizeM rb ≤ sizeM rows := sm
          refine ⟨_, rfl, b, _, 3, .ref r1, rfl, rfl, SqT.of I.h, rfl, r1, fr, rr1, ra, rfl, I.ha, I.ra, by omega, by omega, fun H3 s3 => ?_⟩
          refine ⟨_, _, rfl, rfl, _, rfl, b, _, 4, .ref r2, rfl, rfl, SqT.of (s3 _ _ I.h), rfl, r2, fr, rr2, rb, rfl, s3 _ _ I.hb, I.rb.keep (Keeps.same s3) fun _ z => z, by omega, by omega, fun H4 s4 => ?_⟩
          have s34 := s3.trans s4
          refine ⟨_, _, rfl, rfl, _, s34 _ _ hp.2, ?_, st _ _ s34, ?_⟩
          · rw [List.length_map]
            unfold cntL
            refine Nat.lt_of_le_of_lt (List.length_filterMap_le _ _) (Nat.lt_of_le_of_lt (List.length_take_le' _ _) ?_)
            exact Nat.lt_of_le_of_lt (Nat.le_trans (size_len rows) hs) (by decide)
          · rw [upd_same, take_snoc hrow, cnt_snoc, if_pos ek, List.map_append]
            rfl
        · have ek := strN e
          refine ⟨hp.1, ?_⟩
          rw [take_snoc hrow, cnt_snoc, if_neg ek, List.append_nil]
          exact hp.2
      · intro H' hp
        have full : rows.take (rr.map V.ref).length = rows := by
          rw [List.length_map, lr]
          exact List.take_length ..
        have h2 := hp.2
        rw [full] at h2
        refine ⟨D, _, rfl, SqL.of h2, ?_⟩
        rw [cnt_sum]
        exact q H' hp.1
end
end Pk
namespace Pk
open L2 PyProof.Rows PySem.Spec PySem
theorem kind_mark {row : Row} (h : kindR row = "mark") : ∃ l y, row = .mark l y := by
  cases row with
  | mark l y => exact ⟨l, y, rfl⟩
  | _ => exact absurd h (by simp only [kindR]; decide)
theorem marks_not {row : Row} (h1 : ¬ kindR row = "mark") (h : ¬ kindR row = "if") : marksR row = [] := by
  cases row with
  | ifr l ps a b => exact absurd rfl h
  | mark l y => exact absurd rfl h1
  | _ => rfl
abbrev natL (ls : List Nat) : List V := ls.map fun l => V.int (l : Nat)
section
variable {K : PySem.W.Frag} {P : Program} {w : World} {base : Heap} {mg : Str → Option Value}
theorem sc_marks_of : FnScope ["rows", "found", "row"] ["rows"] (defScope sMarks) := ⟨rfl, rfl, rfl, by decide +kernel, rfl, by decide +kernel, by decide +kernel⟩
theorem ok_marks_of {fC : Addr} {fdC : FuncData} (FC : FunD K "marks_of" "marks_of" (defArgs sMarks) (defBody sMarks) (defScope sMarks) [] [] fC fdC) (gC : mg "marks_of" = some (.ref fC)) : ∀ n, FnOk P w K mg base CX0 (n + 1) fC fdC ["rows"] (spMarks n)
  | 0 => by
    refine FC.ok sc_marks_of (fun vs H Q E h => ?_) (fun cdv A outer s H vs Q E hr h => ?_)
    · obtain ⟨a, fr, rr, rows, rfl, _⟩ := h
      rfl
    · obtain ⟨a, fr, rr, rows, rfl, _, _, hn, _⟩ := h
      exact absurd hn (Nat.not_lt_zero _)
  | n + 1 => by
    have GC := ok_marks_of FC gC n
    have bC : Binds K fdC ["rows"] [] := FC.bindsN fun _ _ _ _ _ _ us hl => match us, hl with | [_], _ => rfl
    refine FC.ok sc_marks_of (fun vs H Q E h => ?_) (fun cdv A outer s H vs Q E hr h => ?_)
    · obtain ⟨a, fr, rr, rows, rfl, _⟩ := h
      rfl
    · obtain ⟨a, fr, rr, rows, rfl, ha, hrr, hn, hs, q⟩ := h
      have lr := rows_len hrr
      refine ⟨_, PSs.nox (pss_cons (by exact (ps_set (i := 1) sc_marks_of.nd rfl (Or.inl rfl) (pe_lst pa_nil))) (pss_cons (by exact (ps_for PassesOwn.never rfl (pi_list (pv 0)) (pg_name (i := 2) sc_marks_of.nd rfl (Or.inl rfl)) (pss_one (by exact (ps_if (pt_cmpR op_eq (pe_ix (ix_tupK K rfl) (pv 2) pe_int (fun _ _ => rfl)) pe_str (nomark _)) (pss_one (by exact (ps_expr (pe_bm PySem.F.plainAttrs_list PySem.F.slot_list_append PySem.F.type_list_append mt_append (pv 1) (pa_cons (pe_ix (ix_tupK K rfl) (pv 2) pe_int (fun _ _ => rfl)) pa_nil))))) (pss_one (by exact (ps_if (pt_cmpR op_eq (pe_ix (ix_tupK K rfl) (pv 2) pe_int (fun _ _ => rfl)) pe_str (nomark _)) (pss_one (by exact (ps_expr (pe_bm PySem.F.plainAttrs_list PySem.F.slot_list_extend PySem.F.type_list_extend mt_extend (pv 1) (pa_cons (pe_lst (StX.pa_star (pe_call GC hr rfl gC FC.kp bC .nil pass0 (pa_cons (pe_ix (ix_tupK K rfl) (pv 2) pe_int (fun _ _ => rfl)) pa_nil)) (StX.pa_star (pe_call GC hr rfl gC FC.kp bC .nil pass0 (pa_cons (pe_ix (ix_tupK K rfl) (pv 2) pe_int (fun _ _ => rfl)) pa_nil)) pa_nil))) pa_nil))))) pss_nil)))))))) (pss_one (by exact (ps_ret (pv 1)))))), ?_⟩
      refine ⟨by show 0 ≤ sizeLine; decide, fun fa hfa => ?_⟩
      have T0 := same_new (o := .lst []) hfa
      refine ⟨_, rfl, a, rfl, ⟨_, SqL.of (T0 _ _ ha)⟩, for_list (K := K) (a := a) (xs := rr.map V.ref) (fun i σ H' => ∃ v : Option V, σ = [some (.ref a), some (.ref fa), v] ∧ Same H H' ∧ H' fa = some (.lst (natL (marksM (rows.take i))))) ⟨none, rfl, T0, upd_same⟩ (fun i σ H' _ ⟨v, e, s, _⟩ => SqL.of (s _ _ ha)) ?_ ?_⟩
      · rintro i x σ H' hi ⟨v, rfl, sH, hf⟩
        obtain ⟨b, row, rfl, hrow, hb⟩ := ref_get hrr hi
        have hb' := hb.keep (Keeps.same sH) fun _ z => z
        obtain ⟨xs, h1, h2, h3⟩ := row_at hb'
        have mem := List.mem_of_getElem? hrow
        have st : ∀ {H2 acc}, Same H' H2 → Same H (upd H2 fa (.lst acc)) := fun {H2 acc} s2 u o e => by
          rw [upd_ne (fun z => by rw [z, hfa] at e; cases e)]
          exact s2 _ _ (sH u o e)
        have lm : (marksM (rows.take i)).length ≤ 1000 := Nat.le_trans (marksM_len _) (Nat.le_trans (size_take rows i) hs)
        refine ⟨_, rfl, b, xs, 0, .str (kindR row), rfl, rfl, SqT.of h1, h2, rfl, _, rfl, ite2 (fun e => ?_) fun e => ?_⟩
        · have ek := strE e
          obtain ⟨l, y, rfl⟩ := kind_mark ek
          refine ⟨_, rfl, .inl ⟨rfl, _, SqL.of hf⟩, _, rfl, b, xs, 1, .int (l : Nat), rfl, rfl, SqT.of h1, h3, fa, _, _, rfl, rfl, hf, ?_, ?_⟩
          · rw [List.length_map]
            exact Nat.lt_of_le_of_lt lm (by decide)
          · refine ⟨_, rfl, st (Same.refl _), ?_⟩
            rw [upd_same, take_snoc hrow, marksM_snoc]
            show _ = some (HO.lst (natL (marksM (rows.take i) ++ [l])))
            unfold natL
            rw [List.map_append]
            rfl
        · have ek := strN e
          refine ⟨_, rfl, b, xs, 0, .str (kindR row), rfl, rfl, SqT.of h1, h2, rfl, _, rfl, ite2 (fun e2 => ?_) fun e2 => ?_⟩
          · have ek2 := strE e2
            obtain ⟨l, ps, ra, rb, rfl⟩ := kind_if ek2
            obtain ⟨p, r1, r2, rr1, rr2, I⟩ := row_if hb'
            have dm := depth_mem mem
            have sm := size_mem mem
            have d1 : 1 + max (depthM ra) (depthM rb) ≤ depthM rows := dm
            have s1 : 1 + sizeM ra + sizeM rb ≤ sizeM rows := sm
            refine ⟨_, rfl, .inl ⟨rfl, _, SqL.of hf⟩, _, rfl, b, _, 3, .ref r1, rfl, rfl, SqT.of I.h, rfl, r1, fr, rr1, ra, rfl, I.ha, I.ra, by omega, by omega, fun p3 H3 s3 n3 h3 => ⟨p3, _, rfl, .inr (SqL.of h3), ?_⟩⟩
            refine ⟨_, rfl, b, _, 4, .ref r2, rfl, rfl, SqT.of (s3 _ _ I.h), rfl, r2, fr, rr2, rb, rfl, s3 _ _ I.hb, I.rb.keep (Keeps.same s3) fun _ z => z, by omega, by omega, fun p4 H4 s4 n4 h4 => ⟨p4, _, rfl, .inr (SqL.of h4), ?_⟩⟩
            have s34 := s3.trans s4
            have la := marksM_len ra
            have lb := marksM_len rb
            have eL : natL (marksM ra) ++ (natL (marksM rb) ++ []) = natL (marksM ra ++ marksM rb) := by
              unfold natL
              rw [List.append_nil, List.map_append]
            have lab : (natL (marksM ra) ++ (natL (marksM rb) ++ [])).length ≤ 1000 := by
              rw [eL]
              unfold natL
              rw [List.length_map, List.length_append]
              omega
            refine ⟨Nat.le_trans lab (by decide), fun p5 hp5 => ?_⟩
            have s5 := same_new (o := .lst (natL (marksM ra) ++ (natL (marksM rb) ++ []))) hp5
            have sA := s34.trans s5
            refine ⟨fa, p5, _, _, rfl, rfl, sA _ _ hf, upd_same, ?_, ?_⟩
            · rw [List.length_map]
              exact Nat.le_trans (Nat.add_le_add lm lab) (by decide)
            · refine ⟨_, rfl, st sA, ?_⟩
              rw [upd_same, take_snoc hrow, marksM_snoc, eL]
              show _ = some (HO.lst (natL (marksM (rows.take i) ++ (marksM ra ++ marksM rb))))
              have eM : natL (marksM (rows.take i) ++ (marksM ra ++ marksM rb)) = natL (marksM (rows.take i)) ++ natL (marksM ra ++ marksM rb) := List.map_append ..
              rw [eM]
          · have ek2 := strN e2
            refine ⟨_, rfl, sH, ?_⟩
            rw [take_snoc hrow, marksM_snoc, marks_not ek ek2, List.append_nil]
            exact hf
      · rintro σ H' ⟨v, rfl, sH, hf⟩
        have full : rows.take (rr.map V.ref).length = rows := by
          rw [List.length_map, lr]
          exact List.take_length ..
        rw [full] at hf
        exact ⟨_, rfl, q fa H' sH hfa hf⟩
end
end Pk
namespace Pk
open L2 PyProof.Rows PySem.Spec PySem
/-! ### ways in the heap -/
def WayAt (fr ok : Addr → Prop) (H : Hp) (p : Addr) (x : Way) : Prop := ∃ a refs, ok a ∧ H p = some (.tup [.ref a, .bl x.2]) ∧ H a = some (.lst (refs.map V.ref)) ∧ RowsAt fr H refs x.1
theorem WayAt.same {fr fr' ok ok' : Addr → Prop} {H H' : Hp} {p : Addr} {x : Way} (h : WayAt fr ok H p x) (s : Same H H') (hf : ∀ a, fr a → fr' a) (ho : ∀ a, ok a → ok' a) : WayAt fr' ok' H' p x := by
  obtain ⟨a, refs, h0, h1, h2, h3⟩ := h
  exact ⟨a, refs, ho _ h0, s _ _ h1, s _ _ h2, h3.keep (Keeps.same s) hf⟩
/-- an entry of a list D that is none of theirs -/
theorem WayAt.grow {fr ok : Addr → Prop} {H H' : Hp} {D p : Addr} {l0 : List V} {o : HO} {x : Way} (h : WayAt fr ok H p x) (hD : H D = some (.lst l0)) (s : Same H H') (nf : ¬ fr D) (no : ¬ ok D) : WayAt fr ok (upd H' D o) p x := by
  obtain ⟨a, refs, h0, h1, h2, h3⟩ := h
  refine ⟨a, refs, h0, ?_, ?_, h3.keep ⟨fun b xs e => ?_, fun b xs f e => ?_⟩ fun _ z => z⟩
  · rw [upd_ne (fun z => by rw [z, hD] at h1; cases h1)]
    exact s _ _ h1
  · rw [upd_ne (fun z => no (by rw [← z]; exact h0))]
    exact s _ _ h2
  · rw [upd_ne (fun z => by rw [z, hD] at e; cases e)]
    exact s _ _ e
  · rw [upd_ne (fun z => nf (by rw [← z]; exact f))]
    exact s _ _ e
mutual
theorem row_own {fr : Addr → Prop} {H : Hp} {a : Addr} : ∀ {row : Row}, RowAt fr H a row → RowAt (fun x => fr x ∧ H x ≠ none) H a row
  | _, .set e s => .set e s
  | _, .cut e s => .cut e s
  | _, .join e => .join e
  | _, .shift e s => .shift e s
  | _, .mark e => .mark e
  | _, .quit e => .quit e
  | _, .ifr e p f1 e1 r1 f2 e2 r2 => .ifr e p ⟨f1, by rw [e1]; exact Option.some_ne_none _⟩ e1 (rows_own r1) ⟨f2, by rw [e2]; exact Option.some_ne_none _⟩ e2 (rows_own r2)
theorem rows_own {fr : Addr → Prop} {H : Hp} : ∀ {rr : List Addr} {rows : List Row}, RowsAt fr H rr rows → RowsAt (fun x => fr x ∧ H x ≠ none) H rr rows
  | _, _, .nil => .nil
  | _, _, .cons r rs => .cons (row_own r) (rows_own rs)
end
theorem paired_get {α β : Type} {R : α → β → Prop} : ∀ {xs : List α} {ys : List β} {i : Nat} {a : α}, Paired R xs ys → xs[i]? = some a → ∃ b, ys[i]? = some b ∧ R a b
  | _, _, _, _, .nil, h => by simp at h
  | _, _, 0, _, .cons r _, h => by
    cases h
    exact ⟨_, rfl, r⟩
  | _, _, i + 1, _, .cons _ rs, h => paired_get (i := i) rs h
theorem paired_sz {α β : Type} {R : α → β → Prop} : ∀ {xs : List α} {ys : List β}, Paired R xs ys → xs.length = ys.length
  | _, _, .nil => rfl
  | _, _, .cons _ rs => congrArg Nat.succ (paired_sz rs)
theorem rows_app {fr : Addr → Prop} {H : Hp} : ∀ {r1 r2 : List Addr} {a b : List Row}, RowsAt fr H r1 a → RowsAt fr H r2 b → RowsAt fr H (r1 ++ r2) (a ++ b)
  | _, _, _, _, .nil, h => h
  | _, _, _, _, .cons r rs, h => .cons r (rows_app rs h)
theorem waysFrom_snoc (r : Row) : ∀ (xs : List Row) (ws : List Way), waysFrom (xs ++ [r]) ws = (waysFrom xs ws).flatMap (longerR r)
  | [], ws => by
    rw [List.nil_append]
    unfold waysFrom
    unfold waysFrom
    rfl
  | x :: xs, ws => by
    rw [List.cons_append]
    unfold waysFrom
    exact waysFrom_snoc r xs _
theorem map_snoc {α β : Type} {f : α → β} {l : List α} {i : Nat} {x : α} (h : l[i]? = some x) : (l.take (i + 1)).map f = (l.take i).map f ++ [f x] := by
  rw [take_snoc h, List.map_append]
  rfl
theorem flatMap_snoc {α β : Type} {f : α → List β} {l : List α} {i : Nat} {x : α} (h : l[i]? = some x) : (l.take (i + 1)).flatMap f = (l.take i).flatMap f ++ f x := by
  rw [take_snoc h, List.flatMap_append, List.flatMap_singleton]
def spWays (n : Nat) : Sp := fun vs H Q _ => ∃ (a : Addr) (fr : Addr → Prop) (rr : List Addr) (rows : List Row), vs = [.ref a] ∧ H a = some (.lst (rr.map V.ref)) ∧ RowsAt fr H rr rows ∧ depthM rows < n ∧ sizeM rows ≤ 1000 ∧ countM rows ≤ 7 ∧
  ∀ p ps H', Same H H' → H p = none → H' p = some (.lst (ps.map V.ref)) → Paired (WayAt fr (fun a => H a = none) H') ps (waysM rows) → Q (.ref p) H'
def spLonger (n : Nat) : Sp := fun vs H Q _ => ∃ (t b : Addr) (goes : Bool) (fr : Addr → Prop) (refs : List Addr) (told : List Row) (row : Row), vs = [.ref t, .bl goes, .ref b] ∧ H t = some (.lst (refs.map V.ref)) ∧ RowsAt fr H refs told ∧ RowAt fr H b row ∧ depthR row ≤ n ∧ sizeR row ≤ 1000 ∧ countR row ≤ 7 ∧ told.length ≤ 2000 ∧
  ∀ p ps H', Same H H' → H p = none → H' p = some (.lst (ps.map V.ref)) → Paired (WayAt fr (fun a => H a = none ∨ a = t) H') ps (longerR row (told, goes)) → Q (.ref p) H'
theorem longer_plain {row : Row} {told : List Row} (h : ¬ kindR row = "if") : longerR row (told, true) = [(told ++ [row], !isQuit row)] := by
  cases row with
  | ifr l ps a b => exact absurd rfl h
  | _ => rfl
theorem longer_no {row : Row} {told : List Row} : longerR row (told, false) = [(told, false)] := by
  cases row <;> rfl
theorem quit_kind (row : Row) : (!decide (V.str (kindR row) = V.str "quit")) = !isQuit row := by
  cases row with
  | quit l => rfl
  | _ =>
    rw [decide_eq_false]
    · rfl
    · intro e
      cases e
theorem ways_few {rows : List Row} (h : countM rows ≤ 7) : (waysM rows).length ≤ 128 := by
  have a := ways_len rows [([], true)]
  rw [List.length_singleton, Nat.one_mul] at a
  exact Nat.le_trans a (Nat.pow_le_pow_right (by decide) h)
section
variable {K : PySem.W.Frag} {P : Program} {w : World} {base : Heap} {mg : Str → Option Value}
theorem sc_longer_ways : FnScope ["told", "goes_on", "row", "more", "still"] ["told", "goes_on", "row"] (defScope sLonger) := ⟨rfl, rfl, rfl, by decide +kernel, rfl, by decide +kernel, by decide +kernel⟩
theorem ok_longer_ways {f fW : Addr} {fd fdW : FuncData} (n : Nat) (F : FunD K "longer_ways" "longer_ways" (defArgs sLonger) (defBody sLonger) (defScope sLonger) [] [] f fd) (FW : FunD K "ways_of" "ways_of" (defArgs sWays) (defBody sWays) (defScope sWays) [] [] fW fdW)
    (GW : FnOk P w K mg base CX0 (2 * n + 1) fW fdW ["rows"] (spWays n)) (gW : mg "ways_of" = some (.ref fW)) : FnOk P w K mg base CX0 ((2 * n + 1) + 1) f fd ["told", "goes_on", "row"] (spLonger n) := by
  have bW : Binds K fdW ["rows"] [] := FW.bindsN fun _ _ _ _ _ _ us hl => match us, hl with | [_], _ => rfl
  refine F.ok sc_longer_ways (fun vs H Q E h => ?_) (fun cdv A outer s H vs Q E hr h => ?_)
  · obtain ⟨t, b, goes, fr, refs, told, row, rfl, _⟩ := h
    rfl
  · obtain ⟨t, b, goes, fr, refs, told, row, rfl, ht, hT, hb, hd, hs, hc, hl, q⟩ := h
    refine ⟨_, PSs.nox (pss_cons (by exact (ps_if (pt_not (pt_val (pv 1))) (pss_one (by exact (ps_ret (pe_lst (pa_cons (pe_tup (pa_cons (pv 0) (pa_cons pe_bl pa_nil))) pa_nil))))) pss_nil)) (pss_cons (by exact (ps_if (pt_cmpR op_eq (pe_ix (ix_tupK K rfl) (pv 2) pe_int (fun _ _ => rfl)) pe_str (nomark _)) (pss_one (by exact (ps_ret (pe_lc (own := [("more", 3), ("still", 4)]) (tt := tYes) rfl sc_longer_ways.nd (pi_list (pe_lst (StX.pa_starK K rfl (pe_call GW hr rfl gW FW.kp bW .nil pass0 (pa_cons (pe_ix (ix_tupK K rfl) (pv 2) pe_int (fun _ _ => rfl)) pa_nil)) (StX.pa_starK K rfl (pe_call GW hr rfl gW FW.kp bW .nil pass0 (pa_cons (pe_ix (ix_tupK K rfl) (pv 2) pe_int (fun _ _ => rfl)) pa_nil)) pa_nil)))) (blkOk_by (N := ["told", "goes_on", "row", "more", "still"]) (sc := defScope sLonger) (by decide +kernel)) (fun _ _ _ _ _ => pg_tupK (n := 2) K rfl rfl (pgs_cons (pg_name (i := 3) sc_longer_ways.nd rfl (Or.inl rfl)) (pgs_cons (pg_name (i := 4) sc_longer_ways.nd rfl (Or.inl rfl)) pgs_nil))) (fun _ _ _ _ _ => pts_nil) (fun _ _ _ _ _ => (pe_tup (pa_cons (pe_lst (StX.pa_starK K rfl (pv 0) (pa_cons (pv 2) (StX.pa_starK K rfl (pv 3) pa_nil)))) (pa_cons (pv 4) pa_nil)))))))) pss_nil)) (pss_one (by exact (ps_ret (pe_lst (pa_cons (pe_tup (pa_cons (pe_lst (StX.pa_starK K rfl (pv 0) (pa_cons (pv 2) pa_nil))) (pa_cons (pe_cmpR op_ne (pe_ix (ix_tupK K rfl) (pv 2) pe_int (fun _ _ => rfl)) pe_str (nomark _)) pa_nil))) pa_nil))))))), ?_⟩
    refine ⟨_, rfl, goes, rfl, ?_⟩
    cases goes with
    | false =>
      refine ⟨_, rfl, by show 2 ≤ sizeLine; decide, fun p1 hp1 => ⟨by show 1 ≤ sizeLine; decide, fun p2 hp2 => ?_⟩⟩
      have s1 := same_new (o := .tup [.ref t, .bl false]) hp1
      have s2 := s1.step (o := .lst [.ref p1]) hp2
      refine q p2 [p1] _ s2 (s1.back hp2) upd_same ?_
      rw [longer_no]
      exact .cons ⟨t, refs, .inr rfl, same_new hp2 _ _ upd_same, s2 _ _ ht, hT.keep (Keeps.same s2) fun _ z => z⟩ .nil
    | true =>
      obtain ⟨xs, h1, h2, h3⟩ := row_at hb
      refine ⟨_, rfl, b, xs, 0, .str (kindR row), rfl, rfl, SqT.of h1, h2, rfl, _, rfl, ite2 (fun e => ?_) fun e => ?_⟩
      · have ek := strE e
        obtain ⟨l2, ps, ra, rb, rfl⟩ := kind_if ek
        obtain ⟨p, r1, r2, rr1, rr2, I⟩ := row_if (row_own hb)
        have d1 : 1 + max (depthM ra) (depthM rb) ≤ n := hd
        have s1 : 1 + sizeM ra + sizeM rb ≤ 1000 := hs
        have c1 : 1 + countM ra + countM rb ≤ 7 := hc
        refine ⟨_, rfl, b, _, 3, .ref r1, rfl, rfl, SqT.of I.h, rfl, r1, _, rr1, ra, rfl, I.ha, I.ra, by omega, by omega, by omega, fun p3 ws3 H3 s3 n3 h3 w3 => ⟨p3, _, rfl, .inr (SqL.of h3), ?_⟩⟩
        refine ⟨_, rfl, b, _, 4, .ref r2, rfl, rfl, SqT.of (s3 _ _ I.h), rfl, r2, _, rr2, rb, rfl, s3 _ _ I.hb, I.rb.keep (Keeps.same s3) fun _ z => z, by omega, by omega, by omega, fun p4 ws4 H4 s4 n4 h4 w4 => ⟨p4, _, rfl, .inr (SqL.of h4), ?_⟩⟩
        have lw3 := ways_few (rows := ra) (by omega)
        have lw4 := ways_few (rows := rb) (by omega)
        have pw := paired_app (Paired.mapP w3 fun _ _ e => e.same (ok' := fun _ => True) s4 (fun _ z => z) fun _ _ => trivial) (Paired.mapP w4 fun _ _ e => e.same (ok' := fun _ => True) (Same.refl _) (fun _ z => z) fun _ _ => trivial)
        have lp := paired_sz pw
        rw [List.length_append, List.length_append] at lp
        have s34 := s3.trans s4
        have eL : ws3.map V.ref ++ (ws4.map V.ref ++ []) = (ws3 ++ ws4).map V.ref := by
          rw [List.append_nil, List.map_append]
        refine ⟨?_, fun l hl1 => ⟨l, rfl, ⟨_, SqL.of upd_same⟩, fun D hD => ?_⟩⟩
        rotate_left
        rw [eL] at hD
        rw [eL]
        have nDH : H D = none := s34.back ((same_new hl1).back hD)
        refine lc_list (K := K) (a := l) (xs := (ws3 ++ ws4).map V.ref) (fun i H' => ∃ out, Same (upd H4 l (.lst ((ws3 ++ ws4).map V.ref))) H' ∧ H' D = some (.lst (out.map V.ref)) ∧ out.length ≤ i ∧ Paired (WayAt (fun x => fr x ∧ H x ≠ none) (fun a => (H a = none ∨ a = t) ∧ a ≠ D) H') out (((waysM ra ++ waysM rb).take i).map fun w => (told ++ (.ifr l2 ps ra rb) :: w.1, w.2))) ?_ (fun i H' _ h => ?_) ?_ ?_
        rotate_right
        · rw [List.append_nil, List.length_append, List.length_map, List.length_map, lp]
          exact Nat.le_trans (Nat.add_le_add lw3 lw4) (by decide)
        · exact ⟨[], same_new hD, upd_same, Nat.le_refl _, .nil⟩
        · obtain ⟨out, sm, _⟩ := h
          exact SqL.of (sm _ _ upd_same)
        · rintro i x H' hi ⟨out, sm, hD1, lo, pr⟩
          have s5 := same_new (o := .lst ((ws3 ++ ws4).map V.ref)) hl1
          have sA := (s34.trans s5).trans sm
          obtain ⟨r, hr1, rfl⟩ := ref_item hi
          obtain ⟨y, hy, a3, refs3, _, g1, g2, g3⟩ := paired_get pw hr1
          have s6 := s5.trans sm
          have lT := rows_len hT
          have l3 := rows_len g3
          have ly : y.1.length ≤ 1000 := by
            have := List.mem_of_getElem? hy
            rcases List.mem_append.mp this with m | m
            · have := ways_told ra [([], true)] 0 (fun w hw => by rw [List.mem_singleton.mp hw]; exact Nat.le_refl _) y m
              omega
            · have := ways_told rb [([], true)] 0 (fun w hw => by rw [List.mem_singleton.mp hw]; exact Nat.le_refl _) y m
              omega
          refine ⟨r, _, rfl, SqT.of (s6 _ _ g1), rfl, _, _, rfl, _, _, rfl, rfl, rfl, ?_⟩
          refine ⟨_, rfl, t, _, rfl, .inr (SqL.of (sA _ _ ht)), _, rfl, _, rfl, a3, _, rfl, .inr (SqL.of (s6 _ _ g2)), ?_, fun p5 hp5 => ⟨_, rfl, by show 2 ≤ sizeLine; decide, fun p6 hp6 => ?_⟩⟩
          · rw [List.append_nil, List.length_append, List.length_cons, List.length_map, List.length_map, lT, l3]
            exact Nat.le_trans (Nat.add_le_add hl (Nat.succ_le_succ ly)) (by decide)
          · have s7 := same_new (o := .lst (refs.map V.ref ++ V.ref b :: (refs3.map V.ref ++ []))) hp5
            have s8 := s7.step (o := .tup [.ref p5, .bl y.2]) hp6
            have nD : ∀ {u o}, (upd H4 l (.lst ((ws3 ++ ws4).map V.ref))) u = some o → u ≠ D := fun e z => by
              rw [z, hD] at e
              cases e
            have sD : ∀ {acc}, Same (upd H4 l (.lst ((ws3 ++ ws4).map V.ref))) (upd (upd (upd H' p5 (.lst (refs.map V.ref ++ V.ref b :: (refs3.map V.ref ++ [])))) p6 (.tup [.ref p5, .bl y.2])) D (.lst acc)) := fun u o e => by
              rw [upd_ne (nD e)]
              exact s8 _ _ (sm _ _ e)
            have li : i < (ws3 ++ ws4).length := by
              have := List.getElem?_eq_some_iff.mp hr1
              exact this.1
            rw [List.length_append] at li
            refine ⟨_, s8 _ _ hD1, ?_, out ++ [p6], sD, ?_, ?_, ?_⟩
            · rw [List.length_map]
              exact Nat.lt_of_le_of_lt (m := 256) (by omega) (by decide)
            · rw [upd_same, List.map_append]
              rfl
            · rw [(List.length_append), List.length_singleton]
              omega
            · rw [map_snoc hy]
              have n5 : p5 ≠ D := fun z => by rw [z, hD1] at hp5; cases hp5
              have n6 : p6 ≠ D := fun z => by rw [z, same_new hp5 _ _ hD1] at hp6; cases hp6
              have hT1 := hT.keep (Keeps.same sA) fun _ z => z
              refine paired_app (Paired.mapP pr fun _ _ e => e.grow hD1 s8 (fun z => z.2 nDH) fun z => z.2 rfl) (.cons (WayAt.grow ⟨p5, refs ++ b :: refs3, ⟨.inl (sA.back hp5), n5⟩, upd_same, same_new hp6 _ _ ?_, ?_⟩ (s8 _ _ hD1) (Same.refl _) (fun z => z.2 nDH) fun z => z.2 rfl) .nil)
              · rw [List.append_nil, List.map_append]
                exact upd_same
              · refine rows_app ((rows_own hT).keep (Keeps.same (sA.trans s8)) fun _ z => z) (.cons ((row_own hb).keep (Keeps.same (sA.trans s8)) fun _ z => z) (g3.keep (Keeps.same (s6.trans s8)) fun _ z => z))
        · rintro H' ⟨out, sm, hD1, lo, pr⟩
          have full : (waysM ra ++ waysM rb).take ((ws3 ++ ws4).map V.ref).length = waysM ra ++ waysM rb := by
            rw [List.length_map, List.length_append, lp, ← List.length_append]
            exact List.take_length ..
          rw [full] at pr
          have s5 := (s34.trans (same_new hl1)).trans sm
          exact q D out H' s5 (s34.back ((same_new hl1).back hD)) hD1 (Paired.mapP pr fun _ _ e => e.same (Same.refl _) (fun _ z => z.1) fun _ z => z.1)
      · have ek := strN e
        have lT := rows_len hT
        refine ⟨_, rfl, t, _, rfl, .inr (SqL.of ht), _, rfl, by
          show (refs.map V.ref ++ [V.ref b]).length ≤ sizeLine
          rw [List.length_append, List.length_map, lT]
          exact Nat.le_trans (Nat.add_le_add_right hl 1) (by decide), fun p1 hp1 => ?_⟩
        have s1 := same_new (o := .lst (refs.map V.ref ++ [V.ref b])) hp1
        refine ⟨_, rfl, b, xs, 0, .str (kindR row), rfl, rfl, SqT.of (s1 _ _ h1), h2, rfl, by show 2 ≤ sizeLine; decide, fun p2 hp2 => ⟨by show 1 ≤ sizeLine; decide, fun p3 hp3 => ?_⟩⟩
        have s2 := s1.step (o := .tup [.ref p1, .bl (!decide (V.str (kindR row) = V.str "quit"))]) hp2
        have s3 := s2.step (o := .lst [.ref p2]) hp3
        refine q p3 [p2] _ s3 (s2.back hp3) upd_same ?_
        rw [longer_plain ek]
        refine .cons ⟨p1, refs ++ [b], .inl hp1, ?_, ?_, RowsAt.snoc (hb.keep (Keeps.same s3) fun _ z => z) (hT.keep (Keeps.same s3) fun _ z => z)⟩ .nil
        · show _ = some (HO.tup [.ref p1, .bl !isQuit row])
          rw [← quit_kind]
          exact same_new hp3 _ _ upd_same
        · rw [List.map_append]
          exact same_new hp3 _ _ (same_new hp2 _ _ upd_same)
end
end Pk
namespace Pk
open L2 PyProof.Rows PySem.Spec PySem
theorem count_mem {row : Row} : ∀ {rows : List Row}, row ∈ rows → countR row ≤ countM rows
  | r :: rs, h => by
    show countR row ≤ countR r + countM rs
    rcases (List.mem_cons.mp h) with e | e
    · rw [e]
      omega
    · have := count_mem e
      omega
theorem count_take : ∀ (rows : List Row) (i : Nat), countM (rows.take i) ≤ countM rows
  | [], i => by rw [List.take_nil]; exact Nat.le_refl _
  | r :: rs, 0 => Nat.zero_le _
  | r :: rs, i + 1 => by
    have := count_take rs i
    show countR r + countM (rs.take i) ≤ countR r + countM rs
    omega
section
variable {K : PySem.W.Frag} {P : Program} {w : World} {base : Heap} {mg : Str → Option Value}
theorem sc_ways_of : FnScope ["rows", "found", "row", "told", "goes_on", "way"] ["rows"] (defScope sWays) := ⟨rfl, rfl, rfl, by decide +kernel, rfl, by decide +kernel, by decide +kernel⟩
theorem ok_ways_of {f fL : Addr} {fd fdL : FuncData} (F : FunD K "ways_of" "ways_of" (defArgs sWays) (defBody sWays) (defScope sWays) [] [] f fd) (FL : FunD K "longer_ways" "longer_ways" (defArgs sLonger) (defBody sLonger) (defScope sLonger) [] [] fL fdL)
    (gL : mg "longer_ways" = some (.ref fL)) (gW : mg "ways_of" = some (.ref f)) : ∀ n, FnOk P w K mg base CX0 (2 * n + 1) f fd ["rows"] (spWays n)
  | 0 => by
    refine F.ok sc_ways_of (fun vs H Q E h => ?_) (fun cdv A outer s H vs Q E hr h => ?_)
    · obtain ⟨a, fr, rr, rows, rfl, _⟩ := h
      rfl
    · obtain ⟨a, fr, rr, rows, rfl, _, _, hn, _⟩ := h
      exact absurd hn (Nat.not_lt_zero _)
  | n + 1 => by
    have GL := ok_longer_ways n FL F (ok_ways_of F FL gL gW n) gW
    have bL : Binds K fdL ["told", "goes_on", "row"] [] := FL.bindsN fun _ _ _ _ _ _ us hl => match us, hl with | [_, _, _], _ => rfl
    refine F.ok sc_ways_of (fun vs H Q E h => ?_) (fun cdv A outer s H vs Q E hr h => ?_)
    · obtain ⟨a, fr, rr, rows, rfl, _⟩ := h
      rfl
    · obtain ⟨a, fr, rr, rows, rfl, ha, hrr, hn, hs, hc, q⟩ := h
      have lr := rows_len hrr
      refine ⟨_, PSs.nox (pss_cons (by exact (ps_set (i := 1) sc_ways_of.nd rfl (Or.inl rfl) (pe_lst (pa_cons (pe_tup (pa_cons (pe_lst pa_nil) (pa_cons pe_bl pa_nil))) pa_nil)))) (pss_cons (by exact (ps_for PassesOwn.never rfl (pi_list (pv 0)) (pg_name (i := 2) sc_ways_of.nd rfl (Or.inr rfl)) (pss_one (by exact (ps_setLc2 (i := 1) (own := [("told", 3), ("goes_on", 4), ("way", 5)]) (vs1 := [5]) (g1 := gName 5) (tt := tYes) (tt1 := tYes) rfl sc_ways_of.nd rfl rfl (sw_true rfl rfl rfl (by decide +kernel)) (pi_list (pv 1)) (blkOk_by (N := ["rows", "found", "row", "told", "goes_on", "way"]) (sc := defScope sWays) (by decide +kernel)) (by decide) (fun _ _ _ _ _ => pg_tupK (n := 2) K rfl rfl (pgs_cons (pg_name (i := 3) sc_ways_of.nd rfl (Or.inl rfl)) (pgs_cons (pg_name (i := 4) sc_ways_of.nd rfl (Or.inl rfl)) pgs_nil))) (fun _ _ _ _ _ => pts_nil) (fun _ _ _ _ _ => (pi_listK K rfl (pe_call GL hr rfl gL FL.kp bL .nil pass0 (pa_cons (pv 3) (pa_cons (pv 4) (pa_cons (pv 2) pa_nil)))))) (fun _ _ _ _ _ => pg_name (i := 5) sc_ways_of.nd rfl (Or.inl rfl)) (fun _ _ _ _ _ => pts_nil) (fun _ _ _ _ _ => (pv 5))))))) (pss_one (by exact (ps_ret (pv 1)))))), ?_⟩
      refine ⟨by show 0 ≤ sizeLine; decide, fun p0 hp0 => ⟨by show 2 ≤ sizeLine; decide, fun p1 hp1 => ⟨by show 1 ≤ sizeLine; decide, fun p2 hp2 => ?_⟩⟩⟩
      have T0 := same_new (o := .lst []) hp0
      have T1 := T0.step (o := .tup [.ref p0, .bl true]) hp1
      have T2 := T1.step (o := .lst [.ref p1]) hp2
      have nF : H p2 = none := T1.back hp2
      refine ⟨_, rfl, a, rfl, ⟨_, SqL.of (T2 _ _ ha)⟩, for_list (K := K) (a := a) (xs := rr.map V.ref) (fun i σ H' => ∃ (v : Option V) (p : Addr) (ps : List Addr), σ = [some (.ref a), some (.ref p), v, none, none, none] ∧ Same H H' ∧ H p = none ∧ H' p = some (.lst (ps.map V.ref)) ∧ Paired (WayAt (fun x => fr x ∧ H x ≠ none) (fun a => H a = none) H') ps (waysM (rows.take i))) ?_ (fun i σ H' _ ⟨v, p, ps, e, s, _⟩ => SqL.of (s _ _ ha)) ?_ ?_⟩
      · refine ⟨none, p2, [p1], rfl, T2, nF, upd_same, .cons ⟨p0, [], hp0, ?_, ?_, .nil⟩ .nil⟩
        · exact same_new hp2 _ _ upd_same
        · exact same_new hp2 _ _ (same_new hp1 _ _ upd_same)
      · rintro i x σ H' hi ⟨v, p, ps, rfl, sH, np, hp, pw⟩
        obtain ⟨b, row, rfl, hrow, hb⟩ := ref_get hrr hi
        have mem := List.mem_of_getElem? hrow
        have hd := depth_mem mem
        have hz := size_mem mem
        have hci := Nat.le_trans (count_take rows i) hc
        have hcr := Nat.le_trans (count_mem mem) hc
        have hzi : sizeM (rows.take i) ≤ 1000 := Nat.le_trans (size_take rows i) hs
        have lw := ways_few hci
        have lp := paired_sz pw
        have hb1 := row_own hb
        refine ⟨_, rfl, p, rfl, ⟨_, SqL.of hp⟩, fun D hD => turns_list (K := K) (a := p) (xs := ps.map V.ref) (fun i2 H2 => ∃ out, Same H' H2 ∧ H2 D = some (.lst (out.map V.ref)) ∧ Paired (WayAt (fun x => fr x ∧ H x ≠ none) (fun a => H a = none ∧ a ≠ D) H2) out (((waysM (rows.take i)).take i2).flatMap (longerR row))) ?_ (fun i2 H2 _ h => ?_) ?_ ?_⟩
        · exact ⟨[], same_new hD, upd_same, .nil⟩
        · obtain ⟨out, sm, _⟩ := h
          exact SqL.of (sm _ _ hp)
        · rintro i2 x H2 hi2 ⟨out, sm, hD1, pr⟩
          obtain ⟨r, hr1, rfl⟩ := ref_item hi2
          obtain ⟨y, hy, a3, refs3, g0, g1, g2, g3⟩ := paired_get pw hr1
          have sA := sH.trans sm
          have nD : H D = none := sH.back hD
          have l3 := rows_len g3
          have ly : y.1.length ≤ 1000 := by
            have := ways_told (rows.take i) [([], true)] 0 (fun w hw => by rw [List.mem_singleton.mp hw]; exact Nat.le_refl _) y (List.mem_of_getElem? hy)
            omega
          refine ⟨r, _, rfl, SqT.of (sm _ _ g1), rfl, _, _, rfl, _, _, rfl, rfl, rfl, ?_⟩
          refine ⟨_, rfl, _, rfl, _, rfl, a3, b, y.2, _, refs3, y.1, row, rfl, sm _ _ g2, g3.keep (Keeps.same sm) fun _ z => z, hb1.keep (Keeps.same sA) fun _ z => z, by omega, by omega, hcr, by omega, fun p5 ps5 H5 s5 n5 h5 w5 => ?_⟩
          have d5 := s5 _ _ hD1
          have a3D : a3 ≠ D := fun z => by rw [z, hD] at g2; cases g2
          have w6 : Paired (WayAt (fun x => fr x ∧ H x ≠ none) (fun a => H a = none ∧ a ≠ D) H5) ps5 (longerR row y) := Paired.mapP w5 fun _ _ e => e.same (Same.refl _) (fun _ z => z) fun a z => by
            rcases z with z | z
            · exact ⟨sA.back z, fun e => by rw [e, hD1] at z; cases z⟩
            · rw [z]
              exact ⟨g0, a3D⟩
          have p5D : p5 ≠ D := fun z => by rw [z, hD1] at n5; cases n5
          have lp5 : ps5.length = (longerR row y).length := paired_sz w5
          have lo := paired_sz pr
          have l5 : (longerR row y).length ≤ 128 := Nat.le_trans (longer_len row y) (Nat.pow_le_pow_right (by decide) hcr)
          have lf : (((waysM (rows.take i)).take i2).flatMap (longerR row)).length ≤ 128 * 128 := by
            refine Nat.le_trans (flatMap_le (longerR row) 128 _ fun z _ => Nat.le_trans (longer_len row z) (Nat.pow_le_pow_right (by decide) hcr)) ?_
            refine Nat.mul_le_mul_right _ (Nat.le_trans (List.length_take_le' _ _) lw)
          refine ⟨p5, rfl, ⟨_, SqL.of h5⟩, turns_list (K := K) (a := p5) (xs := ps5.map V.ref) (fun i3 H6 => Same H' H6 ∧ H6 p5 = some (.lst (ps5.map V.ref)) ∧ H6 D = some (.lst ((out ++ ps5.take i3).map V.ref)) ∧ Paired (WayAt (fun x => fr x ∧ H x ≠ none) (fun a => H a = none ∧ a ≠ D) H6) out (((waysM (rows.take i)).take i2).flatMap (longerR row)) ∧ Paired (WayAt (fun x => fr x ∧ H x ≠ none) (fun a => H a = none ∧ a ≠ D) H6) ps5 (longerR row y)) ?_ (fun i3 H6 _ h => SqL.of h.2.1) ?_ ?_⟩
          · refine ⟨sm.trans s5, h5, ?_, Paired.mapP pr fun _ _ e => e.same s5 (fun _ z => z) fun _ z => z, w6⟩
            rw [List.take_zero, List.append_nil]
            exact d5
          · rintro i3 x H6 hi3 ⟨sm6, h6, d6, o6, n6⟩
            obtain ⟨r3, hr3, rfl⟩ := ref_item hi3
            refine ⟨rfl, ?_⟩
            refine ⟨_, rfl, _, d6, ?_, ?_, ?_, ?_, ?_, ?_⟩
            · rw [List.length_map, List.length_append]
              have := List.length_take_le' i3 ps5
              exact Nat.lt_of_le_of_lt (m := 128 * 128 + 128) (by omega) (by decide)
            · exact fun u o e => by
                rw [upd_ne (fun z => by rw [z, hD] at e; cases e)]
                exact sm6 _ _ e
            · rw [upd_ne p5D]
              exact h6
            · rw [upd_same, take_snoc hr3, ← List.append_assoc, List.map_append (l₁ := out ++ ps5.take i3)]
              rfl
            · exact Paired.mapP o6 fun _ _ e => e.grow d6 (Same.refl _) (fun z => z.2 nD) fun z => z.2 rfl
            · exact Paired.mapP n6 fun _ _ e => e.grow d6 (Same.refl _) (fun z => z.2 nD) fun z => z.2 rfl
          · rintro H6 ⟨sm6, h6, d6, o6, n6⟩
            have f5 : ps5.take (ps5.map V.ref).length = ps5 := by
              rw [List.length_map]
              exact List.take_length ..
            rw [f5] at d6
            refine ⟨out ++ ps5, sm6, d6, ?_⟩
            rw [flatMap_snoc hy]
            exact paired_app o6 n6
        · rintro H2 ⟨out, sm, hD1, pr⟩
          have full : (waysM (rows.take i)).take (ps.map V.ref).length = waysM (rows.take i) := by
            rw [List.length_map, lp]
            exact List.take_length ..
          rw [full] at pr
          refine ⟨_, D, out, rfl, sH.trans sm, sH.back hD, hD1, ?_⟩
          have e : waysM (rows.take (i + 1)) = (waysM (rows.take i)).flatMap (longerR row) := by
            rw [take_snoc hrow]
            exact waysFrom_snoc row _ _
          rw [e]
          exact Paired.mapP pr fun _ _ e => e.same (Same.refl _) (fun _ z => z) fun _ z => z.1
      · rintro σ H' ⟨v, p, ps, rfl, sH, np, hp, pw⟩
        have full : rows.take (rr.map V.ref).length = rows := by
          rw [List.length_map, lr]
          exact List.take_length ..
        rw [full] at pw
        exact ⟨_, rfl, q p ps H' sH np hp (Paired.mapP pw fun _ _ e => e.same (Same.refl _) (fun _ z => z.1) fun _ z => z)⟩
end
end Pk
namespace Pk
open L2 PyProof.Rows PySem.Spec PySem
abbrev sRI : Stmt := inClass (top 49) 0
def STYL : List Str := ["taken", "copied"]
def styV : V → Option Str
  | .str s => if s ∈ STYL then some s else none
  | _ => none
def rulesF (os cs ls : Addr) (sty cap low root : V) : List (Str × V) := [("own_shares", .ref os), ("cap_share", .ref cs), ("low_share", .ref ls), ("style", sty), ("cap", cap), ("low", low), ("root", root)]
structure RulesC (K : PySem.W.Frag) (mg : Str → Option Value) (C fI : Addr) : Prop where
  cls : Cls K C
  made : Mk K C fI
  g : mg "Rules" = some (.ref C)
  no : ∀ f ∈ (["own_shares", "cap_share", "low_share", "style", "cap", "low", "root"] : List Str), NoAttr K C f
abbrev Share := List Term × Option Nat
def RulesAt (C : Addr) (H : Hp) (r : Addr) (sty : Str) (cap low root : V) (x1 x2 : Share) : Prop := ∃ dx os p1 p2 cs ls, H r = some (.ins C dx (rulesF os cs ls (.str sty) cap low root)) ∧ shareV cap = some x1 ∧ shareV low = some x2 ∧
  H os = some (.tup [.ref p1, .ref p2]) ∧ ShareAt H p1 x1 ∧ ShareAt H p2 x2 ∧ LineAt H cs (lineM x1) ∧ LineAt H ls (lineM x2)
theorem RulesAt.same {C : Addr} {H H' : Hp} {r : Addr} {sty : Str} {cap low root : V} {x1 x2 : Share} (h : RulesAt C H r sty cap low root x1 x2) (s : Same H H') : RulesAt C H' r sty cap low root x1 x2 := by
  obtain ⟨dx, os, p1, p2, cs, ls, h1, h2, h3, h4, h5, h6, h7, h8⟩ := h
  exact ⟨dx, os, p1, p2, cs, ls, s _ _ h1, h2, h3, s _ _ h4, h5.same s, h6.same s, s _ _ h7, s _ _ h8⟩
def spInit (K : PySem.W.Frag) (C : Addr) : Sp := fun vs H Q E => ∃ (r dx : Addr) (a b c d : V) (ta tb tc : Value), vs = [.ref r, a, b, c, d] ∧ H r = some (.ins C dx []) ∧ Kd K H a ta ∧ Kd K H b tb ∧ Kd K H c tc ∧ okLen b = true ∧ okLen c = true ∧
  (styV a = none → Err1 K "BadStyle" "style" a H E) ∧ ∀ sty, styV a = some sty → (shareV b = none → Err1 K "BadSum" "text" b H E) ∧ ∀ x1, shareV b = some x1 → (shareV c = none → Err1 K "BadSum" "text" c H E) ∧ ∀ x2, shareV c = some x2 → ∀ H', KeepB r H H' → RulesAt C H' r sty b c d x1 x2 → Q .non H'
theorem Err1.weak {K : PySem.W.Frag} {x f : Str} {v : V} {H H' : Hp} {E : XK} (h : Err1 K x f v H E) (s : Same H H') : Err1 K x f v H' E := fun d H1 s1 n => h d H1 (s.trans s1) n
/-- tuples stand -/
def TK (H H' : Hp) : Prop := ∀ a xs, H a = some (.tup xs) → H' a = some (.tup xs)
theorem TK.trans {H H1 H2 : Hp} (x : TK H H1) (y : TK H1 H2) : TK H H2 := fun a xs e => y a xs (x a xs e)
theorem _root_.L2.Same.tk {H H' : Hp} (s : Same H H') : TK H H' := fun a xs e => s _ _ e
theorem TK.ins {H : Hp} {r C dx : Addr} {fs : List (Str × V)} {o : HO} (h : H r = some (.ins C dx fs)) : TK H (upd H r o) := fun a xs e => by
  rw [upd_ne (ne_of e h (by intro z; cases z))]
  exact e
theorem ShareAt.tk {H H' : Hp} {p : Addr} {x : List Term × Option Nat} (h : ShareAt H p x) (s : TK H H') : ShareAt H' p x := by
  obtain ⟨q, refs, h1, h2, h3⟩ := h
  exact ⟨q, refs, s _ _ h1, s _ _ h2, L2.Paired.mapP h3 fun _ _ e => s _ _ e⟩
theorem shareV_len {v : V} {x : Share} (h : shareV v = some x) : x.1.length ≤ 4 := by
  obtain ⟨ts, m⟩ := x
  cases v with
  | str s =>
    have e : shareM s = some (ts, m) := h
    unfold shareM at e
    split at e
    · cases e
    · rename_i us n d
      split at e
      · cases e
        exact divM_len d
      · cases e
  | _ => cases h
section
variable {K : PySem.W.Frag} {P : Program} {w : World} {base : Heap} {mg : Str → Option Value}
theorem sc_Rules___init__ : FnScope ["self", "style", "cap", "low", "root"] ["self", "style", "cap", "low", "root"] (defScope sRI) := ⟨rfl, rfl, rfl, by decide +kernel, rfl, by decide +kernel, by decide +kernel⟩
theorem ok_Rules_init {C f fS fL : Addr} {fd fdS fdL : FuncData} {dv : List V} (F : FunD K "__init__" "Rules.__init__" (defArgs sRI) (defBody sRI) (defScope sRI) dv [] f fd) (RC : RulesC K mg C f)
    (FS : FunD K "read_share" "read_share" (defArgs sShare) (defBody sShare) (defScope sShare) [] [] fS fdS) (FL : FunD K "line_of" "line_of" (defArgs sLine) (defBody sLine) (defScope sLine) [] [] fL fdL)
    (GS : FnOk P w K mg base (L2.CX P w) 5 fS fdS ["text"] (spShare K)) (GL : FnOk P w K mg base CX0 1 fL fdL ["share"] spLine) (gRS : mg "read_share" = some (.ref fS)) (gL : mg "line_of" = some (.ref fL)) (ER : Errs P K mg) (mIsi : mg "isinstance" = none) (mStr : mg "str" = none)
    {aS : Addr} (gS : ∃ u, mg "STYLES" = some u ∧ RelV (.ref aS) u) (tS : ∀ H, SqT K H aS (STYL.map V.str)) : FnOk P w K mg base (L2.CX P w) 6 f fd ["self", "style", "cap", "low", "root"] (spInit K C) := by
  have bS : Binds K fdS ["text"] [] := FS.bindsN fun _ _ _ _ _ _ us hl => match us, hl with | [_], _ => rfl
  have bL : Binds K fdL ["share"] [] := FL.bindsN fun _ _ _ _ _ _ us hl => match us, hl with | [_], _ => rfl
  refine F.ok sc_Rules___init__ (fun vs H Q E h => ?_) (fun cdv A outer s H vs Q E hr h => ?_)
  · obtain ⟨r, dx, a, b, c, d, ta, tb, tc, rfl, _⟩ := h
    rfl
  · obtain ⟨r, dx, a, b, c, d, ta, tb, tc, rfl, hR, ka, kb, kc, lb, lc, q0, q⟩ := h
    obtain ⟨fdI, IBadStyle⟩ := ER.iBadStyle
    refine ⟨_, (pss_cons (by exact (ps_if (PW.pt (pw_or (pt_not (pt_val (pe_callB call_isi (by rfl) mIsi PyProof.Rows.boot_isinstance (pa_cons (pv 1) (pa_cons (pe_bltn (v := .ty "str") (by rfl) mStr (by decide +kernel) rfl) pa_nil))))) (pw_or1 (pt_cmpR (op_notInK K rfl) (pv 1) (C8.pe_gc (v := .ref aS) rfl gS) rfl)))) (pss_one (by exact (ps_raise rfl (takes_of rfl rfl rfl rfl) (pmk_sup1 IBadStyle.sup (okIBadStyle IBadStyle ER.mS ER.hP) (hr.mono (by decide)) (bIBadStyle IBadStyle) pass0 rfl (pv 1))))) pss_nil)) (pss_cons (by exact (ps_fld (pv 0) (pe_tup (pa_cons (pe_callS GS hr rfl gRS FS.kp bS (fun σ => passAt (takes_of rfl rfl rfl rfl) σ) (pa_cons (pv 2) pa_nil)) (pa_cons (pe_callS GS hr rfl gRS FS.kp bS (fun σ => passAt (takes_of rfl rfl rfl rfl) σ) (pa_cons (pv 3) pa_nil)) pa_nil))) rfl)) (pss_cons (by exact (ps_fld (pv 0) (pe_call GL (hr.mono (by decide)) rfl gL FL.kp bL .nil pass0 (pa_cons (pe_ix (ix_tupK K rfl) (pe_fld (pv 0) rfl) pe_int (fun _ _ => rfl)) pa_nil)) rfl)) (pss_cons (by exact (ps_fld (pv 0) (pe_call GL (hr.mono (by decide)) rfl gL FL.kp bL .nil pass0 (pa_cons (pe_ix (ix_tupK K rfl) (pe_fld (pv 0) rfl) pe_int (fun _ _ => rfl)) pa_nil)) rfl)) (pss_cons (by exact (ps_fld (pv 0) (pv 1) rfl)) (pss_cons (by exact (ps_fld (pv 0) (pv 2) rfl)) (pss_cons (by exact (ps_fld (pv 0) (pv 3) rfl)) (pss_one (by exact (ps_fld (pv 0) (pv 4) rfl)))))))))), ?_⟩
    refine ⟨_, rfl, a, _, ta, _, _, rfl, .ty "str", ka.ty, ka.st, _, rfl, ite2 (fun e => ?_) fun e => ?_⟩
    · refine ⟨_, rfl, fun dd hd => q0 ?_ dd H (Same.refl H) hd⟩
      cases a with
      | str z => cases e
      | _ => rfl
    obtain ⟨z, rfl⟩ : ∃ z, a = .str z := by
      cases a with
      | str z => exact ⟨z, rfl⟩
      | _ => exact absurd rfl e
    refine ⟨_, rfl, aS, _, rfl, .inr (tS _), rfl, flat_strs, _, rfl, ite2 (fun e2 => ?_) fun e2 => ?_⟩
    · have m : ¬ z ∈ STYL := fun y => by
        have x : (!inV (V.str z) (STYL.map V.str)) = true := e2
        rw [inV_strs, decide_eq_true y] at x
        cases x
      exact ⟨_, rfl, fun dd hd => q0 (if_neg m) dd H (Same.refl H) hd⟩
    have m : z ∈ STYL := Classical.byContradiction fun y => e2 (show (!inV (V.str z) (STYL.map V.str)) = true by rw [inV_strs, decide_eq_false y]; rfl)
    obtain ⟨q1, q2⟩ := q z (if_pos m)
    refine ⟨_, rfl, b, tb, rfl, kb, lb, q1, fun x1 e3 p1 H1 s1 n1 sa1 => ?_⟩
    obtain ⟨q3, q4⟩ := q2 x1 e3
    refine ⟨_, rfl, c, tc, rfl, kc.mono s1, lc, fun z => (q3 z).weak s1, fun x2 e4 p2 H2 s2 n2 sa2 => ?_⟩
    have fin := q4 x2 e4
    refine ⟨by show 2 ≤ sizeLine; decide, fun os hos => ?_⟩
    have sA := (s1.trans s2).step (o := .tup [.ref p1, .ref p2]) hos
    have sR := sA _ _ hR
    have so : upd H2 os (.tup [.ref p1, .ref p2]) os = some (.tup [.ref p1, .ref p2]) := upd_same
    have sa1' : ShareAt (upd H2 os (.tup [.ref p1, .ref p2])) p1 x1 := (sa1.same s2).same (same_new hos)
    have sa2' : ShareAt (upd H2 os (.tup [.ref p1, .ref p2])) p2 x2 := sa2.same (same_new hos)
    have no := RC.no
    refine ⟨_, rfl, r, C, dx, [], rfl, sR, RC.cls, no _ (by simp), by show 0 < 1000; decide, ?_⟩
    have t1 : TK (upd H2 os (.tup [.ref p1, .ref p2])) _ := TK.ins (o := .ins C dx [("own_shares", .ref os)]) sR
    have w1 : KeepB r H _ := sA.keepB.trans (KeepB.upd (o := .ins C dx [("own_shares", .ref os)]))
    refine ⟨_, rfl, r, C, dx, _, .ref os, rfl, upd_same, RC.cls, no _ (by simp), rfl, os, _, 0, .ref p1, rfl, rfl, SqT.of (t1 _ _ so), rfl, p1, x1, rfl, sa1'.tk t1, shareV_len e3, fun cs H3 s3 n3 l3 => ?_⟩
    have r3 := s3 _ _ (upd_same (a := r) (o := HO.ins C dx [("own_shares", .ref os)]))
    refine ⟨_, rfl, r, C, dx, _, rfl, r3, RC.cls, no _ (by simp), by show 1 < 1000; decide, ?_⟩
    have t3 := (t1.trans s3.tk).trans (TK.ins (o := .ins C dx [("own_shares", .ref os), ("cap_share", .ref cs)]) r3)
    have w3 := (w1.trans s3.keepB).trans (KeepB.upd (o := .ins C dx [("own_shares", .ref os), ("cap_share", .ref cs)]))
    have l3' := (TK.ins (o := .ins C dx [("own_shares", .ref os), ("cap_share", .ref cs)]) r3) _ _ l3
    refine ⟨_, rfl, r, C, dx, _, .ref os, rfl, upd_same, RC.cls, no _ (by simp), rfl, os, _, 1, .ref p2, rfl, rfl, SqT.of (t3 _ _ so), rfl, p2, x2, rfl, sa2'.tk t3, shareV_len e4, fun ls H5 s5 n5 l5 => ?_⟩
    have r5 := s5 _ _ (upd_same (a := r) (o := HO.ins C dx [("own_shares", .ref os), ("cap_share", .ref cs)]))
    refine ⟨_, rfl, r, C, dx, _, rfl, r5, RC.cls, no _ (by simp), by show 2 < 1000; decide, ?_⟩
    refine ⟨_, rfl, _, rfl, r, C, dx, _, rfl, upd_same, RC.cls, no _ (by simp), by show 3 < 1000; decide, ?_⟩
    refine ⟨_, rfl, _, rfl, r, C, dx, _, rfl, upd_same, RC.cls, no _ (by simp), by show 4 < 1000; decide, ?_⟩
    refine ⟨_, rfl, _, rfl, r, C, dx, _, rfl, upd_same, RC.cls, no _ (by simp), by show 5 < 1000; decide, ?_⟩
    refine ⟨_, rfl, _, rfl, r, C, dx, _, rfl, upd_same, RC.cls, no _ (by simp), by show 6 < 1000; decide, ?_⟩
    rw [upd_upd, upd_upd, upd_upd, upd_upd]
    have last := TK.ins (o := .ins C dx (rulesF os cs ls (.str z) b c d)) r5
    have tF := (t3.trans s5.tk).trans last
    refine fin _ ((w3.trans s5.keepB).trans KeepB.upd) ⟨dx, os, p1, p2, cs, ls, upd_same, e3, e4, tF _ _ so, sa1'.tk tF, sa2'.tk tF, last _ _ (s5 _ _ l3'), last _ _ l5⟩
end
end Pk
namespace Pk
open L2 PyProof.Rows PySem.Spec PySem
/-! ### how great a share's numbers are -/
theorem sumGo_lt : ∀ (ws : List Str) (found : List Term) (term : List Str) (sign : Int) (ts : List Term), (sign = 1 ∨ sign = -1) → (∀ t ∈ found, t.1.natAbs < 10 ^ 30) → sumGo ws found term sign = some ts → ∀ t ∈ ts, t.1.natAbs < 10 ^ 30
  | [], found, term, sign, ts, _, h, e => by
    rw [sumGo] at e
    cases e
    exact h
  | w :: ws, found, term, sign, ts, hs, h, e => by
    rw [sumGo] at e
    split at e
    · split at e
      · cases e
      · rename_i n f ht
        refine sumGo_lt ws _ _ _ ts ?_ (fun t hm => ?_) e
        · split
          · exact .inl rfl
          · exact .inr rfl
        · rcases List.mem_append.mp hm with m | m
          · exact h t m
          · rw [List.mem_singleton.mp m]
            have q := termM_lt ht
            show (sign * (n : Int)).natAbs < 10 ^ 30
            rcases hs with z | z <;> rw [z] <;> omega
    · exact sumGo_lt ws _ _ _ ts hs h e
theorem sumM_lt {ws : List Str} {ts : List Term} (h : sumM ws = some ts) : ∀ t ∈ ts, t.1.natAbs < 10 ^ 30 := by
  unfold sumM at h
  split at h
  · cases h
  · rename_i us e
    split at h
    · cases h
      exact sumGo_lt _ _ _ _ _ (.inl rfl) (fun t m => by cases m) e
    · cases h
theorem divM_lt {ws : List Str} {most : Nat} {x : Share} (h : divM ws most = some x) : (∀ t ∈ x.1, t.1.natAbs < 10 ^ 30) ∧ (x.2 = none ∨ ∃ m, x.2 = some m ∧ 2 ≤ m ∧ m ≤ most) := by
  unfold divM at h
  split at h
  · split at h
    · rename_i e _
      split at h
      · rename_i b
        cases h
        exact ⟨sumM_lt e, .inr ⟨_, rfl, b.1, b.2⟩⟩
      · cases h
    · cases h
  · cases e : sumM ws with
    | none => (rw [e] at h; cases h)
    | some us =>
      rw [e] at h
      cases h
      exact ⟨sumM_lt e, .inl rfl⟩
theorem sum_lt : ∀ (l : List Int) (b : Nat), (∀ z ∈ l, z.natAbs < b) → l.sum.natAbs ≤ l.length * b
  | [], b, _ => by simp
  | z :: l, b, h => by
    have q := sum_lt l b fun y hy => h y (List.mem_cons_of_mem _ hy)
    have d := h z (by simp)
    rw [List.sum_cons, List.length_cons, Nat.succ_mul]
    omega
theorem shareV_lt {v : V} {x : Share} (h : shareV v = some x) : (lineM x).s.natAbs ≤ 4 * 10 ^ 30 ∧ (lineM x).c.natAbs ≤ 4 * 10 ^ 30 ∧ 1 ≤ (lineM x).d ∧ (lineM x).d ≤ 6 := by
  have l4 := shareV_len h
  have g : (∀ t ∈ x.1, t.1.natAbs < 10 ^ 30) ∧ (x.2 = none ∨ ∃ m, x.2 = some m ∧ 2 ≤ m ∧ m ≤ 6) := by
    cases v with
    | str s =>
      have e : shareM s = some x := h
      unfold shareM at e
      split at e
      · cases e
      · rename_i us n d
        split at e
        · cases e
          exact divM_lt d
        · cases e
    | _ => cases h
  have bnd : ∀ fn : Term → Option Int, (∀ t z, fn t = some z → z = t.1) → (x.1.filterMap fn).sum.natAbs ≤ 4 * 10 ^ 30 := fun fn hf => by
    have q := sum_lt (x.1.filterMap fn) (10 ^ 30) fun z hz => by
      obtain ⟨t, ht, e⟩ := List.mem_filterMap.mp hz
      rw [hf t z e]
      exact g.1 t ht
    have q2 : (x.1.filterMap fn).length ≤ 4 := Nat.le_trans (List.length_filterMap_le _ _) l4
    exact Nat.le_trans q (Nat.mul_le_mul_right _ q2)
  refine ⟨bnd _ fun t z e => ?_, bnd _ fun t z e => ?_, ?_⟩
  · split at e
    · exact (Option.some.inj e).symm
    · cases e
  · split at e
    · exact (Option.some.inj e).symm
    · cases e
  · show 1 ≤ x.2.getD 1 ∧ x.2.getD 1 ≤ 6
    rcases g.2 with e | ⟨m, e, h1, h2⟩
    · rw [e]
      decide
    · rw [e]
      exact ⟨by show 1 ≤ m; omega, h2⟩
theorem shA {v : V} {x : Share} (h : shareV v = some x) : 0 < (lineM x).d ∧ (lineM x).d < 2 ^ 400 ∧ (lineM x).s.natAbs < 2 ^ 400 := by
  obtain ⟨h1, _, h3, h4⟩ := shareV_lt h
  exact ⟨h3, Nat.lt_of_le_of_lt h4 (by decide), Nat.lt_of_le_of_lt h1 (by decide)⟩
abbrev sCapAt : Stmt := inClass (top 49) 1
abbrev sLowAt : Stmt := inClass (top 49) 2
abbrev sBounds : Stmt := inClass (top 49) 3
abbrev sInUse : Stmt := inClass (top 49) 6
def usedL (x1 x2 : Share) (k : Int) : Bool := decide (1 ≤ (lineM x2).at_ k) && decide ((lineM x2).at_ k ≤ (lineM x1).at_ k)
/-- asked at a capacity: the answer f, or BadCapacity -/
def spCapQ (K : PySem.W.Frag) (C : Addr) (f : Share → Share → Int → V) : Sp := fun vs H Q E => ∃ (r : Addr) (x : V) (t : Value) (sty : Str) (cap low root : V) (x1 x2 : Share), vs = [.ref r, x] ∧ RulesAt C H r sty cap low root x1 x2 ∧ Kd K H x t ∧ (∀ k : Int, x = .int k → k.natAbs < 2 ^ 400) ∧
  (∀ k : Int, x = .int k → 1 ≤ k → ∀ H', Same H H' → Q (f x1 x2 k) H') ∧ ((∀ k : Int, x = .int k → ¬ 1 ≤ k) → Err1 K "BadCapacity" "k" x H E)
def spBounds (C : Addr) : Sp := fun vs H Q _ => ∃ (r : Addr) (k : Int) (sty : Str) (cap low root : V) (x1 x2 : Share), vs = [.ref r, .int k] ∧ RulesAt C H r sty cap low root x1 x2 ∧ k.natAbs < 2 ^ 400 ∧
  ∀ p, H p = none → Q (.ref p) (upd H p (.tup [.int ((lineM x2).at_ k), .int ((lineM x1).at_ k)]))
section
variable {K : PySem.W.Frag} {P : Program} {w : World} {base : Heap} {mg : Str → Option Value} {C fI : Addr}
theorem sc_Rules_bounds : FnScope ["self", "k"] ["self", "k"] (defScope sBounds) := ⟨rfl, rfl, rfl, by decide +kernel, rfl, by decide +kernel, by decide +kernel⟩
theorem ok_Rules_bounds {f fA : Addr} {fd fdA : FuncData} (F : FunD K "bounds" "Rules.bounds" (defArgs sBounds) (defBody sBounds) (defScope sBounds) [] [] f fd) (RC : RulesC K mg C fI) (FA : FunD K "share_at" "share_at" (defArgs sShareAt) (defBody sShareAt) (defScope sShareAt) [] [] fA fdA)
    (GA : FnOk P w K mg base CX0 1 fA fdA ["share", "k"] spShareAt) (gA : mg "share_at" = some (.ref fA)) : FnOk P w K mg base CX0 2 f fd ["self", "k"] (spBounds C) := by
  have bA : Binds K fdA ["share", "k"] [] := FA.bindsN fun _ _ _ _ _ _ us hl => match us, hl with | [_, _], _ => rfl
  refine F.ok sc_Rules_bounds (fun vs H Q E h => ?_) (fun cdv A outer s H vs Q E hr h => ?_)
  · obtain ⟨r, k, sty, cap, low, root, x1, x2, rfl, _⟩ := h
    rfl
  · obtain ⟨r, k, sty, cap, low, root, x1, x2, rfl, R, hb, q⟩ := h
    obtain ⟨dx, os, p1, p2, cs, ls, h1, h2, h3, h4, h5, h6, h7, h8⟩ := R
    refine ⟨_, PSs.nox (pss_one (by exact (ps_ret (pe_tup (pa_cons (pe_call GA (hr.mono (by decide)) rfl gA FA.kp bA .nil pass0 (pa_cons (pe_fld (pv 0) rfl) (pa_cons (pv 1) pa_nil))) (pa_cons (pe_call GA (hr.mono (by decide)) rfl gA FA.kp bA .nil pass0 (pa_cons (pe_fld (pv 0) rfl) (pa_cons (pv 1) pa_nil))) pa_nil)))))), ?_⟩
    refine ⟨_, rfl, r, C, dx, _, .ref ls, rfl, h1, RC.cls, RC.no _ (by simp), rfl, _, rfl, _, _, k, rfl, h8, (shA h3).1, (shA h3).2.1, (shA h3).2.2, hb, ?_⟩
    refine ⟨_, rfl, r, C, dx, _, .ref cs, rfl, h1, RC.cls, RC.no _ (by simp), rfl, _, rfl, _, _, k, rfl, h7, (shA h2).1, (shA h2).2.1, (shA h2).2.2, hb, ?_⟩
    exact ⟨by show 2 ≤ sizeLine; decide, q⟩
end
end Pk
namespace Pk
open L2 PyProof.Rows PySem.Spec PySem
/-! ### rows as the reader makes them: few terms, small factors, known names -/
def goodN (o : Option Str) : Prop := ∀ s, o = some s → s ∈ ATOMSL
structure GoodT (ts : List Term) : Prop where
  few : ts.length ≤ 4
  small : ∀ t ∈ ts, t.1.natAbs < 10 ^ 30
  name : ∀ t ∈ ts, goodN t.2
def goodS (t : Term) : Prop := t.1.natAbs < 10 ^ 30 ∧ goodN t.2
def goodP : Part → Prop
  | .there x _ => x ∈ PAGEL
  | .less a b _ _ => goodS a ∧ goodS b
  | .same a b _ => goodS a ∧ goodS b
mutual
def divR : Row → Prop
  | .set _ r ts d => r ∈ REGL ∧ GoodT ts ∧ (d = none ∨ ∃ m, d = some m ∧ 2 ≤ m ∧ m ≤ 12)
  | .cut _ x ts y => x ∈ PAGEL ∧ GoodT ts ∧ y ∈ PAGEL ∧ x ≠ y
  | .join _ x y => x ∈ PAGEL ∧ y ∈ PAGEL ∧ x ≠ y
  | .shift _ ts x y => GoodT ts ∧ x ∈ PAGEL ∧ y ∈ PAGEL ∧ x ≠ y
  | .mark _ y => y ∈ PAGEL
  | .quit _ => True
  | .ifr _ ps a b => (ps.length ≤ 4 ∧ ∀ p ∈ ps, goodP p) ∧ divsM a ∧ divsM b
def divsM : List Row → Prop
  | [] => True
  | r :: rs => divR r ∧ divsM rs
end
def wayDiv (w : Way) : Prop := ∀ row ∈ w.1, divR row
theorem wayDiv_snoc {told : List Row} {goes g2 : Bool} {row : Row} (h : wayDiv (told, goes)) (hr : divR row) : wayDiv (told ++ [row], g2) := fun x hx => by
  rcases List.mem_append.mp hx with m | m
  · exact h x m
  · rw [List.mem_singleton.mp m]
    exact hr
mutual
theorem longer_div : ∀ (r : Row) (w : Way), divR r → wayDiv w → ∀ v ∈ longerR r w, wayDiv v
  | .ifr l ps a b, (told, goes) => fun hr hw v hv => by
    have hr' : divsM a ∧ divsM b := by
      unfold divR at hr
      exact hr.2
    have e0 : ∀ w ∈ ([([], true)] : List Way), wayDiv w := fun w hw => by
      rw [List.mem_singleton.mp hw]
      exact fun x hx => absurd hx (List.not_mem_nil)
    unfold longerR at hv
    split at hv
    · obtain ⟨u, hu, rfl⟩ := List.mem_map.mp hv
      have hu2 : wayDiv u := by
        rcases List.mem_append.mp hu with m | m
        · exact ways_div a _ hr'.1 e0 u m
        · exact ways_div b _ hr'.2 e0 u m
      intro x hx
      rcases List.mem_append.mp hx with m | m
      · exact hw x m
      · rcases List.mem_cons.mp m with e | m
        · rw [e]
          exact hr
        · exact hu2 x m
    · rw [List.mem_singleton.mp hv]
      exact hw
  | .set .., (told, goes) => fun hr hw v hv => by
    unfold longerR at hv
    split at hv <;> rw [List.mem_singleton.mp hv]
    · exact wayDiv_snoc hw hr
    · exact hw
  | .cut .., (told, goes) => fun hr hw v hv => by
    unfold longerR at hv
    split at hv <;> rw [List.mem_singleton.mp hv]
    · exact wayDiv_snoc hw hr
    · exact hw
  | .join .., (told, goes) => fun hr hw v hv => by
    unfold longerR at hv
    split at hv <;> rw [List.mem_singleton.mp hv]
    · exact wayDiv_snoc hw hr
    · exact hw
  | .shift .., (told, goes) => fun hr hw v hv => by
    unfold longerR at hv
    split at hv <;> rw [List.mem_singleton.mp hv]
    · exact wayDiv_snoc hw hr
    · exact hw
  | .mark .., (told, goes) => fun hr hw v hv => by
    unfold longerR at hv
    split at hv <;> rw [List.mem_singleton.mp hv]
    · exact wayDiv_snoc hw hr
    · exact hw
  | .quit .., (told, goes) => fun hr hw v hv => by
    unfold longerR at hv
    split at hv <;> rw [List.mem_singleton.mp hv]
    · exact wayDiv_snoc hw hr
    · exact hw
theorem ways_div : ∀ (rows : List Row) (ws : List Way), divsM rows → (∀ w ∈ ws, wayDiv w) → ∀ v ∈ waysFrom rows ws, wayDiv v
  | [], ws => fun _ h v hv => by
    unfold waysFrom at hv
    exact h v hv
  | r :: rs, ws => fun hr h v hv => by
    unfold waysFrom at hv
    unfold divsM at hr
    refine ways_div rs _ hr.2 (fun w hw => ?_) v hv
    obtain ⟨u, hu, hw⟩ := List.mem_flatMap.mp hw
    exact longer_div r u hr.1 (h u hu) w hw
end
theorem termM_name {ws : List Str} {n : Nat} {f : Option Str} (h : termM ws = some (n, f)) : goodN f := by
  unfold termM at h
  split at h
  · split at h
    · rename_i m
      cases h
      intro s e
      cases e
      exact m
    · rename_i w _
      cases e : numM w with
      | none => (rw [e] at h; cases h)
      | some m =>
        rw [e] at h
        cases h
        exact fun s e => by cases e
  · split at h
    · rename_i q
      split at h
      · split at h
        · cases h
          intro s e
          cases e
          have : ∀ x ∈ FACTL, x ∈ ATOMSL := by decide
          exact this _ q.2
        · cases h
      · cases h
    · cases h
  · cases h
theorem sumGo_name : ∀ (ws : List Str) (found : List Term) (term : List Str) (sign : Int) (ts : List Term), (∀ t ∈ found, goodN t.2) → sumGo ws found term sign = some ts → ∀ t ∈ ts, goodN t.2
  | [], found, term, sign, ts, h, e => by
    cases e
    exact h
  | w :: ws, found, term, sign, ts, h, e => by
    unfold sumGo at e
    split at e
    · split at e
      · cases e
      · rename_i n f ht
        refine sumGo_name ws _ _ _ ts (fun t hm => ?_) e
        rcases List.mem_append.mp hm with m | m
        · exact h t m
        · rw [List.mem_singleton.mp m]
          exact termM_name ht
    · exact sumGo_name ws _ _ _ ts h e
theorem sumM_good {ws : List Str} {ts : List Term} (h : sumM ws = some ts) : GoodT ts := by
  have hs := sumM_lt h
  unfold sumM at h
  split at h
  · cases h
  · rename_i us e
    split at h
    · rename_i ok
      cases h
      unfold sumOk at ok
      exact ⟨of_decide_eq_true (Bool.and_eq_true_iff.mp ok).1, hs, sumGo_name _ _ _ _ _ (fun t m => by cases m) e⟩
    · cases h
theorem divM_good {ws : List Str} {most : Nat} {x : Share} (h : divM ws most = some x) : GoodT x.1 := by
  unfold divM at h
  split at h
  · split at h
    · rename_i e _
      split at h
      · cases h
        exact sumM_good e
      · cases h
    · cases h
  · cases e : sumM ws with
    | none => (rw [e] at h; cases h)
    | some us =>
      rw [e] at h
      cases h
      exact sumM_good e
theorem sideM_good {w : Str} {t : Term} (h : sideM w = some t) : goodS t := by
  unfold sideM at h
  cases e : termM [w] with
  | none => (rw [e] at h; cases h)
  | some p =>
    obtain ⟨n, f⟩ := p
    rw [e] at h
    cases h
    refine ⟨?_, termM_name e⟩
    have := termM_lt e
    show ((n : Int)).natAbs < _
    omega
theorem partM_good {ws : List Str} {p : Part} (h : partM ws = some p) : goodP p := by
  unfold partM at h
  split at h
  · rename_i q
    cases h
    exact q.2.2
  · split at h
    · split at h
      · rename_i e1 e2
        split at h
        · cases h
          exact ⟨sideM_good e1, sideM_good e2⟩
        · split at h
          · cases h
            exact ⟨sideM_good e1, sideM_good e2⟩
          · cases h
      · cases h
    · cases h
theorem partsGo_good : ∀ (ws : List Str) (found : List Part) (part : List Str) (ps : List Part), (∀ p ∈ found, goodP p) → partsGo ws found part = some ps → ∀ p ∈ ps, goodP p
  | [], found, part, ps, h, e => by
    cases e
    exact h
  | w :: ws, found, part, ps, h, e => by
    unfold partsGo at e
    split at e
    · split at e
      · cases e
      · rename_i p hp
        refine partsGo_good ws _ _ ps (fun t hm => ?_) e
        rcases List.mem_append.mp hm with m | m
        · exact h t m
        · rw [List.mem_singleton.mp m]
          exact partM_good hp
    · exact partsGo_good ws _ _ ps h e
theorem partsM_good {ws : List Str} {ps : List Part} (h : partsM ws = some ps) : ps.length ≤ 4 ∧ ∀ p ∈ ps, goodP p := by
  unfold partsM at h
  split at h
  · cases h
  · rename_i e
    split at h
    · rename_i l
      cases h
      exact ⟨l, partsGo_good _ _ _ _ (fun p m => by cases m) e⟩
    · cases h
theorem deedM_good {line : Nat} {ws : List Str} {row : Row} (e : deedM line ws = some row) : divR row := by
  unfold deedM at e
  split at e
  · cases e
    unfold divR
    trivial
  · split at e
    · rename_i q0 q
      cases z : divM (ws.drop 2) 12 with
      | none => rw [z] at e; cases e
      | some x =>
        rw [z] at e
        cases e
        unfold divR
        exact ⟨q.2.1, divM_good z, (divM_lt z).2⟩
    · split at e
      · rename_i q
        cases e
        unfold divR
        exact q.2.2
      · split at e
        · rename_i q
          split at e
          · rename_i n
            cases e
            unfold divR
            exact ⟨q.2.2.1, q.2.2.2, n⟩
          · cases e
        · unfold movingM at e
          split at e
          · cases e
          · rename_i nl
            have hl : at_ ws (ws.length - 1) ∈ PAGEL := Classical.byContradiction fun z => nl (.inr z)
            split at e
            · rename_i q
              split at e
              · rename_i z
                split at e
                · rename_i n
                  cases e
                  unfold divR
                  exact ⟨q.2.1, sumM_good z, hl, n⟩
                · cases e
              · cases e
            · split at e
              · cases e
              · rename_i q
                have h3 : at_ ws (ws.length - 3) ∈ PAGEL := Classical.byContradiction fun z => q (.inr (.inr (.inl z)))
                split at e
                · rename_i z
                  split at e
                  · rename_i n
                    cases e
                    unfold divR
                    exact ⟨sumM_good z, h3, hl, n⟩
                  · cases e
                · cases e
theorem rowM_div {n : Nat} (hr : ∀ i l ls rows last l2 r2, rowsM n i l ls = .ok (rows, last, l2, r2) → divsM rows) {line : Nat} {ws r : List Str} {row : Row} {l2 : Nat} {r2 : List Str} (h : rowM (rowsM n) line ws r = .ok (row, l2, r2)) : divR row := by
  unfold rowM at h
  split at h
  · split at h
    · cases h
    · rename_i hp
      split at h
      · cases h
      · rename_i e
        have a := hr _ _ _ _ _ _ _ e
        split at h
        · split at h
          · cases h
          · rename_i e2
            have b := hr _ _ _ _ _ _ _ e2
            split at h
            · cases h
              unfold divR
              exact ⟨partsM_good hp, a, b⟩
            · cases h
        · split at h
          · cases h
            unfold divR
            refine ⟨partsM_good hp, a, ?_⟩
            unfold divsM
            trivial
          · cases h
  · split at h
    · cases h
    · rename_i e
      cases h
      exact deedM_good e
theorem rowsM_div : ∀ (n : Nat) (i : Bool) (l : Nat) (ls : List Str) (rows : List Row) (last : Option Str) (l2 : Nat) (r2 : List Str), rowsM n i l ls = .ok (rows, last, l2, r2) → divsM rows
  | 0, _, _, _, _, _, _, _, h => by cases h
  | n + 1, i, l, ls, rows, last, l2, r2, h => by
    unfold rowsM at h
    split at h
    · split at h
      · cases h
      · cases h
        unfold divsM
        trivial
    · split at h
      · cases h
        unfold divsM
        trivial
      · split at h
        · cases h
        · rename_i e
          have a := rowM_div (rowsM_div n) e
          split at h
          · cases h
          · rename_i e2
            have b := rowsM_div n _ _ _ _ _ _ _ e2
            cases h
            unfold divsM
            exact ⟨a, b⟩
theorem readM_good {t : Str} {rows : List Row} (h : readM t = .ok rows) : divsM rows := by
  unfold readM at h
  split at h
  · cases h
  · rename_i x e
    cases h
    exact rowsM_div _ _ _ _ _ _ _ _ e
end Pk
namespace Pk
open L2 PyProof.Rows PySem.Spec PySem
theorem kind_set {row : Row} (h : kindR row = "set") : ∃ l r ts d, row = .set l r ts d := by
  cases row with
  | set l r ts d => exact ⟨l, r, ts, d, rfl⟩
  | _ => exact absurd h (by simp only [kindR]; decide)
theorem much_not {row : Row} {m : Much} (h : ¬ kindR row = "set") : muchStep m row = m := by
  cases row with
  | set l r ts d => exact absurd rfl h
  | _ => rfl
/-- a table of counts -/
def Counts (kvs : List (Key × V)) (ks : List (Str × Nat)) : Prop := ∀ r : Str, (valV kvs (.inr r)).getD (.int 0) = .int (getS ks r : Nat)
theorem counts_put {kvs : List (Key × V)} {ks : List (Str × Nat)} (h : Counts kvs ks) (r : Str) (n : Nat) : Counts (putK kvs (.inr r) (.int (n : Nat))) ((r, n) :: ks) := fun q => by
  rw [valV_put]
  unfold getS
  by_cases e : q = r
  · rw [e, if_pos rfl, List.lookup_cons, beq_self_eq_true]
    rfl
  · rw [if_neg (fun z => e (Sum.inr.inj z)), List.lookup_cons, beq_false_of_ne e]
    exact h q
def spMuch : Sp := fun vs H Q _ => ∃ (t : Addr) (fr : Addr → Prop) (refs : List Addr) (told : List Row) (product : Nat), vs = [.ref t, .int (product : Nat)] ∧ H t = some (.lst (refs.map V.ref)) ∧ RowsAt fr H refs told ∧ wayDiv (told, true) ∧ told.length ≤ 2000 ∧
  ∀ p H', Same H H' → H p = none → H' p = some (.lst (natL (tooMuchM told product))) → Q (.ref p) H'
theorem much_one (m : Much) (row : Row) : (muchStep m row).found.length ≤ m.found.length + 2 := by
  cases row with
  | set l r ts d =>
    cases d with
    | none =>
      show (if _ then m.found ++ [l] else m.found).length ≤ _
      split
      · rw [(List.length_append), List.length_singleton]
        omega
      · omega
    | some d =>
      show (if _ then (if _ then m.found ++ [l] else m.found) ++ [l] else (if _ then m.found ++ [l] else m.found)).length ≤ _
      have q : ∀ (c : Prop) [Decidable c] (xs : List Nat), (if c then xs ++ [l] else xs).length ≤ xs.length + 1 := fun c _ xs => by
        split
        · rw [(List.length_append), List.length_singleton]
          exact Nat.le_refl _
        · omega
      exact Nat.le_trans (q _ _) (Nat.succ_le_succ (q _ _))
  | _ => exact Nat.le_add_right _ _
theorem much_len : ∀ (told : List Row) (m : Much), (told.foldl muchStep m).found.length ≤ m.found.length + 2 * told.length
  | [], m => Nat.le_add_right _ _
  | r :: rs, m => by
    have a := much_len rs (muchStep m r)
    have b := much_one m r
    rw [List.foldl_cons, List.length_cons]; omega
section
variable {K : PySem.W.Frag} {P : Program} {w : World} {base : Heap} {mg : Str → Option Value}
theorem sc_too_much : FnScope ["told", "product", "found", "divisions", "settings", "row"] ["told", "product"] (defScope sMuch) := ⟨rfl, rfl, rfl, by decide +kernel, rfl, by decide +kernel, by decide +kernel⟩
theorem ok_too_much {f : Addr} {fd : FuncData} (F : FunD K "too_much" "too_much" (defArgs sMuch) (defBody sMuch) (defScope sMuch) [] [] f fd) (gMS : ∃ u, mg "MOST_SETTINGS" = some u ∧ RelV (.int 2) u) (gMD : ∃ u, mg "MOST_DIVISIONS" = some u ∧ RelV (.int 2) u) (gMP : ∃ u, mg "MOST_PRODUCT" = some u ∧ RelV (.int 144) u) : FnOk P w K mg base CX0 1 f fd ["told", "product"] spMuch := by
  refine F.ok sc_too_much (fun vs H Q E h => ?_) (fun cdv A outer s H vs Q E hr h => ?_)
  · obtain ⟨t, fr, refs, told, product, rfl, _⟩ := h
    rfl
  · obtain ⟨t, fr, refs, told, product, rfl, ht, hT, hdv, hl, q⟩ := h
    have hu : (A.deeper (envOfC "too_much" (defScope sMuch) s.heap.objs.size f cdv)).units + 1 < cLine := Nat.lt_of_le_of_lt (by omega) (Room.units hr)
    have lT := rows_len hT
    refine ⟨_, PSs.nox (pss_cons (by exact (ps_par3 (i := 2) (j := 3) (l := 4) rfl sc_too_much.nd rfl rfl rfl (by decide) (by decide) (by decide) rfl rfl rfl (pa_cons (pe_lst pa_nil) (pa_cons pe_int (pa_cons pe_dnewK pa_nil))) rfl)) (pss_cons (by exact (ps_for PassesOwn.never rfl (pi_list (pv 0)) (pg_name (i := 5) sc_too_much.nd rfl (Or.inl rfl)) (pss_cons (by exact (ps_if (pt_cmpR op_ne (pe_ix (ix_tupK K rfl) (pv 5) pe_int (fun _ _ => rfl)) pe_str (nomark _)) (pss_one (by exact ps_continue)) pss_nil)) (pss_cons (by exact (ps_dput hu (pv 4) (pe_ix (ix_tupK K rfl) (pv 5) pe_int (fun _ _ => rfl)) (pe_op op_add (pe_dget2 hu (pv 4) (pe_ix (ix_tupK K rfl) (pv 5) pe_int (fun _ _ => rfl)) pe_int ⟨rfl, by rfl, rfl, rfl⟩) pe_int) rfl)) (C8.pss_cut (by exact (ps_if (pt_cmpR op_gt (pe_dget hu (pv 4) (pe_ix (ix_tupK K rfl) (pv 5) pe_int (fun _ _ => rfl)) (fun _ _ => rfl)) (C8.pe_gc (v := .int 2) rfl gMS) (nomark _)) (pss_one (by exact (ps_expr (pe_bm PySem.F.plainAttrs_list PySem.F.slot_list_append PySem.F.type_list_append mt_append (pv 2) (pa_cons (pe_ix (ix_tupK K rfl) (pv 5) pe_int (fun _ _ => rfl)) pa_nil))))) pss_nil)) (pss_one (by exact (ps_if (pt_cmp (pc_notN (pe_ix (ix_tupK K rfl) (pv 5) pe_int (fun _ _ => rfl)))) (pss_cons (by exact (ps_aug (i := 3) sc_too_much.nd rfl (Or.inl rfl) pe_int iop_add)) (pss_cons (by exact (ps_aug (i := 1) sc_too_much.nd rfl (Or.inl rfl) (pe_ix (ix_tupK K rfl) (pv 5) pe_int (fun _ _ => rfl)) iop_mul)) (pss_one (by exact (ps_if (PW.pt (pw_or (pt_cmpR op_gt (pv 3) (C8.pe_gc (v := .int 2) rfl gMD) (nomark _)) (pw_or1 (pt_cmpR op_gt (pv 1) (C8.pe_gc (v := .int 144) rfl gMP) (nomark _))))) (pss_one (by exact (ps_expr (pe_bm PySem.F.plainAttrs_list PySem.F.slot_list_append PySem.F.type_list_append mt_append (pv 2) (pa_cons (pe_ix (ix_tupK K rfl) (pv 5) pe_int (fun _ _ => rfl)) pa_nil))))) pss_nil))))) pss_nil)))))))) (pss_one (by exact (ps_ret (pv 2)))))), ?_⟩
    refine ⟨by show 0 ≤ sizeLine; decide, fun fa hfa => fun da hda => ⟨_, _, _, rfl, ?_⟩⟩
    have T1 := same_new (o := .lst []) hfa
    have T2 := T1.step (o := .dK []) hda
    have nDa : H da = none := T1.back hda
    have fd : fa ≠ da := fun z => by rw [← z, upd_same] at hda; cases hda
    refine ⟨_, rfl, t, rfl, ⟨_, SqL.of (T2 _ _ ht)⟩, for_list (K := K) (a := t) (xs := refs.map V.ref) (fun i σ H' => ∃ (v : Option V) (kvs : List (Key × V)) (m : Much), m = (told.take i).foldl muchStep ⟨[], 0, product, []⟩ ∧ σ = [some (.ref t), some (.int (m.prod : Nat)), some (.ref fa), some (.int (m.divs : Nat)), some (.ref da), v] ∧ Same H H' ∧ H' fa = some (.lst (natL m.found)) ∧ H' da = some (.dK kvs) ∧ Counts kvs m.sets ∧ kvs.length ≤ i) ?_ (fun i σ H' _ ⟨v, kvs, m, _, e, s, _⟩ => SqL.of (s _ _ ht)) ?_ ?_⟩
    · exact ⟨none, [], _, rfl, rfl, T2, same_new hda _ _ upd_same, upd_same, fun r => rfl, Nat.le_refl _⟩
    · rintro i x σ H' hi ⟨v, kvs, m, em, rfl, sH, hf, hd, hc, hk⟩
      obtain ⟨b, row, rfl, hrow, hb⟩ := ref_get hT hi
      have hb' := hb.keep (Keeps.same sH) fun _ z => z
      obtain ⟨xs, h1, h2, h3⟩ := row_at hb'
      have mem := List.mem_of_getElem? hrow
      have good := hdv row mem
      have il : i < told.length := (List.getElem?_eq_some_iff.mp hrow).1
      have lm : m.found.length ≤ 2 * i := by
        have := much_len (told.take i) ⟨[], 0, product, []⟩
        have l2 : ([] : List Nat).length = 0 := rfl
        have l3 := List.length_take_le i told
        rw [em]
        dsimp only at this
        omega
      have e1 : (told.take (i + 1)).foldl muchStep ⟨[], 0, product, []⟩ = muchStep m row := by
        rw [take_snoc hrow, List.foldl_append, ← em]
        rfl
      have st : ∀ {H2 a o}, Same H H2 → H a = none → Same H (upd H2 a o) := fun {H2 a o} s2 n u o e => by
        rw [upd_ne fun z => by rw [z, n] at e; cases e]
        exact s2 _ _ e
      refine ⟨_, rfl, b, xs, 0, .str (kindR row), rfl, rfl, SqT.of h1, h2, rfl, _, rfl, ite2 (fun e => ?_) fun e => ?_⟩
      · have ek := neE e
        refine ⟨_, kvs, m, ?_, rfl, sH, hf, hd, hc, Nat.le_succ_of_le hk⟩
        rw [e1, much_not ek]
      · have ek := neN e
        obtain ⟨l, r, ts, d, rfl⟩ := kind_set ek
        cases hb' with
        | set hbb hts =>
          rename_i sa
          refine ⟨_, rfl, da, rfl, .inl ⟨kvs, .inl hd⟩, _, rfl, b, _, 2, .str r, rfl, rfl, SqT.of hbb, rfl, _, DGet.k (k := .inr r) hd, ?_⟩
          rw [hc r]
          refine ⟨_, _, rfl, rfl, _, rfl, _, rfl, b, _, 2, .str r, rfl, rfl, SqT.of hbb, rfl, da, _, rfl, DPut.k (k := .inr r) hd (Nat.lt_of_le_of_lt hk (Nat.lt_of_lt_of_le il (Nat.le_trans hl (by decide)))), ?_⟩
          have kf : H' b = some (.tup [.str "set", .int (l : Nat), .str r, .ref sa, natV d]) := hbb
          have hc2 : Counts (putK kvs (.inr r) (.int (((getS m.sets r : Nat) : Int) + 1))) ((r, getS m.sets r + 1) :: m.sets) := counts_put hc r _
          have hk2 : (putK kvs (.inr r) (.int (((getS m.sets r : Nat) : Int) + 1))).length ≤ i + 1 := Nat.le_trans (length_putK _ _ _) (Nat.succ_le_succ hk)
          have g2 : valV (putK kvs (.inr r) (.int (((getS m.sets r : Nat) : Int) + 1))) (.inr r) = some (.int (((getS m.sets r : Nat) : Int) + 1)) := by
            rw [valV_put, if_pos rfl]
          generalize putK kvs (.inr r) (.int (((getS m.sets r : Nat) : Int) + 1)) = kv2 at hc2 hk2 g2 ⊢
          have nfd : fa ≠ da := fd
          have s2 : Same H (upd H' da (.dK kv2)) := st sH nDa
          have b2 := (hb.keep (Keeps.same s2) fun _ z => z)
          have b2t : (upd H' da (.dK kv2)) b = some (.tup [.str "set", .int (l : Nat), .str r, .ref sa, natV d]) := by
            rw [upd_ne (fun z => by rw [z, hd] at kf; cases kf)]
            exact kf
          refine ⟨fun σ' H3 => σ' = [some (.ref t), some (.int (m.prod : Nat)), some (.ref fa), some (.int (m.divs : Nat)), some (.ref da), some (.ref b)] ∧ Same H H3 ∧ H3 b = some (.tup [.str "set", .int (l : Nat), .str r, .ref sa, natV d]) ∧ H3 fa = some (.lst (natL (if getS m.sets r + 1 > 2 then m.found ++ [l] else m.found))) ∧ H3 da = some (.dK kv2), ?_, ?_⟩
          · have d2 : DGet (upd H' da (.dK kv2)) da (.str r) (some (.int (((getS m.sets r : Nat) : Int) + 1))) := by
              have := DGet.k (k := .inr r) (upd_same (H := H') (a := da) (o := .dK kv2))
              rw [g2] at this
              exact this
            have hf2 : (upd H' da (.dK kv2)) fa = some (.lst (natL m.found)) := by
              rw [upd_ne nfd]
              exact hf
            refine ⟨_, rfl, _, rfl, b, _, 2, .str r, rfl, rfl, SqT.of b2t, rfl, da, _, rfl, d2, _, _, rfl, rfl, _, rfl, ite2 (fun e => ?_) fun e => ?_⟩
            · have e3 : getS m.sets r + 1 > 2 := by
                have := of_decide_eq_true e
                omega
              refine ⟨_, rfl, .inl ⟨rfl, _, SqL.of hf2⟩, _, rfl, b, _, 1, .int (l : Nat), rfl, rfl, SqT.of b2t, rfl, fa, _, _, rfl, rfl, hf2, ?_, ?_⟩
              · rw [List.length_map]
                exact Nat.lt_of_le_of_lt (m := 4000) (by omega) (by decide)
              · refine ⟨rfl, st s2 hfa, ?_, ?_, ?_⟩
                · rw [upd_ne (fun z => by rw [z, hf2] at b2t; cases b2t)]
                  exact b2t
                · rw [upd_same, if_pos e3]
                  unfold natL
                  rw [List.map_append]
                  rfl
                · rw [upd_ne (fun z => nfd z.symm)]
                  exact upd_same
            · have e3 : ¬ getS m.sets r + 1 > 2 := fun z => e (decide_eq_true (by omega))
              refine ⟨rfl, s2, b2t, ?_, upd_same⟩
              rw [if_neg e3]
              exact hf2
          · rintro σ' H3 ⟨rfl, s3, b3, f3, d3⟩
            have lf1 : (if getS m.sets r + 1 > 2 then m.found ++ [l] else m.found).length ≤ 4001 := by
              split
              · rw [(List.length_append), List.length_singleton]
                omega
              · omega
            cases d with
            | none =>
              refine ⟨_, rfl, b, _, 4, .non, rfl, rfl, SqT.of b3, rfl, _, rfl, ite2 (fun e => by cases e) fun e => ?_⟩
              refine ⟨_, kv2, _, e1.symm, rfl, s3, f3, d3, hc2, hk2⟩
            | some d =>
              refine ⟨_, rfl, b, _, 4, .int (d : Nat), rfl, rfl, SqT.of b3, rfl, _, rfl, ite2 (fun e => ?_) fun e => absurd rfl e⟩
              have good' : divR (.set l r ts (some d)) := good
              unfold divR at good'
              obtain ⟨_, _, z | ⟨d', z, dl, dh⟩⟩ := good'
              · cases z
              cases z
              refine ⟨_, rfl, _, _, rfl, rfl, _, rfl, _, rfl, b, _, 4, .int (d : Nat), rfl, rfl, SqT.of b3, rfl, _, _, rfl, rfl, .inr ⟨by omega, by omega⟩, ?_⟩
              have em2 : (m.divs + 1 > 2 ∨ m.prod * d > 144) → muchStep m (.set l r ts (some d)) = ⟨(r, getS m.sets r + 1) :: m.sets, m.divs + 1, m.prod * d, (if getS m.sets r + 1 > 2 then m.found ++ [l] else m.found) ++ [l]⟩ := fun z => by
                unfold muchStep
                dsimp only
                rw [if_pos z]
              have em3 : ¬ (m.divs + 1 > 2 ∨ m.prod * d > 144) → muchStep m (.set l r ts (some d)) = ⟨(r, getS m.sets r + 1) :: m.sets, m.divs + 1, m.prod * d, (if getS m.sets r + 1 > 2 then m.found ++ [l] else m.found)⟩ := fun z => by
                unfold muchStep
                dsimp only
                rw [if_neg z]
              refine ⟨_, rfl, _, _, rfl, rfl, _, rfl, ite2 (fun e => ?_) fun e => ⟨_, rfl, _, _, rfl, rfl, _, rfl, ite2 (fun e2 => ?_) fun e2 => ?_⟩⟩
              · have hx : m.divs + 1 > 2 ∨ m.prod * d > 144 := by
                  have := of_decide_eq_true e
                  omega
                refine ⟨_, rfl, .inl ⟨rfl, _, SqL.of f3⟩, _, rfl, b, _, 1, .int (l : Nat), rfl, rfl, SqT.of b3, rfl, fa, _, _, rfl, rfl, f3, by rw [List.length_map]; exact Nat.lt_of_le_of_lt lf1 (by decide), _, kv2, _, e1.symm, by rw [em2 hx]; rfl, st s3 hfa, by rw [upd_same, em2 hx]; unfold natL; rw [List.map_append]; rfl, by rw [upd_ne (fun z => fd z.symm)]; exact d3, by rw [em2 hx]; exact hc2, hk2⟩
              · have hx : m.divs + 1 > 2 ∨ m.prod * d > 144 := by
                  have := of_decide_eq_true e2
                  omega
                refine ⟨_, rfl, .inl ⟨rfl, _, SqL.of f3⟩, _, rfl, b, _, 1, .int (l : Nat), rfl, rfl, SqT.of b3, rfl, fa, _, _, rfl, rfl, f3, by rw [List.length_map]; exact Nat.lt_of_le_of_lt lf1 (by decide), _, kv2, _, e1.symm, by rw [em2 hx]; rfl, st s3 hfa, by rw [upd_same, em2 hx]; unfold natL; rw [List.map_append]; rfl, by rw [upd_ne (fun z => fd z.symm)]; exact d3, by rw [em2 hx]; exact hc2, hk2⟩
              · have hx : ¬ (m.divs + 1 > 2 ∨ m.prod * d > 144) := fun z => by
                  rcases z with z | z
                  · exact e (decide_eq_true (by omega))
                  · exact e2 (decide_eq_true (by omega))
                exact ⟨_, kv2, _, e1.symm, by rw [em3 hx]; rfl, s3, by rw [em3 hx]; exact f3, d3, by rw [em3 hx]; exact hc2, hk2⟩
    · rintro σ H' ⟨v, kvs, m, em, rfl, sH, hf, hd, hc, hk⟩
      have full : told.take (refs.map V.ref).length = told := by
        rw [List.length_map, lT]
        exact List.take_length ..
      rw [full] at em
      refine ⟨_, rfl, q fa H' sH hfa ?_⟩
      rw [hf, em]
      rfl
end
end Pk
namespace Pk
open L2 PyProof.Rows PySem.Spec PySem
/-- the scope of the comprehension that a second statement returns -/
def lcScope : List Stmt → Scope
  | [_, .Return (some (.ListComp _ _ sc _)) _] => sc
  | _ => defScope sMoves
/-- a cut's or a shift's line and sum -/
def mvOf : Row → Option (Nat × List Term)
  | .cut l _ ts _ => some (l, ts)
  | .shift l ts _ _ => some (l, ts)
  | _ => none
def mvs (told : List Row) : List (Nat × List Term) := told.filterMap mvOf
def oddL (xs : List (Nat × List Term)) : List Nat := xs.filterMap fun x => if oddSum x.2 = true then some x.1 else none
theorem moves_two : ∀ told : List Row, movesM told = oddL (mvs told)
  | [] => rfl
  | r :: rs => by
    have ih := moves_two rs
    have one : ∀ (l : Nat) (ts : List Term) (xs : List (Nat × List Term)), oddL ((l, ts) :: xs) = if oddSum ts = true then l :: oddL xs else oddL xs := fun l ts xs => by
      unfold oddL
      rw [List.filterMap_cons]
      by_cases h : oddSum ts = true
      · rw [if_pos h, if_pos h]
      · rw [if_neg h, if_neg h]
    have two : ∀ (l : Nat) (ts : List Term) (r : Row), mvLine r = (if oddSum ts = true then some l else none) → movesM (r :: rs) = if oddSum ts = true then l :: movesM rs else movesM rs := fun l ts r e => by
      unfold movesM
      rw [List.filterMap_cons, e]
      by_cases h : oddSum ts = true
      · rw [if_pos h, if_pos h]
      · rw [if_neg h, if_neg h]
    cases r with
    | cut l x ts y =>
      rw [two l ts _ rfl, ih]
      exact (one l ts _).symm
    | shift l ts x y =>
      rw [two l ts _ rfl, ih]
      exact (one l ts _).symm
    | _ => exact ih
def MvAt (H : Hp) (p : Addr) (x : Nat × List Term) : Prop := ∃ sa, H p = some (.tup [.int (x.1 : Nat), .ref sa]) ∧ SumAt H sa x.2
theorem MvAt.keep {H H' : Hp} (k : ∀ b xs, H b = some (.tup xs) → H' b = some (.tup xs)) {p : Addr} {x : Nat × List Term} (h : MvAt H p x) : MvAt H' p x := by
  obtain ⟨sa, h1, h2⟩ := h
  exact ⟨sa, k _ _ h1, h2.keep (fr := fun _ => False) ⟨k, fun _ _ z => z.elim⟩⟩
theorem mvs_snoc {told : List Row} {i : Nat} {row : Row} (h : told[i]? = some row) : mvs (told.take (i + 1)) = mvs (told.take i) ++ (mvOf row).toList := by
  unfold mvs
  rw [take_snoc h, List.filterMap_append]
  cases e : mvOf row with
  | none => rw [List.filterMap_cons, e]; rfl
  | some x => rw [List.filterMap_cons, e]; rfl
theorem oddL_snoc {xs : List (Nat × List Term)} {i : Nat} {x : Nat × List Term} (h : xs[i]? = some x) : oddL (xs.take (i + 1)) = oddL (xs.take i) ++ (if oddSum x.2 = true then [x.1] else []) := by
  unfold oddL
  rw [take_snoc h, List.filterMap_append, List.filterMap_cons]
  by_cases e : oddSum x.2 = true
  · rw [if_pos e, if_pos e]
    rfl
  · rw [if_neg e, if_neg e]
    rfl
theorem oddL_len (xs : List (Nat × List Term)) : (oddL xs).length ≤ xs.length := List.length_filterMap_le _ _
theorem mvs_good {told : List Row} (h : wayDiv (told, true)) : ∀ x ∈ mvs told, GoodT x.2 := fun x hx => by
  unfold mvs at hx
  obtain ⟨row, hr, e⟩ := List.mem_filterMap.mp hx
  have g := h row hr
  cases row with
  | cut l a ts b =>
    cases e
    unfold divR at g
    exact g.2.1
  | shift l ts a b =>
    cases e
    unfold divR at g
    exact g.1
  | _ => cases e
theorem mvs_len (told : List Row) : (mvs told).length ≤ told.length := List.length_filterMap_le _ _
abbrev PLAINV : List V := [.non, .str "k", .str "cap", .str "low"]
theorem inV_plain (o : Option Str) : inV (nameV o) PLAINV = decide (o ∈ PLAINL) := by
  cases o with
  | none => rfl
  | some s =>
    have q := inV_strs (x := s) (l := [("k" : Str), "cap", "low"])
    have e : inV (nameV (some s)) PLAINV = inV (.str s) (([("k" : Str), "cap", "low"]).map V.str) := rfl
    rw [e, q]
    unfold PLAINL
    by_cases h : s ∈ ([("k" : Str), "cap", "low"] : List Str)
    · rw [decide_eq_true h, decide_eq_true]
      simp only [List.mem_cons, List.not_mem_nil, Option.some.injEq, reduceCtorEq, false_or] at h ⊢
      exact h
    · rw [decide_eq_false h, decide_eq_false]
      simp only [List.mem_cons, List.not_mem_nil, Option.some.injEq, reduceCtorEq, false_or] at h ⊢
      exact h
theorem any_odd (ts : List Term) : (ts.map fun t => !decide (t.2 ∈ PLAINL)).any id = oddSum ts := by
  unfold oddSum
  rw [List.any_map]
  rfl
def spMoves : Sp := fun vs H Q _ => ∃ (t : Addr) (fr : Addr → Prop) (refs : List Addr) (told : List Row), vs = [.ref t] ∧ H t = some (.lst (refs.map V.ref)) ∧ RowsAt fr H refs told ∧ wayDiv (told, true) ∧ told.length ≤ 2000 ∧
  ∀ p H', Same H H' → H p = none → H' p = some (.lst (natL (movesM told))) → Q (.ref p) H'
section
variable {K : PySem.W.Frag} {P : Program} {w : World} {base : Heap} {mg : Str → Option Value}
theorem sc_moves_of : FnScope ["told", "found", "row", "line", "terms", "factor", "name"] ["told"] (defScope sMoves) := ⟨rfl, rfl, rfl, by decide +kernel, rfl, by decide +kernel, by decide +kernel⟩
theorem ok_moves_of {f : Addr} {fd : FuncData} (F : FunD K "moves_of" "moves_of" (defArgs sMoves) (defBody sMoves) (defScope sMoves) [] [] f fd) (mAny : mg "any" = none) {aN : Addr} (gPL : ∃ u, mg "PLAIN" = some u ∧ RelV (.ref aN) u) (tN : ∀ H, SqT K H aN PLAINV) : FnOk P w K mg base CX0 1 f fd ["told"] spMoves := by
  refine F.ok sc_moves_of (fun vs H Q E h => ?_) (fun cdv A outer s H vs Q E hr h => ?_)
  · obtain ⟨t, fr, refs, told, rfl, _⟩ := h
    rfl
  · obtain ⟨t, fr, refs, told, rfl, ht, hT, hdv, hl, q⟩ := h
    have lT := rows_len hT
    refine ⟨_, PSs.nox (pss_cons (by exact (ps_setLc (i := 1) (own := [("row", 2)]) (g := gName 2) rfl sc_moves_of.nd rfl rfl (sw_true rfl rfl rfl (by decide +kernel)) (pi_list (pv 0)) (blkOk_by (N := ["told", "found", "row", "line", "terms", "factor", "name"]) (sc := defScope sMoves) (by decide +kernel)) (fun _ _ _ _ _ => pg_name (i := 2) sc_moves_of.nd rfl (Or.inl rfl)) (fun _ _ _ _ _ => (pts_one (pt_cmpR (op_inK K rfl) (pe_ix (ix_tupK K rfl) (pv 2) pe_int (fun _ _ => rfl)) (pe_tup (pa_cons pe_str (pa_cons pe_str pa_nil))) rfl))) (fun _ _ _ _ _ => (pe_tup (pa_cons (pe_ix (ix_tupK K rfl) (pv 2) pe_int (fun _ _ => rfl)) (pa_cons (pe_ifExp (pt_cmpR op_eq (pe_ix (ix_tupK K rfl) (pv 2) pe_int (fun _ _ => rfl)) pe_str (nomark _)) (pe_ix (ix_tupK K rfl) (pv 2) pe_int (fun _ _ => rfl)) (pe_ix (ix_tupK K rfl) (pv 2) pe_int (fun _ _ => rfl))) pa_nil)))))) (pss_one (by exact (ps_ret (pe_lc (own := [("line", 3), ("terms", 4)]) rfl sc_moves_of.nd (pi_list (pv 1)) (blkOk_by (N := ["told", "found", "row", "line", "terms", "factor", "name"]) (sc := defScope sMoves) (by decide +kernel)) (fun _ _ _ _ _ => pg_tupK (n := 2) K rfl rfl (pgs_cons (pg_name (i := 3) sc_moves_of.nd rfl (Or.inl rfl)) (pgs_cons (pg_name (i := 4) sc_moves_of.nd rfl (Or.inl rfl)) pgs_nil))) (fun _ _ _ _ _ => (pts_one (pt_val (pe_callB (cr_anyK K rfl rfl) (by rfl) mAny PyProof.Rows.boot_any (pa_cons (pe_lc (own := [("factor", 5), ("name", 6)]) (tt := tYes) rfl sc_moves_of.nd (pi_tupK K rfl (pv 4)) (blkOk_by (N := ["told", "found", "row", "line", "terms", "factor", "name"]) (sc := relS (lcScope (defBody sMoves)) (defScope sMoves)) (by decide +kernel)) (fun _ _ _ _ _ => pg_tupK (n := 2) K rfl rfl (pgs_cons (pg_name (i := 5) sc_moves_of.nd rfl (Or.inl rfl)) (pgs_cons (pg_name (i := 6) sc_moves_of.nd rfl (Or.inl rfl)) pgs_nil))) (fun _ _ _ _ _ => pts_nil) (fun _ _ _ _ _ => (pe_cmpR (op_notInK K rfl) (pv 6) (C8.pe_gc (v := .ref aN) rfl gPL) rfl))) pa_nil))))) (fun _ _ _ _ _ => (pv 3))))))), ?_⟩
    refine ⟨_, rfl, t, rfl, ⟨_, SqL.of ht⟩, fun D hD => lc_list (K := K) (a := t) (xs := refs.map V.ref) (fun i H' => ∃ out, Same H H' ∧ H' D = some (.lst (out.map V.ref)) ∧ Paired (MvAt H') out (mvs (told.take i))) ⟨[], same_new hD, upd_same, .nil⟩ (fun i H' _ h => ?_) ?_ ?_⟩
    · obtain ⟨out, sm, _⟩ := h
      exact SqL.of (sm _ _ ht)
    · rintro i x H' hi ⟨out, sH, hD1, pr⟩
      obtain ⟨b, row, rfl, hrow, hb⟩ := ref_get hT hi
      have hb' := hb.keep (Keeps.same sH) fun _ z => z
      obtain ⟨xs, h1, h2, h3⟩ := row_at hb'
      have mem := List.mem_of_getElem? hrow
      have good := hdv row mem
      have il : i < told.length := (List.getElem?_eq_some_iff.mp hrow).1
      have fin : ∀ (H3 : Hp) (sa : Addr) (l : Nat) (ts : List Term) (p2 : Addr), Same H' H3 → H3 p2 = none → SumAt H3 sa ts → mvOf row = some (l, ts) → ∃ acc, (upd H3 p2 (.tup [.int (l : Nat), .ref sa])) D = some (.lst acc) ∧ acc.length < sizeLine ∧ ∃ out, Same H (upd (upd H3 p2 (.tup [.int (l : Nat), .ref sa])) D (.lst (acc ++ [V.ref p2]))) ∧ (upd (upd H3 p2 (.tup [.int (l : Nat), .ref sa])) D (.lst (acc ++ [V.ref p2]))) D = some (.lst (out.map V.ref)) ∧ Paired (MvAt (upd (upd H3 p2 (.tup [.int (l : Nat), .ref sa])) D (.lst (acc ++ [V.ref p2])))) out (mvs (told.take (i + 1))) := fun H3 sa l ts p2 s3 n2 hs em => by
        have s4 := s3.step (o := .tup [.int (l : Nat), .ref sa]) n2
        have dD := s4 _ _ hD1
        have keep : ∀ {acc : List V} (b xs), (upd H3 p2 (.tup [.int (l : Nat), .ref sa])) b = some (.tup xs) → (upd (upd H3 p2 (.tup [.int (l : Nat), .ref sa])) D (.lst acc)) b = some (.tup xs) := fun b xs e => by
          rw [upd_ne (fun z => by rw [z, dD] at e; cases e)]
          exact e
        refine ⟨_, dD, ?_, out ++ [p2], ?_, ?_, ?_⟩
        · have a := paired_sz pr
          have b := mvs_len (told.take i)
          have c := List.length_take_le i told
          rw [List.length_map]
          exact Nat.lt_of_le_of_lt (m := 2000) (by omega) (by decide)
        · exact fun u o e => by
            rw [upd_ne (fun z => by rw [z, hD] at e; cases e)]
            exact s4 _ _ (sH _ _ e)
        · rw [upd_same, List.map_append]
          rfl
        · rw [mvs_snoc hrow, em]
          refine paired_app (Paired.mapP pr fun _ _ e => (e.keep fun b xs z => s4 _ _ z).keep keep) (.cons ⟨sa, keep _ _ upd_same, ?_⟩ .nil)
          exact (hs.keep (fr := fun _ => False) ⟨fun b xs z => same_new n2 _ _ z, fun _ _ z => z.elim⟩).keep (fr := fun _ => False) ⟨keep, fun _ _ z => z.elim⟩
      refine ⟨rfl, ?_⟩
      refine ⟨_, rfl, b, xs, 0, .str (kindR row), rfl, rfl, SqT.of h1, h2, by show 2 ≤ sizeLine; decide, fun p hp => ⟨p, _, rfl, .inr (SqT.of upd_same), rfl, rfl, _, rfl, ite2 (fun e => ?_) fun e => ?_⟩⟩
      · have ek := inE (l := [("cut" : Str), "shift"]) e
        have sp := same_new (o := .tup [.str "cut", .str "shift"]) hp
        have hb2 := hb'.keep (Keeps.same sp) fun _ z => z
        cases hb2 with
        | cut e1 e2 =>
          rename_i sa l x y ts
          exact ⟨_, rfl, b, _, 1, .int (l : Nat), rfl, rfl, SqT.of e1, rfl, _, rfl, b, _, 0, .str "cut", rfl, rfl, SqT.of e1, rfl, rfl, _, rfl, ite2 (fun _ => ⟨_, rfl, b, _, 3, .ref sa, rfl, rfl, SqT.of e1, rfl, by show 2 ≤ sizeLine; decide, fun p2 hp2 => fin _ sa l ts p2 sp hp2 e2 rfl⟩) fun z => absurd rfl z⟩
        | shift e1 e2 =>
          rename_i sa l x y ts
          exact ⟨_, rfl, b, _, 1, .int (l : Nat), rfl, rfl, SqT.of e1, rfl, _, rfl, b, _, 0, .str "shift", rfl, rfl, SqT.of e1, rfl, rfl, _, rfl, ite2 (fun z => absurd (strE z) (by decide)) fun _ => ⟨_, rfl, b, _, 2, .ref sa, rfl, rfl, SqT.of e1, rfl, by show 2 ≤ sizeLine; decide, fun p2 hp2 => fin _ sa l ts p2 sp hp2 e2 rfl⟩⟩
        | set _ _ => exact absurd ek (by simp only [kindR]; decide)
        | join _ => exact absurd ek (by simp only [kindR]; decide)
        | mark _ => exact absurd ek (by simp only [kindR]; decide)
        | quit _ => exact absurd ek (by simp only [kindR]; decide)
        | ifr _ _ _ _ _ _ _ _ => exact absurd ek (by simp only [kindR]; decide)
      · have ek : ¬ kindR row ∈ [("cut" : Str), "shift"] := inN (l := [("cut" : Str), "shift"]) e
        have sp := same_new (o := .tup [.str "cut", .str "shift"]) hp
        have em : mvOf row = none := by
          cases row with
          | cut l x ts y => exact absurd (by simp only [kindR]; decide) ek
          | shift l ts x y => exact absurd (by simp only [kindR]; decide) ek
          | _ => rfl
        refine ⟨out, sH.trans sp, sp _ _ hD1, ?_⟩
        rw [mvs_snoc hrow, em]
        show Paired _ out (mvs (told.take i) ++ [])
        rw [List.append_nil]
        exact Paired.mapP pr fun _ _ e => e.keep fun b xs z => sp _ _ z
    · rintro H1 ⟨out, sH, hD1, pr⟩
      have full : told.take (refs.map V.ref).length = told := by
        rw [List.length_map, lT]
        exact List.take_length ..
      rw [full] at pr
      have lo := paired_sz pr
      have lm := mvs_len told
      have nD : H D = none := hD
      refine ⟨_, rfl, D, rfl, ⟨_, SqL.of hD1⟩, fun D2 hD2 => lc_list (K := K) (a := D) (xs := out.map V.ref) (fun i H' => Same H1 H' ∧ H' D2 = some (.lst (natL (oddL ((mvs told).take i))))) ⟨same_new hD2, upd_same⟩ (fun i H' _ h => SqL.of (h.1 _ _ hD1)) ?_ ?_⟩
      · rintro i x H' hi ⟨sm, hD3⟩
        obtain ⟨r, hr1, rfl⟩ := ref_item hi
        obtain ⟨y, hy, sa, g1, g2⟩ := paired_get pr hr1
        refine ⟨r, _, rfl, SqT.of (sm _ _ g1), rfl, _, _, rfl, _, _, rfl, rfl, rfl, ?_⟩
        obtain ⟨rs, k1, k2⟩ := g2
        have gd := (mvs_good hdv y (List.mem_of_getElem? hy)).few
        have lrs := paired_sz k2
        refine ⟨_, rfl, sa, rfl, ⟨_, SqT.of (sm _ _ k1)⟩, fun D3 hD5 => lc_tup (K := K) (a := sa) (xs := rs.map V.ref) (fun j H2 => Same H' H2 ∧ H2 D3 = some (.lst (((y.2.take j).map fun t => !decide (t.2 ∈ PLAINL)).map V.bl))) ⟨same_new hD5, upd_same⟩ (fun j H2 _ h => SqT.of (h.1 _ _ (sm _ _ k1))) ?_ ?_⟩
        · rintro j x H2 hj ⟨s2, hn⟩
          obtain ⟨r2, hr2, rfl⟩ := ref_item hj
          obtain ⟨g, hg, hg2⟩ := paired_get k2 hr2
          refine ⟨r2, _, rfl, SqT.of (s2 _ _ (sm _ _ hg2)), rfl, _, _, rfl, _, _, rfl, rfl, rfl, ?_⟩
          refine ⟨_, rfl, aN, _, rfl, .inr (tN _), flat_name g.2, rfl, _, hn, ?_, fun u o e => ?_, ?_⟩
          · rw [List.length_map, List.length_map]
            exact Nat.lt_of_le_of_lt (Nat.le_trans (List.length_take_le' _ _) gd) (by decide)
          · rw [upd_ne (fun z => by rw [z, hD5] at e; cases e)]
            exact s2 _ _ e
          · have ik : (if true = true then !inV (nameV g.2) PLAINV else inV (nameV g.2) PLAINV) = !decide (g.2 ∈ PLAINL) := by
              rw [if_pos rfl, inV_plain]
            rw [upd_same, map_snoc hg, List.map_append, ik]
            rfl
        · rintro H2 ⟨s2, hn⟩
          have e2 : y.2.take (rs.map V.ref).length = y.2 := by
            rw [List.length_map, lrs]
            exact List.take_length ..
          rw [e2] at hn
          have d4 := s2 _ _ hD3
          have li : (oddL ((mvs told).take i)).length ≤ 2000 := by
            have a := oddL_len ((mvs told).take i)
            have b := List.length_take_le' i (mvs told)
            omega
          have st : ∀ {acc}, Same H1 (upd H2 D2 (.lst acc)) := fun {acc} u o e => by
            rw [upd_ne (fun z => by rw [z, hD2] at e; cases e)]
            exact s2 _ _ (sm _ _ e)
          refine ⟨D3, _, rfl, SqL.of hn, _, rfl, ?_⟩
          rw [any_odd]
          cases ho : oddSum y.2 with
          | true =>
            refine ⟨_, rfl, _, d4, ?_, st, ?_⟩
            · rw [List.length_map]
              exact Nat.lt_of_le_of_lt li (by decide)
            · rw [upd_same, oddL_snoc hy, if_pos ho]
              unfold natL
              rw [List.map_append]
              rfl
          | false =>
            refine ⟨sm.trans s2, ?_⟩
            rw [oddL_snoc hy, if_neg (by rw [ho]; decide), List.append_nil]
            exact d4
      · rintro H2 ⟨sm, hD3⟩
        have f2 : (mvs told).take (out.map V.ref).length = mvs told := by
          rw [List.length_map, lo]
          exact List.take_length ..
        rw [f2, ← moves_two] at hD3
        exact q D2 H2 (sH.trans sm) (sH.back hD2) hD3
end
end Pk
namespace Pk
open L2 PyProof.Rows PySem.Spec PySem
abbrev sProduct : Stmt := inClass (top 49) 5
def spProduct (C : Addr) : Sp := fun vs H Q _ => ∃ (r : Addr) (sty : Str) (cap low root : V) (x1 x2 : Share), vs = [.ref r] ∧ RulesAt C H r sty cap low root x1 x2 ∧ Q (.int ((lineM x1).d * (lineM x2).d)) H
section
variable {K : PySem.W.Frag} {P : Program} {w : World} {base : Heap} {mg : Str → Option Value} {C fI : Addr}
theorem sc_Rules_product : FnScope ["self"] ["self"] (defScope sProduct) := ⟨rfl, rfl, rfl, by decide +kernel, rfl, by decide +kernel, by decide +kernel⟩
theorem ok_Rules_product {f : Addr} {fd : FuncData} (F : FunD K "product" "Rules.product" (defArgs sProduct) (defBody sProduct) (defScope sProduct) [] [] f fd) (RC : RulesC K mg C fI) : FnOk P w K mg base CX0 1 f fd ["self"] (spProduct C) := by
  refine F.ok sc_Rules_product (fun vs H Q E h => ?_) (fun cdv A outer s H vs Q E hr h => ?_)
  · obtain ⟨r, sty, cap, low, root, x1, x2, rfl, _⟩ := h
    rfl
  · obtain ⟨r, sty, cap, low, root, x1, x2, rfl, R, q⟩ := h
    obtain ⟨dx, os, p1, p2, cs, ls, h1, h2, h3, h4, h5, h6, h7, h8⟩ := R
    refine ⟨_, PSs.nox (pss_one (by exact (ps_ret (pe_op op_mul (pe_ix (ix_tupK K rfl) (pe_fld (pv 0) rfl) pe_int (fun _ _ => rfl)) (pe_ix (ix_tupK K rfl) (pe_fld (pv 0) rfl) pe_int (fun _ _ => rfl)))))), ?_⟩
    have d1 := (shareV_lt h2).2.2.2
    exact ⟨_, rfl, r, C, dx, _, .ref cs, rfl, h1, RC.cls, RC.no _ (by simp), rfl, cs, _, 2, _, rfl, rfl, SqT.of h7, rfl, _, rfl, r, C, dx, _, .ref ls, rfl, h1, RC.cls, RC.no _ (by simp), rfl, ls, _, 2, _, rfl, rfl, SqT.of h8, rfl, _, _, rfl, rfl, .inl ⟨by omega, by omega⟩, q⟩
theorem cut_one (xs : List V) : cutV xs (some 3) (some 4) = (xs.drop 3).take 1 := by
  unfold cutV
  rw [show (3 : Int) = ((3 : Nat) : Int) from rfl, show (4 : Int) = ((4 : Nat) : Int) from rfl, HT.sIx_nat, HT.sIx_nat]
  rcases Nat.lt_or_ge xs.length 4 with h | h
  · rcases Nat.lt_or_ge 3 xs.length with h3 | h3
    · omega
    · rw [List.drop_eq_nil_of_le h3, List.drop_eq_nil_of_le (by omega), List.take_nil, List.take_nil]
  · rw [Nat.min_eq_left (show 3 ≤ xs.length by omega), Nat.min_eq_left h]
theorem least_is : ∀ (ls : List Nat) (l : Nat), ls.foldl min l ∈ l :: ls ∧ ∀ y ∈ l :: ls, ls.foldl min l ≤ y
  | [], l => ⟨by simp, fun y h => by rw [List.mem_singleton.mp h]; exact Nat.le_refl _⟩
  | x :: ls, l => by
    obtain ⟨h1, h2⟩ := least_is ls (min l x)
    rw [List.foldl_cons]
    refine ⟨?_, fun y hy => ?_⟩
    · rcases List.mem_cons.mp h1 with e | e
      · rw [e]
        rcases Nat.le_total l x with h | h
        · rw [Nat.min_eq_left h]
          simp
        · rw [Nat.min_eq_right h]
          simp
      · simp [e]
    · have h0 := h2 _ (List.mem_cons_self ..); rcases List.mem_cons.mp hy with e | e
      · rw [e]
        exact Nat.le_trans h0 (Nat.min_le_left _ _)
      · rcases (List.mem_cons.mp e) with e | e
        · rw [e]
          exact Nat.le_trans h0 (Nat.min_le_right _ _)
        · exact h2 y (List.mem_cons_of_mem _ e)
theorem limits_few {rows : List Row} {taken : Bool} {product : Nat} (h : ¬ countM rows > 7) : limitsM rows taken product = (match wrongM rows taken product with
    | [] => .fine
    | l :: ls => .refused (ls.foldl min l)) := by
  unfold limitsM
  rw [if_neg h]
  all_goals (cases wrongM rows taken product <;> rfl)
def ErrTM (K : PySem.W.Frag) (what : Str) (many most : Nat) (H : Hp) (E : XK) : Prop := ∀ d H1, Same H H1 → H1 d = none → E (.ref (He.ga K "TooMany")) (some d) (upd H1 d (.xd [("most", .int (most : Nat)), ("many", .int (many : Nat)), ("what", .str what)]))
def spLimits (K : PySem.W.Frag) (C : Addr) : Sp := fun vs H Q E => ∃ (a r : Addr) (fr : Addr → Prop) (rr : List Addr) (rows : List Row) (sty : Str) (cap low root : V) (x1 x2 : Share), vs = [.ref a, .ref r] ∧ H a = some (.lst (rr.map V.ref)) ∧ RowsAt fr H rr rows ∧ divsM rows ∧ depthM rows < 42 ∧ sizeM rows ≤ 40 ∧ RulesAt C H r sty cap low root x1 x2 ∧
  (limitsM rows (decide (sty = "taken")) ((lineM x1).d * (lineM x2).d) = .fine → ∀ H', Same H H' → Q .non H') ∧
  (∀ n, limitsM rows (decide (sty = "taken")) ((lineM x1).d * (lineM x2).d) = .many n → ErrTM K "ifs" n 7 H E) ∧
  (∀ l, limitsM rows (decide (sty = "taken")) ((lineM x1).d * (lineM x2).d) = .refused l → Err1 K "Refused" "line" (.int (l : Nat)) H E)
theorem sc_need_limits : FnScope ["rows", "rules", "many", "wrong", "told", "goes_on", "line"] ["rows", "rules"] (defScope sLimits) := ⟨rfl, rfl, rfl, by decide +kernel, rfl, by decide +kernel, by decide +kernel⟩
theorem ok_need_limits {f fC fK fW fT fM fP : Addr} {fd fdC fdK fdW fdT fdM fdP : FuncData} (F : FunD K "need_limits" "need_limits" (defArgs sLimits) (defBody sLimits) (defScope sLimits) [] [] f fd) (RC : RulesC K mg C fI) (ER : Errs P K mg)
    (FC : FunD K "count_ifs" "count_ifs" (defArgs sCount) (defBody sCount) (defScope sCount) [] [] fC fdC) (GC : FnOk P w K mg base CX0 43 fC fdC ["rows"] (spCount 42)) (gC : mg "count_ifs" = some (.ref fC))
    (FK : FunD K "marks_of" "marks_of" (defArgs sMarks) (defBody sMarks) (defScope sMarks) [] [] fK fdK) (GK : FnOk P w K mg base CX0 43 fK fdK ["rows"] (spMarks 42)) (gK : mg "marks_of" = some (.ref fK))
    (FW : FunD K "ways_of" "ways_of" (defArgs sWays) (defBody sWays) (defScope sWays) [] [] fW fdW) (GW : FnOk P w K mg base CX0 85 fW fdW ["rows"] (spWays 42)) (gW : mg "ways_of" = some (.ref fW))
    (FT : FunD K "too_much" "too_much" (defArgs sMuch) (defBody sMuch) (defScope sMuch) [] [] fT fdT) (GT : FnOk P w K mg base CX0 1 fT fdT ["told", "product"] spMuch) (gT : mg "too_much" = some (.ref fT))
    (FM : FunD K "moves_of" "moves_of" (defArgs sMoves) (defBody sMoves) (defScope sMoves) [] [] fM fdM) (GM : FnOk P w K mg base CX0 1 fM fdM ["told"] spMoves) (gM : mg "moves_of" = some (.ref fM))
    (FP : FunD K "product" "Rules.product" (defArgs sProduct) (defBody sProduct) (defScope sProduct) [] [] fP fdP) (GP : FnOk P w K mg base CX0 1 fP fdP ["self"] (spProduct C)) (mP : Meth K C "product" fP)
    (mLen : mg "len" = none) (mInt : mg "int" = none) (mMin : mg "min" = none) (gMI : ∃ u, mg "MOST_IFS" = some u ∧ RelV (.int 7) u) (gMM : ∃ u, mg "MOST_MOVES" = some u ∧ RelV (.int 3) u) : FnOk P w K mg base (L2.CX P w) 86 f fd ["rows", "rules"] (spLimits K C) := by
  have bC : Binds K fdC ["rows"] [] := FC.bindsN fun _ _ _ _ _ _ us hl => match us, hl with | [_], _ => rfl
  have bK : Binds K fdK ["rows"] [] := FK.bindsN fun _ _ _ _ _ _ us hl => match us, hl with | [_], _ => rfl
  have bW : Binds K fdW ["rows"] [] := FW.bindsN fun _ _ _ _ _ _ us hl => match us, hl with | [_], _ => rfl
  have bT : Binds K fdT ["told", "product"] [] := FT.bindsN fun _ _ _ _ _ _ us hl => match us, hl with | [_, _], _ => rfl
  have bM : Binds K fdM ["told"] [] := FM.bindsN fun _ _ _ _ _ _ us hl => match us, hl with | [_], _ => rfl
  have bP : Binds K fdP ["self"] [] := FP.bindsN fun _ _ _ _ _ _ us hl => match us, hl with | [_], _ => rfl
  refine F.ok sc_need_limits (fun vs H Q E h => ?_) (fun cdv A outer s H vs Q E hr h => ?_)
  · obtain ⟨a, r, fr, rr, rows, sty, cap, low, root, x1, x2, rfl, _⟩ := h
    rfl
  · obtain ⟨a, r, fr, rr, rows, sty, cap, low, root, x1, x2, rfl, ha, hrr, hdv, hd, hs, R, q0, qm, qr⟩ := h
    obtain ⟨fdR, IRefused⟩ := ER.iRefused
    obtain ⟨fdM2, ITooMany⟩ := ER.iTooMany
    refine ⟨_, (pss_cons (by exact (ps_set (i := 2) sc_need_limits.nd rfl (Or.inl rfl) (pe_call GC (hr.mono (by omega)) rfl gC FC.kp bC .nil pass0 (pa_cons (pv 0) pa_nil)))) (pss_cons (by exact (ps_if (pt_cmpR op_gt (pv 2) (C8.pe_gc (v := .int 7) rfl gMI) (nomark _)) (pss_one (by exact (ps_raise rfl (takes_of rfl rfl rfl rfl) (pmk_sup3 ITooMany.sup (okITooMany ITooMany ER.mS ER.hP) (hr.mono (by decide)) (bITooMany ITooMany) pass0 rfl pe_str (pv 2) (C8.pe_gc (v := .int 7) rfl gMI))))) pss_nil)) (C8.pss_cut (by exact (ps_set (i := 3) sc_need_limits.nd rfl (Or.inl rfl) (pe_ifExp (pt_cmpR op_eq (pe_fld (pv 1) rfl) pe_str (nomark _)) (pe_call GK (hr.mono (by omega)) rfl gK FK.kp bK .nil pass0 (pa_cons (pv 0) pa_nil)) (pe_lst pa_nil)))) (pss_cons (by exact (ps_for (passes_of rfl) rfl (pi_list (pe_call GW (hr.mono (by omega)) rfl gW FW.kp bW .nil pass0 (pa_cons (pv 0) pa_nil))) (pg_tupK (n := 2) K rfl rfl (pgs_cons (pg_name (i := 4) sc_need_limits.nd rfl (Or.inl rfl)) (pgs_cons (pg_name (i := 5) sc_need_limits.nd rfl (Or.inl rfl)) pgs_nil))) (pss_one (by exact (ps_expr (pe_bm PySem.F.plainAttrs_list PySem.F.slot_list_extend PySem.F.type_list_extend mt_extend (pv 3) (pa_cons (pe_lst (StX.pa_starK K rfl (pe_call GT (hr.mono (by omega)) rfl gT FT.kp bT .nil pass0 (pa_cons (pv 4) (pa_cons (pe_meth0 (pv 1) RC.cls mP GP (hr.mono (by omega)) bP .nil pass0) pa_nil))) (StX.pa_starK K rfl (pe_slice (sl_listK K rfl) (pe_call GM (hr.mono (by omega)) rfl gM FM.kp bM .nil pass0 (pa_cons (pv 4) pa_nil)) (po_some (C8.pe_gc (v := .int 3) rfl gMM)) (po_some (pe_op op_add (C8.pe_gc (v := .int 3) rfl gMM) pe_int))) pa_nil))) pa_nil))))))) (pss_one (by exact (ps_if (pt_cmpR op_gt (pe_callB call_len_seq (by rfl) mLen PySem.boot_len (pa_cons (pv 3) pa_nil)) pe_int (nomark _)) (pss_one (by exact (ps_raise rfl (takes_of rfl rfl rfl rfl) (pmk_sup1 IRefused.sup (okIRefused IRefused ER.mS ER.hP) (hr.mono (by decide)) (bIRefused IRefused) pass0 rfl (pe_callB (cr_min rfl) (by rfl) mMin (by decide +kernel) (pa_cons (pe_lc (own := [("line", 6)]) (g := gName 6) (tt := tYes) rfl sc_need_limits.nd (pi_list (pv 3)) (blkOk_by (N := ["rows", "rules", "many", "wrong", "told", "goes_on", "line"]) (sc := defScope sLimits) (by decide +kernel)) (fun _ _ _ _ _ => pg_name (i := 6) sc_need_limits.nd rfl (Or.inl rfl)) (fun _ _ _ _ _ => pts_nil) (fun _ _ _ _ _ => (pe_callTy call_int1 (by rfl) mInt (by decide +kernel) (pa_cons (pv 6) pa_nil)))) pa_nil)))))) pss_nil))))))), ?_⟩
    refine ⟨_, rfl, a, fr, rr, rows, rfl, ha, hrr, hd, by omega, fun H1 s1 => ?_⟩
    refine ⟨_, rfl, _, _, rfl, rfl, _, rfl, ite2 (fun e => ?_) fun e => ?_⟩
    · have e1 : countM rows > 7 := by
        have := of_decide_eq_true e
        omega
      exact ⟨_, rfl, fun d hd => qm (countM rows) (by unfold limitsM; rw [if_pos e1]) d H1 s1 hd⟩
    · have e1 : ¬ countM rows > 7 := fun z => e (decide_eq_true (by omega))
      rw [limits_few e1] at q0 qm qr
      have R1 := R.same s1
      obtain ⟨dx, os, p1, p2, cs, ls, hR, _⟩ := id R1
      have hrr1 := (rows_own hrr).keep (Keeps.same s1) fun _ z => z
      refine ⟨fun σ H2 => ∃ wr, σ = [some (.ref a), some (.ref r), some (.int (countM rows : Nat)), some (.ref wr), none, none, none] ∧ Same H H2 ∧ H wr = none ∧ H2 wr = some (.lst (natL (if decide (sty = "taken") = true then marksM rows else []))), ?_, ?_⟩
      · refine ⟨_, rfl, r, C, dx, _, .str sty, rfl, hR, RC.cls, RC.no _ (by simp), rfl, rfl, _, rfl, ite2 (fun e2 => ?_) fun e2 => ?_⟩
        · refine ⟨_, rfl, a, _, rr, rows, rfl, s1 _ _ ha, hrr1, hd, by omega, fun wr H2 s2 n2 h2 => ⟨wr, rfl, s1.trans s2, s1.back n2, ?_⟩⟩
          rw [if_pos (decide_eq_true (strE e2))]
          exact h2
        · refine ⟨by show 0 ≤ sizeLine; decide, fun wr hwr => ⟨wr, rfl, s1.step hwr, s1.back hwr, ?_⟩⟩
          rw [if_neg (fun z => strN e2 (of_decide_eq_true z))]
          exact upd_same
      · rintro σ H2 ⟨wr, rfl, s2, nw, hw⟩
        have hrr2 := (rows_own hrr).keep (Keeps.same s2) fun _ z => z
        refine ⟨_, rfl, a, _, rr, rows, rfl, s2 _ _ ha, hrr2, hd, by omega, by omega, fun pw ps H3 s3 n3 h3 w3 => ?_⟩
        have w3 : Paired (WayAt (fun x => fr x ∧ H x ≠ none) (fun x => x ≠ wr) H3) ps (waysM rows) := Paired.mapP w3 fun _ _ e => e.same (Same.refl _) (fun _ z => z) fun x z e => by rw [e, hw] at z; cases z
        have lw := ways_few (rows := rows) (by omega)
        have lp := paired_sz w3
        have pww : pw ≠ wr := fun z => by rw [z, hw] at n3; cases n3
        generalize hw0 : (if decide (sty = "taken") = true then marksM rows else []) = w0 at hw
        have lw0 : w0.length ≤ 40 := by
          rw [← hw0]
          have := marksM_len rows
          split
          · omega
          · exact Nat.zero_le _
        have lone : ∀ w ∈ waysM rows, w.1.length ≤ 40 ∧ wayDiv w := fun w hw => by
          have := ways_told rows [([], true)] 0 (fun w hw => by rw [List.mem_singleton.mp hw]; exact Nat.le_refl _) w hw
          refine ⟨by omega, ways_div rows _ hdv (fun w hw => ?_) w hw⟩
          rw [List.mem_singleton.mp hw]
          exact fun x hx => absurd hx (List.not_mem_nil)
        have lmuch : ∀ (told : List Row) (p : Nat), (tooMuchM told p).length ≤ 2 * told.length := fun told p => by
          have := much_len told ⟨[], 0, p, []⟩
          have l2 : ([] : List Nat).length = 0 := rfl
          unfold tooMuchM
          dsimp only at this
          omega
        have lfl : ∀ i, (((waysM rows).take i).flatMap fun w => tooMuchM w.1 ((lineM x1).d * (lineM x2).d) ++ ((movesM w.1).drop 3).take 1).length ≤ 128 * 81 := fun i => by
          refine Nat.le_trans (flatMap_le _ 81 _ fun w hw => ?_) (Nat.mul_le_mul_right _ (Nat.le_trans (List.length_take_le' _ _) lw))
          have a := lmuch w.1 ((lineM x1).d * (lineM x2).d)
          have b := (lone w (List.mem_of_mem_take hw)).1
          have c : (((movesM w.1).drop 3).take 1).length ≤ 1 := List.length_take_le _ _
          rw [List.length_append]
          omega
        refine ⟨pw, rfl, ⟨_, SqL.of h3⟩, for_list (K := K) (a := pw) (xs := ps.map V.ref) (fun i σ H' => ∃ (v4 v5 : Option V), σ = [some (.ref a), some (.ref r), some (.int (countM rows : Nat)), some (.ref wr), v4, v5, none] ∧ Same H H' ∧ H' pw = some (.lst (ps.map V.ref)) ∧ H' wr = some (.lst (natL (w0 ++ ((waysM rows).take i).flatMap fun w => tooMuchM w.1 ((lineM x1).d * (lineM x2).d) ++ ((movesM w.1).drop 3).take 1))) ∧ Paired (WayAt (fun x => fr x ∧ H x ≠ none) (fun x => x ≠ wr) H') ps (waysM rows)) ?_ (fun i σ H' _ ⟨_, _, _, _, h, _⟩ => SqL.of h) ?_ ?_⟩
        · refine ⟨none, none, rfl, s2.trans s3, h3, ?_, w3⟩
          rw [List.take_zero, List.flatMap_nil, List.append_nil]
          exact s3 _ _ hw
        · rintro i x σ H' hi ⟨v4, v5, rfl, sH, hpw, hwr, wp⟩
          obtain ⟨r3, hr3, rfl⟩ := ref_item hi
          obtain ⟨y, hy, a3, refs3, g0, g1, g2, g3⟩ := paired_get wp hr3
          obtain ⟨ly, gy⟩ := lone y (List.mem_of_getElem? hy)
          have R' := R.same sH
          obtain ⟨dx', os', _, _, _, _, hR', _⟩ := id R'
          refine ⟨r3, _, rfl, SqT.of g1, rfl, _, _, rfl, _, _, rfl, rfl, ?_⟩
          refine ⟨_, rfl, .inl ⟨rfl, _, SqL.of hwr⟩, _, rfl, _, rfl, r, dx', _, rfl, hR', rfl, r, sty, cap, low, root, x1, x2, rfl, R', a3, _, refs3, y.1, (lineM x1).d * (lineM x2).d, rfl, g2, g3, gy, by omega, fun p5 H5 s5 n5 h5 => ⟨p5, _, rfl, .inr (SqL.of h5), ?_⟩⟩
          refine ⟨_, rfl, a3, _, refs3, y.1, rfl, s5 _ _ g2, g3.keep (Keeps.same s5) fun _ z => z, gy, by omega, fun p6 H6 s6 n6 h6 => ⟨_, rfl, _, _, rfl, rfl, _, rfl, p6, _, rfl, SqL.of h6, fun p7 hp7 => ⟨p7, _, rfl, .inr (SqL.of upd_same), ?_⟩⟩⟩
          have eL : natL (tooMuchM y.1 ((lineM x1).d * (lineM x2).d)) ++ (cutV (natL (movesM y.1)) (some 3) (some (3 + 1)) ++ []) = natL (tooMuchM y.1 ((lineM x1).d * (lineM x2).d) ++ ((movesM y.1).drop 3).take 1) := by
            rw [List.append_nil, show (3 + 1 : Int) = 4 from rfl, cut_one]
            unfold natL
            rw [List.map_append, List.map_take, List.map_drop]
          have s7 := s6.step (o := .lst (cutV (natL (movesM y.1)) (some 3) (some (3 + 1)))) hp7
          have ll : (tooMuchM y.1 ((lineM x1).d * (lineM x2).d) ++ ((movesM y.1).drop 3).take 1).length ≤ 81 := by
            have a := lmuch y.1 ((lineM x1).d * (lineM x2).d)
            have c : (((movesM y.1).drop 3).take 1).length ≤ 1 := List.length_take_le _ _
            rw [List.length_append]
            omega
          dsimp only [tNil]
          rw [eL]
          refine ⟨by rw [List.length_map]; exact Nat.le_trans ll (by decide), fun p8 hp8 => ?_⟩
          have s8 := s7.step (o := .lst (natL (tooMuchM y.1 ((lineM x1).d * (lineM x2).d) ++ ((movesM y.1).drop 3).take 1))) hp8
          have s9 := s5.trans s8
          refine ⟨wr, p8, _, _, rfl, rfl, s9 _ _ hwr, upd_same, ?_, ?_⟩
          · rw [List.length_map, List.length_map, List.length_append]
            have := lfl i
            exact Nat.le_trans (m := 40 + 128 * 81 + 81) (by omega) (by decide)
          · refine ⟨_, _, rfl, ?_, ?_, ?_, ?_⟩
            · exact fun u o e => by
                rw [upd_ne (fun z => by rw [z, nw] at e; cases e)]
                exact s9 _ _ (sH _ _ e)
            · rw [upd_ne pww]
              exact s9 _ _ hpw
            · rw [upd_same, flatMap_snoc hy, ← List.append_assoc]
              unfold natL
              rw [List.map_append (l₁ := w0 ++ _)]
            · exact Paired.mapP wp fun _ _ e => e.grow hwr s9 (fun z => z.2 nw) fun z => z rfl
        · rintro σ H4 ⟨v4, v5, rfl, sH, hpw, hwr, wp⟩
          have full : (waysM rows).take (ps.map V.ref).length = waysM rows := by
            rw [List.length_map, lp]
            exact List.take_length ..
          rw [full] at hwr
          have eW : w0 ++ ((waysM rows).flatMap fun w => tooMuchM w.1 ((lineM x1).d * (lineM x2).d) ++ ((movesM w.1).drop 3).take 1) = wrongM rows (decide (sty = "taken")) ((lineM x1).d * (lineM x2).d) := by
            rw [← hw0]
            rfl
          rw [eW] at hwr
          have lfw : (wrongM rows (decide (sty = "taken")) ((lineM x1).d * (lineM x2).d)).length ≤ 40 + 128 * 81 := by
            rw [← eW, List.length_append]
            have := lfl (waysM rows).length
            rw [List.take_length] at this
            omega
          generalize wrongM rows (decide (sty = "taken")) ((lineM x1).d * (lineM x2).d) = wr0 at hwr lfw q0 qm qr
          refine ⟨_, rfl, wr, _, rfl, .inl (SqL.of hwr), _, _, rfl, rfl, _, rfl, ite2 (fun e => ?_) fun e => ?_⟩
          · cases wr0 with
            | nil => cases e
            | cons l ls0 =>
              have le := least_is ls0 l
              generalize hm : ls0.foldl min l = least at le qr
              refine ⟨_, rfl, wr, rfl, ⟨_, SqL.of hwr⟩, fun D hD => lc_list (K := K) (a := wr) (xs := natL (l :: ls0)) (fun i H' => Same H4 H' ∧ H' D = some (.lst (natL ((l :: ls0).take i)))) ⟨same_new hD, upd_same⟩ (fun i H' _ h => SqL.of (h.1 _ _ hwr)) ?_ ?_⟩
              · rintro i x H' hi ⟨sm, hD1⟩
                rw [List.getElem?_map] at hi
                cases hg : (l :: ls0)[i]? with
                | none => rw [hg] at hi; cases hi
                | some z =>
                  rw [hg] at hi
                  cases hi
                  refine ⟨rfl, ?_⟩
                  refine ⟨_, rfl, .inl ⟨_, rfl, _, hD1, ?_, fun u o e => ?_, ?_⟩⟩
                  · rw [List.length_map]
                    exact Nat.lt_of_le_of_lt (Nat.le_trans (List.length_take_le' _ _) lfw) (by decide)
                  · rw [upd_ne (fun z => by rw [z, hD] at e; cases e)]
                    exact sm _ _ e
                  · rw [upd_same, take_snoc hg]
                    unfold natL
                    rw [List.map_append]
                    rfl
              · rintro H5 ⟨sm, hD1⟩
                have f2 : (l :: ls0).take (natL (l :: ls0)).length = l :: ls0 := by
                  rw [List.length_map]
                  exact List.take_length ..
                rw [f2] at hD1
                have e3 : natL (l :: ls0) = (((l :: ls0).map fun n : Nat => (n : Int)).map V.int) := by
                  unfold natL
                  rw [List.map_map]
                  rfl
                rw [e3] at hD1
                refine ⟨D, _, rfl, SqL.of hD1, by rw [List.length_map, List.length_cons]; omega, fun m h1 h2 d hd => ?_⟩
                obtain ⟨m', hm', rfl⟩ := List.mem_map.mp h1
                have a1 := le.2 m' hm'
                have a2 := h2 _ (List.mem_map.mpr ⟨least, le.1, rfl⟩)
                have e4 : m' = least := by omega
                rw [e4]
                exact qr least (by rw [← hm]) d H5 (sH.trans sm) hd
          · cases wr0 with
            | nil => exact q0 rfl H4 sH
            | cons l ls0 => exact absurd (decide_eq_true (by rw [List.length_map, List.length_cons]; omega)) e
end
end Pk
namespace Pk
open L2 PyProof.Rows PySem.Spec PySem
abbrev sEqR : Stmt := inClass (top 49) 9
/-- what is compared of two rules -/
structure RK where
  sty : Str
  cap : Str
  low : Str
  root : Bool
deriving DecidableEq
/-- at r: rules of these texts -/
def RulesK (C : Addr) (H : Hp) (r : Addr) (k : RK) : Prop := ∃ x1 x2, RulesAt C H r k.sty (.str k.cap) (.str k.low) (.bl k.root) x1 x2
structure InsIs (K : PySem.W.Frag) (C : Addr) : Prop where
  ha : (PySem.W.findIn K (.ref C) "__class__") = some (some (.builtin "object.__class__"))
  hn : (PySem.W.specialIn K (.builtin "object.__class__") "__get__") = some (some (.builtin "getset_descriptor.__get__"))
  ht : (PySem.W.takesIn K (.builtin "object.__class__")) = some true
  hm : (PySem.W.mroIn K C (.type "object")) = some true
  self : PySem.W.kitOne K (.ref C) (.ref C) = some true
  tup : PySem.W.kitOne K (.type "tuple") (.ref C) = some false
def rkD (k : RK) : PyData := .tuple [.str k.sty, .str k.cap, .str k.low, .bool k.root]
def spEqR (K : PySem.W.Frag) (C : Addr) : Sp := fun vs H Q _ => ∃ (r : Addr) (k : RK) (y : V), vs = [.ref r, y] ∧ RulesK C H r k ∧
  ((∃ a xs, y = .ref a ∧ H a = some (.tup xs) ∧ Q (.bl false) H) ∨ ∃ r2 k2, y = .ref r2 ∧ RulesK C H r2 k2 ∧ (rkD k).canLay0 = true ∧ (rkD k2).canLay0 = true ∧ ∀ H', Same H H' → Q (.bl (decide (k = k2))) H')
theorem rk_eqv (a b : RK) : PyData.eqv (rkD a) (rkD b) = decide (a = b) := by
  obtain ⟨a1, a2, a3, a4⟩ := a
  obtain ⟨b1, b2, b3, b4⟩ := b
  simp only [rkD, PyData.eqv, PyData.eqvAll, Bool.and_true]
  by_cases h : (RK.mk a1 a2 a3 a4) = RK.mk b1 b2 b3 b4
  · rw [decide_eq_true h]
    cases h
    simp
  · rw [decide_eq_false h]
    simp only [RK.mk.injEq, not_and] at h
    simp only [Bool.and_eq_false_iff, beq_eq_false_iff_ne, ne_eq]
    by_cases h1 : a1 = b1
    · by_cases h2 : a2 = b2
      · by_cases h3 : a3 = b3
        · exact .inr (.inr (.inr (h h1 h2 h3)))
        · exact .inr (.inr (.inl h3))
      · exact .inr (.inl h2)
    · exact .inl h1
theorem rk_shaped {k : RK} (h : (rkD k).canLay0 = true) : SeqAt.shaped (rkD k) = true := by
  have d : (rkD k).depth ≤ 64 := by
    simp [rkD, PyData.depth, PyData.depthAll]
  exact Bool.and_eq_true_iff.mpr ⟨h, decide_eq_true d⟩
section
variable {K : PySem.W.Frag} {P : Program} {w : World} {base : Heap} {mg : Str → Option Value} {C fI : Addr}
theorem sc_Rules___eq__ : FnScope ["self", "other", "one"] ["self", "other"] (defScope sEqR) := ⟨rfl, rfl, rfl, by decide +kernel, rfl, by decide +kernel, by decide +kernel⟩
theorem ok_Rules_eq {f : Addr} {fd : FuncData} (F : FunD K "__eq__" "Rules.__eq__" (defArgs sEqR) (defBody sEqR) (defScope sEqR) [] [] f fd) (RC : RulesC K mg C fI) (II : InsIs K C) (mIsi : mg "isinstance" = none) : FnOk P w K mg base CX0 1 f fd ["self", "other"] (spEqR K C) := by
  refine F.ok sc_Rules___eq__ (fun vs H Q E h => ?_) (fun cdv A outer s H vs Q E hr h => ?_)
  · obtain ⟨r, k, y, rfl, _⟩ := h
    rfl
  · obtain ⟨r, k, y, rfl, ⟨x1, x2, R⟩, hy⟩ := h
    refine ⟨_, PSs.nox (pss_cons (by exact (ps_if (pt_not (pt_val (pe_callB call_isi (by rfl) mIsi PyProof.Rows.boot_isinstance (pa_cons (pv 1) (pa_cons (pe_glob (v := .ref C) (by rfl) RC.g rfl) pa_nil))))) (pss_one (by exact (ps_ret pe_bl))) pss_nil)) (pss_cons (by exact (ps_set (i := 2) sc_Rules___eq__.nd rfl (Or.inl rfl) (pe_tup (pa_cons (pe_fld (pv 0) rfl) (pa_cons (pe_fld (pv 0) rfl) (pa_cons (pe_fld (pv 0) rfl) (pa_cons (pe_fld (pv 0) rfl) pa_nil))))))) (pss_one (by exact (ps_ret (pe_cmpR (op_eqDK K rfl (Room.units hr)) (pv 2) (pe_tup (pa_cons (pe_fld (pv 1) rfl) (pa_cons (pe_fld (pv 1) rfl) (pa_cons (pe_fld (pv 1) rfl) (pa_cons (pe_fld (pv 1) rfl) pa_nil))))) (nomark _))))))), ?_⟩
    rcases hy with ⟨a, xs, rfl, ha, q⟩ | ⟨r2, k2, rfl, ⟨y1, y2, R2⟩, o1, o2, q⟩
    · refine ⟨_, rfl, .ref a, _, .type "tuple", _, _, rfl, .own C, .base (.tup ha), II.tup, _, rfl, ?_⟩
      exact q
    · obtain ⟨dx, os, p1, p2, cs, ls, h1, _⟩ := R
      obtain ⟨dx2, os2, p3, p4, cs2, ls2, h2, _⟩ := R2
      refine ⟨_, rfl, .ref r2, _, .ref C, _, _, rfl, .own C, .base (.ins h2 RC.cls II.ha II.hn II.ht II.hm), II.self, _, rfl, ?_⟩
      refine ⟨_, rfl, r, C, dx, _, .str k.sty, rfl, h1, RC.cls, RC.no _ (by simp), rfl, _, rfl, r, C, dx, _, .str k.cap, rfl, h1, RC.cls, RC.no _ (by simp), rfl, _, rfl, r, C, dx, _, .str k.low, rfl, h1, RC.cls, RC.no _ (by simp), rfl, _, rfl, r, C, dx, _, .bl k.root, rfl, h1, RC.cls, RC.no _ (by simp), rfl, by show 4 ≤ sizeLine; decide, fun t ht => ?_⟩
      refine ⟨_, rfl, _, rfl, r2, C, dx2, _, .str k2.sty, rfl, same_new ht _ _ h2, RC.cls, RC.no _ (by simp), rfl, _, rfl, r2, C, dx2, _, .str k2.cap, rfl, same_new ht _ _ h2, RC.cls, RC.no _ (by simp), rfl, _, rfl, r2, C, dx2, _, .str k2.low, rfl, same_new ht _ _ h2, RC.cls, RC.no _ (by simp), rfl, _, rfl, r2, C, dx2, _, .bl k2.root, rfl, same_new ht _ _ h2, RC.cls, RC.no _ (by simp), rfl, by show 4 ≤ sizeLine; decide, fun t2 ht2 => ?_⟩
      have s1 := same_new (o := .tup [.str k.sty, .str k.cap, .str k.low, .bl k.root]) ht
      have s2 := same_new (o := .tup [.str k2.sty, .str k2.cap, .str k2.low, .bl k2.root]) ht2
      refine ⟨rkD k, rkD k2, .tup (SqT.of (s2 _ _ upd_same)) (.cons (.str _) (.cons (.str _) (.cons (.str _) (.cons (.bl _) .nil)))), .tup (SqT.of upd_same) (.cons (.str _) (.cons (.str _) (.cons (.str _) (.cons (.bl _) .nil)))), rk_shaped o1, rk_shaped o2, ?_⟩
      rw [rk_eqv]
      exact q _ (s1.trans s2)
end
end Pk
namespace Pk
open L2 PyProof.Rows PySem.Spec PySem
abbrev sCodeI : Stmt := inClass (top 42) 0
def KINDL : List Str := ["over", "under"]
def kindV : V → Option Str
  | .str z => if z ∈ KINDL then some z else none
  | _ => none
/-- what comes of making a code -/
inductive CodeR where
  | badKind
  | lines (n : Nat)
  | line (l : Nat)
  | ifs (n : Nat)
  | refused (l : Nat)
  | made (kind : Str) (rows : List Row)
def codeM (k : V) (t : Str) (taken : Bool) (product : Nat) : CodeR := match kindV k with
  | none => .badKind
  | some kind => if (linesM t).length > 40 then .lines (linesM t).length else match readM t with
    | .error e => .line e
    | .ok rows => match limitsM rows taken product with
      | .fine => .made kind rows
      | .many n => .ifs n
      | .refused l => .refused l
/-- the error that tells it -/
def failM (k : V) : CodeR → Option (Str × List (Str × V))
  | .badKind => some ("BadKind", [("kind", k)])
  | .lines n => some ("TooMany", [("most", .int 40), ("many", .int (n : Nat)), ("what", .str "lines")])
  | .line l => some ("BadLine", [("line", .int (l : Nat))])
  | .ifs n => some ("TooMany", [("most", .int 7), ("many", .int (n : Nat)), ("what", .str "ifs")])
  | .refused l => some ("Refused", [("line", .int (l : Nat))])
  | .made _ _ => none
structure CodeC (K : PySem.W.Frag) (mg : Str → Option Value) (C fI : Addr) : Prop where
  cls : Cls K C
  made : Mk K C fI
  g : mg "Code" = some (.ref C)
  no : ∀ f ∈ (["kind", "rules", "text", "own_lines", "rows", "own_tables"] : List Str), NoAttr K C f
def codeF (kind : Str) (r : Addr) (t : Str) (ls ra tb : Addr) : List (Str × V) := [("kind", .str kind), ("rules", .ref r), ("text", .str t), ("own_lines", .ref ls), ("rows", .ref ra), ("own_tables", .ref tb)]
/-- at c: a code -/
structure CodeAt (C : Addr) (H : Hp) (c : Addr) (kind : Str) (r : Addr) (t : Str) (rows : List Row) (dx ls ra tb : Addr) (rr : List Addr) (fr : Addr → Prop) : Prop where
  h : H c = some (.ins C dx (codeF kind r t ls ra tb))
  ls : H ls = some (.lst ((linesM t).map V.str))
  ra : H ra = some (.lst (rr.map V.ref))
  rr : RowsAt fr H rr rows
  tb : H tb = some (.dK [])
theorem CodeAt.same {C : Addr} {H H' : Hp} {c : Addr} {kind : Str} {r : Addr} {t : Str} {rows : List Row} {dx ls ra tb : Addr} {rr : List Addr} {fr : Addr → Prop} (h : CodeAt C H c kind r t rows dx ls ra tb rr fr) (s : Same H H') : CodeAt C H' c kind r t rows dx ls ra tb rr fr :=
  ⟨s _ _ h.h, s _ _ h.ls, s _ _ h.ra, h.rr.keep (Keeps.same s) fun _ z => z, s _ _ h.tb⟩
theorem RulesAt.keepB {C : Addr} {H H' : Hp} {r c Cc dc : Addr} {sty : Str} {cap low root : V} {x1 x2 : Share} (h : RulesAt C H r sty cap low root x1 x2) (hc : H c = some (.ins Cc dc [])) (k : KeepB c H H') : RulesAt C H' r sty cap low root x1 x2 := by
  obtain ⟨dx, os, p1, p2, cs, ls, h1, h2, h3, h4, h5, h6, h7, h8⟩ := h
  have t : ∀ b xs, H b = some (.tup xs) → H' b = some (.tup xs) := fun b xs e => k b _ (fun z => by rw [z, hc] at e; cases e) e
  exact ⟨dx, os, p1, p2, cs, ls, k _ _ (fun z => by rw [z, hc] at h1; cases h1) h1, h2, h3, t _ _ h4, h5.tk t, h6.tk t, t _ _ h7, t _ _ h8⟩
def ErrB (K : PySem.W.Frag) (c : Addr) (x : Str) (fs : List (Str × V)) (H : Hp) (E : XK) : Prop := ∀ d H1, KeepB c H H1 → H1 d = none → E (.ref (He.ga K x)) (some d) (upd H1 d (.xd fs))
def spCodeI (K : PySem.W.Frag) (C RC : Addr) : Sp := fun vs H Q E => ∃ (c dx r : Addr) (k : V) (t : Str) (tk : Value) (sty : Str) (cap low root : V) (x1 x2 : Share), vs = [.ref c, k, .ref r, .str t] ∧ H c = some (.ins C dx []) ∧ Kd K H k tk ∧ okT t ∧ RulesAt RC H r sty cap low root x1 x2 ∧
  (∀ x fs, failM k (codeM k t (decide (sty = "taken")) ((lineM x1).d * (lineM x2).d)) = some (x, fs) → ErrB K c x fs H E) ∧
  ∀ kind rows, codeM k t (decide (sty = "taken")) ((lineM x1).d * (lineM x2).d) = .made kind rows → ∀ H' ls ra tb rr fr, KeepB c H H' → CodeAt C H' c kind r t rows dx ls ra tb rr fr → (∀ b, fr b → H b = none ∧ b ≠ c) → H ls = none → H ra = none → H tb = none → Q .non H'
section
variable {K : PySem.W.Frag} {P : Program} {w : World} {base : Heap} {mg : Str → Option Value} {C fI RC fRI : Addr}
theorem sc_Code___init__ : FnScope ["self", "kind", "rules", "text"] ["self", "kind", "rules", "text"] (defScope sCodeI) := ⟨rfl, rfl, rfl, by decide +kernel, rfl, by decide +kernel, by decide +kernel⟩
theorem ok_Code_init {f fR fL : Addr} {fd fdR fdL : FuncData} (F : FunD K "__init__" "Code.__init__" (defArgs sCodeI) (defBody sCodeI) (defScope sCodeI) [] [] f fd) (CC : CodeC K mg C fI) (ER : Errs P K mg)
    (FR : FunD K "read" "read" (defArgs sRead) (defBody sRead) (defScope sRead) [] [] fR fdR) (GR : FnOk P w K mg base (L2.CX P w) 89 fR fdR ["text"] (spRead K)) (gR : mg "read" = some (.ref fR))
    (FL : FunD K "need_limits" "need_limits" (defArgs sLimits) (defBody sLimits) (defScope sLimits) [] [] fL fdL) (GL : FnOk P w K mg base (L2.CX P w) 86 fL fdL ["rows", "rules"] (spLimits K RC)) (gL : mg "need_limits" = some (.ref fL))
    (mIsi : mg "isinstance" = none) (mStr : mg "str" = none) (mLen : mg "len" = none) (gML : ∃ u, mg "MOST_LINES" = some u ∧ RelV (.int 40) u) {aK : Addr} (gK : ∃ u, mg "KINDS" = some u ∧ RelV (.ref aK) u) (tK : ∀ H, SqT K H aK (KINDL.map V.str)) :
    FnOk P w K mg base (L2.CX P w) 90 f fd ["self", "kind", "rules", "text"] (spCodeI K C RC) := by
  have bR : Binds K fdR ["text"] [] := FR.bindsN fun _ _ _ _ _ _ us hl => match us, hl with | [_], _ => rfl
  have bL : Binds K fdL ["rows", "rules"] [] := FL.bindsN fun _ _ _ _ _ _ us hl => match us, hl with | [_, _], _ => rfl
  refine F.ok sc_Code___init__ (fun vs H Q E h => ?_) (fun cdv A outer s H vs Q E hr h => ?_)
  · obtain ⟨c, dx, r, k, t, tk, sty, cap, low, root, x1, x2, rfl, _⟩ := h
    rfl
  · obtain ⟨c, dx, r, k, t, tk, sty, cap, low, root, x1, x2, rfl, hC, kk, ht, R, qe, q⟩ := h
    obtain ⟨fdK, IBadKind⟩ := ER.iBadKind
    obtain ⟨fdT, ITooMany⟩ := ER.iTooMany
    refine ⟨_, (pss_cons (by exact (ps_if (PW.pt (pw_or (pt_not (pt_val (pe_callB call_isi (by rfl) mIsi PyProof.Rows.boot_isinstance (pa_cons (pv 1) (pa_cons (pe_bltn (v := .ty "str") (by rfl) mStr (by decide +kernel) rfl) pa_nil))))) (pw_or1 (pt_cmpR (op_notInK K rfl) (pv 1) (C8.pe_gc (v := .ref aK) rfl gK) rfl)))) (pss_one (by exact (ps_raise rfl (takes_of rfl rfl rfl rfl) (pmk_sup1 IBadKind.sup (okIBadKind IBadKind ER.mS ER.hP) (hr.mono (by decide)) (bIBadKind IBadKind) pass0 rfl (pv 1))))) pss_nil)) (pss_cons (by exact (ps_fld (pv 0) (pv 1) rfl)) (pss_cons (by exact (ps_fld (pv 0) (pv 2) rfl)) (pss_cons (by exact (ps_fld (pv 0) (pv 3) rfl)) (C8.pss_cut (by exact (ps_fld (pv 0) (pe_ifExp (pt_cmpR op_ne (pv 3) pe_str (nomark _)) (pe_split (pv 3) pe_str) (pe_lst pa_nil)) rfl)) (pss_cons (by exact (ps_if (pt_cmpR op_gt (pe_callB call_len_seq (by rfl) mLen PySem.boot_len (pa_cons (pe_fld (pv 0) rfl) pa_nil)) (C8.pe_gc (v := .int 40) rfl gML) (nomark _)) (pss_one (by exact (ps_raise rfl (takes_of rfl rfl rfl rfl) (pmk_sup3 ITooMany.sup (okITooMany ITooMany ER.mS ER.hP) (hr.mono (by decide)) (bITooMany ITooMany) pass0 rfl pe_str (pe_callB call_len_seq (by rfl) mLen PySem.boot_len (pa_cons (pe_fld (pv 0) rfl) pa_nil)) (C8.pe_gc (v := .int 40) rfl gML))))) pss_nil)) (pss_cons (by exact (ps_fld (pv 0) (pe_callS GR (hr.mono (by decide)) rfl gR FR.kp bR (fun σ => passAt (takes_of rfl rfl rfl rfl) σ) (pa_cons (pv 3) pa_nil)) rfl)) (pss_cons (by exact (ps_expr (pe_callS GL (hr.mono (by decide)) rfl gL FL.kp bL (fun σ => passAt (takes_of rfl rfl rfl rfl) σ) (pa_cons (pe_fld (pv 0) rfl) (pa_cons (pv 2) pa_nil))))) (pss_one (by exact (ps_fld (pv 0) pe_dnewK rfl))))))))))), ?_⟩
    refine ⟨_, rfl, k, _, tk, _, _, rfl, .ty "str", kk.ty, kk.st, _, rfl, ite2 (fun e => ?_) fun e => ?_⟩
    · refine ⟨_, rfl, fun dd hd => qe "BadKind" _ ?_ dd H (fun _ _ _ h => h) hd⟩
      cases k with
      | str z => cases e
      | _ => rfl
    obtain ⟨z, rfl⟩ : ∃ z, k = .str z := by
      cases k with
      | str z => exact ⟨z, rfl⟩
      | _ => exact absurd rfl e
    refine ⟨_, rfl, aK, _, rfl, .inr (tK _), rfl, flat_strs, _, rfl, ite2 (fun e2 => ?_) fun e2 => ?_⟩
    · have m := niE e2
      refine ⟨_, rfl, fun dd hd => qe "BadKind" _ ?_ dd H (fun _ _ _ h => h) hd⟩
      unfold codeM kindV
      dsimp only
      rw [if_neg m]
      rfl
    have m := niN e2
    have ek : kindV (.str z) = some z := if_pos m
    have no := CC.no
    refine ⟨_, rfl, _, rfl, c, C, dx, _, rfl, hC, CC.cls, no _ (by simp), by show 0 < 1000; decide, ?_⟩
    refine ⟨_, rfl, _, rfl, c, C, dx, _, rfl, upd_same, CC.cls, no _ (by simp), by show 1 < 1000; decide, ?_⟩
    refine ⟨_, rfl, _, rfl, c, C, dx, _, rfl, upd_same, CC.cls, no _ (by simp), by show 2 < 1000; decide, ?_⟩
    refine ⟨fun σ H1 => ∃ ls, σ = [some (.ref c), some (.str z), some (.ref r), some (.str t)] ∧ KeepB c H H1 ∧ H ls = none ∧ ls ≠ c ∧ H1 ls = some (.lst ((linesM t).map V.str)) ∧ H1 c = some (.ins C dx [("kind", .str z), ("rules", .ref r), ("text", .str t), ("own_lines", .ref ls)]), ?_, ?_⟩
    · have k0 : KeepB c H (upd (upd (upd H c (.ins C dx [("kind", .str z)])) c (.ins C dx [("kind", .str z), ("rules", .ref r)])) c (.ins C dx [("kind", .str z), ("rules", .ref r), ("text", .str t)])) := fun b o nb h => by
        rw [upd_ne nb, upd_ne nb, upd_ne nb]
        exact h
      have fin : ∀ (ls : List Str) (tl : Addr), ls = linesM t → (upd (upd (upd H c (.ins C dx [("kind", .str z)])) c (.ins C dx [("kind", .str z), ("rules", .ref r)])) c (.ins C dx [("kind", .str z), ("rules", .ref r), ("text", .str t)])) tl = none → ∃ lsA, ([some (V.ref c), some (.str z), some (.ref r), some (.str t)] : List (Option V)) = [some (.ref c), some (.str z), some (.ref r), some (.str t)] ∧ KeepB c H (upd (upd (upd (upd (upd H c (.ins C dx [("kind", .str z)])) c (.ins C dx [("kind", .str z), ("rules", .ref r)])) c (.ins C dx [("kind", .str z), ("rules", .ref r), ("text", .str t)])) tl (.lst (ls.map V.str))) c (.ins C dx [("kind", .str z), ("rules", .ref r), ("text", .str t), ("own_lines", .ref tl)])) ∧ H lsA = none ∧ lsA ≠ c ∧ (upd (upd (upd (upd (upd H c (.ins C dx [("kind", .str z)])) c (.ins C dx [("kind", .str z), ("rules", .ref r)])) c (.ins C dx [("kind", .str z), ("rules", .ref r), ("text", .str t)])) tl (.lst (ls.map V.str))) c (.ins C dx [("kind", .str z), ("rules", .ref r), ("text", .str t), ("own_lines", .ref tl)])) lsA = some (.lst ((linesM t).map V.str)) ∧ (upd (upd (upd (upd (upd H c (.ins C dx [("kind", .str z)])) c (.ins C dx [("kind", .str z), ("rules", .ref r)])) c (.ins C dx [("kind", .str z), ("rules", .ref r), ("text", .str t)])) tl (.lst (ls.map V.str))) c (.ins C dx [("kind", .str z), ("rules", .ref r), ("text", .str t), ("own_lines", .ref tl)])) c = some (.ins C dx [("kind", .str z), ("rules", .ref r), ("text", .str t), ("own_lines", .ref lsA)]) := fun ls tl e n => by
        have nc : tl ≠ c := fun q => by rw [q, upd_same] at n; cases n
        have n0 : H tl = none := by
          rw [upd_ne nc, upd_ne nc, upd_ne nc] at n
          exact n
        refine ⟨tl, rfl, fun b o nb h => ?_, n0, nc, ?_, upd_same⟩
        · rw [upd_ne nb]
          exact same_new n _ _ (k0 b o nb h)
        · rw [upd_ne nc, upd_same, e]
      refine ⟨_, rfl, rfl, _, rfl, ite2 (fun e => ?_) fun e => ?_⟩
      · have ne := neE e
        refine ⟨_, rfl, ⟨_, rfl⟩, t, "\n", rfl, rfl, rfl, Nat.le_trans (Nat.add_le_add_right ht.1 2) (by decide), fun tl htl => ?_⟩
        refine ⟨_, rfl, c, C, dx, _, rfl, same_new htl _ _ upd_same, CC.cls, no _ (by simp), by show 3 < 1000; decide, ?_⟩
        exact fin _ tl (by unfold linesM; rw [if_neg ne]) htl
      · have ne := neN e
        refine ⟨by show 0 ≤ sizeLine; decide, fun tl htl => ?_⟩
        refine ⟨_, rfl, c, C, dx, _, rfl, same_new htl _ _ upd_same, CC.cls, no _ (by simp), by show 3 < 1000; decide, ?_⟩
        exact fin [] tl (by unfold linesM; rw [if_pos ne]) htl
    · rintro σ H1 ⟨ls, rfl, k1, nls, nlc, hls, hc1⟩
      refine ⟨_, rfl, c, C, dx, _, .ref ls, rfl, hc1, CC.cls, no _ (by simp), rfl, ls, _, rfl, .inl (SqL.of hls), _, _, rfl, rfl, _, rfl, ite2 (fun e => ?_) fun e => ?_⟩
      · have many : (linesM t).length > 40 := by
          have := of_decide_eq_true e
          rw [List.length_map] at this
          omega
        refine ⟨_, rfl, c, C, dx, _, .ref ls, rfl, hc1, CC.cls, no _ (by simp), rfl, ls, _, rfl, .inl (SqL.of hls), fun dd hd => ?_⟩
        rw [List.length_map]
        refine qe "TooMany" _ ?_ dd H1 k1 hd
        unfold codeM
        rw [ek]
        dsimp only
        rw [if_pos many]
        rfl
      · have few : ¬ (linesM t).length > 40 := fun q => e (decide_eq_true (by rw [List.length_map]; omega))
        have eR : codeM (.str z) t (decide (sty = "taken")) ((lineM x1).d * (lineM x2).d) = (match readM t with
            | .error e => .line e
            | .ok rows => match limitsM rows (decide (sty = "taken")) ((lineM x1).d * (lineM x2).d) with
              | .fine => .made z rows
              | .many n => .ifs n
              | .refused l => .refused l) := by
          unfold codeM
          rw [ek]
          dsimp only
          rw [if_neg few]
        rw [eR] at qe q
        refine ⟨_, rfl, t, rfl, ht, by omega, fun el er d2 H2 s2 n2 => ?_, fun rows er a rr H2 s2 na ha hrr => ?_⟩
        · rw [er] at qe
          exact qe "BadLine" _ rfl d2 H2 (k1.trans s2.keepB) n2
        · rw [er] at qe q
          have r2 := s2 _ _ hc1
          refine ⟨_, rfl, c, C, dx, _, rfl, r2, CC.cls, no _ (by simp), by show 4 < 1000; decide, ?_⟩
          have k3 : KeepB c H (upd H2 c (.ins C dx [("kind", .str z), ("rules", .ref r), ("text", .str t), ("own_lines", .ref ls), ("rows", .ref a)])) := (k1.trans s2.keepB).trans KeepB.upd
          have kp : Keeps (fun b => H1 b = none) H2 (upd H2 c (.ins C dx [("kind", .str z), ("rules", .ref r), ("text", .str t), ("own_lines", .ref ls), ("rows", .ref a)])) := ⟨fun b xs e => by
            rw [upd_ne (fun y => by rw [y, r2] at e; cases e)]
            exact e, fun b xs _ e => by
            rw [upd_ne (fun y => by rw [y, r2] at e; cases e)]
            exact e⟩
          have fr3 : ∀ b, H1 b = none → H b = none ∧ b ≠ c := fun b y => by
            have nb : b ≠ c := fun u => by rw [u, hc1] at y; cases y
            refine ⟨?_, nb⟩
            cases e : H b with
            | none => rfl
            | some o =>
              rw [k1 _ _ nb e] at y
              cases y
          have hrr3 := hrr.keep (fr' := fun b => H b = none ∧ b ≠ c) kp fr3
          have ha3 : (upd H2 c (.ins C dx [("kind", .str z), ("rules", .ref r), ("text", .str t), ("own_lines", .ref ls), ("rows", .ref a)])) a = some (.lst (rr.map V.ref)) := by
            rw [upd_ne (fun y => by rw [y, r2] at ha; cases ha)]
            exact ha
          have hls3 : (upd H2 c (.ins C dx [("kind", .str z), ("rules", .ref r), ("text", .str t), ("own_lines", .ref ls), ("rows", .ref a)])) ls = some (.lst ((linesM t).map V.str)) := by
            rw [upd_ne nlc]
            exact s2 _ _ hls
          have R3 := R.keepB hC k3
          obtain ⟨f1, f2⟩ := readM_few er
          refine ⟨_, rfl, c, C, dx, _, .ref a, rfl, upd_same, CC.cls, no _ (by simp), rfl, _, rfl, a, r, _, rr, rows, sty, cap, low, root, x1, x2, rfl, ha3, hrr3, readM_good er, by omega, by omega, R3, fun ef H4 s4 => ?_, fun n en => ?_, fun l el => ?_⟩
          · intro tb htb
            have c4 := s4 _ _ (upd_same (H := H2) (a := c) (o := HO.ins C dx [("kind", .str z), ("rules", .ref r), ("text", .str t), ("own_lines", .ref ls), ("rows", .ref a)]))
            refine ⟨_, rfl, c, C, dx, _, rfl, same_new htb _ _ c4, CC.cls, no _ (by simp), by show 5 < 1000; decide, ?_⟩
            have ntb : tb ≠ c := fun y => by rw [y, c4] at htb; cases htb
            have kk5 := ((k3.trans s4.keepB).trans (same_new (o := .dK []) htb).keepB).trans (KeepB.upd (b := c) (o := .ins C dx (codeF z r t ls a tb)))
            have s5 := same_new (o := .dK []) htb
            have up : ∀ {b o}, b ≠ c → H4 b = some o → (upd (upd H4 tb (.dK [])) c (.ins C dx (codeF z r t ls a tb))) b = some o := fun {b o} nb e => by
              rw [upd_ne nb]
              exact s5 _ _ e
            have nac : a ≠ c := fun y => by rw [y, r2] at ha; cases ha
            have ntH : H tb = none := by
              cases e : H tb with
              | none => rfl
              | some o =>
                have := s4 _ _ (k3 _ _ ntb e)
                rw [this] at htb
                cases htb
            have naH : H a = none := (fr3 a na).1
            dsimp only at q
            rw [ef] at q
            refine q z rows rfl _ ls a tb rr (fun b => H b = none ∧ b ≠ c) kk5 ⟨upd_same, up nlc (s4 _ _ hls3), up nac (s4 _ _ ha3), hrr3.keep ⟨fun b xs e => ?_, fun b xs f e => up f.2 (s4 _ _ e)⟩ fun _ y => y, ?_⟩ (fun _ y => y) nls naH ntH
            · refine up (fun y => ?_) (s4 _ _ e)
              rw [y, upd_same] at e
              cases e
            · rw [upd_ne ntb]
              exact upd_same
          · intro d H4 s4 n4
            dsimp only at qe
            rw [en] at qe
            exact qe "TooMany" _ rfl d H4 (k3.trans s4.keepB) n4
          · intro d H4 s4 n4
            dsimp only at qe
            rw [el] at qe
            exact qe "Refused" _ rfl d H4 (k3.trans s4.keepB) n4
end
end Pk
namespace Pk
open L2 PyProof.Rows PySem.Spec PySem
abbrev sCLen : Stmt := inClass (top 42) 1
abbrev sCGet : Stmt := inClass (top 42) 3
abbrev sCEq : Stmt := inClass (top 42) 4
/-- at c: a code of this kind, these rules, this text -/
def CodeK (C RC : Addr) (H : Hp) (c : Addr) (kind : Str) (t : Str) (r : Addr) (k : RK) : Prop := RulesK RC H r k ∧ ∃ rows dx ls ra tb rr fr, CodeAt C H c kind r t rows dx ls ra tb rr fr
theorem RulesK.same {C : Addr} {H H' : Hp} {r : Addr} {k : RK} (h : RulesK C H r k) (s : Same H H') : RulesK C H' r k := by
  obtain ⟨x1, x2, R⟩ := h
  exact ⟨x1, x2, R.same s⟩
theorem CodeK.same {C RC : Addr} {H H' : Hp} {c : Addr} {kind t : Str} {r : Addr} {k : RK} (h : CodeK C RC H c kind t r k) (s : Same H H') : CodeK C RC H' c kind t r k := by
  obtain ⟨R, rows, dx, ls, ra, tb, rr, fr, z⟩ := h
  exact ⟨R.same s, rows, dx, ls, ra, tb, rr, fr, z.same s⟩
def spCLen (C RC : Addr) : Sp := fun vs H Q _ => ∃ (c r : Addr) (kind t : Str) (k : RK), vs = [.ref c] ∧ CodeK C RC H c kind t r k ∧ Q (.int ((linesM t).length : Nat)) H
def spCGet (C RC : Addr) : Sp := fun vs H Q _ => ∃ (c r : Addr) (kind t : Str) (k : RK) (n : Nat) (l : Str), vs = [.ref c, .int ((n : Int) + 1)] ∧ CodeK C RC H c kind t r k ∧ (linesM t)[n]? = some l ∧ Q (.str l) H
/-- what is compared of two codes -/
structure CK where
  kind : Str
  text : Str
  rules : RK
deriving DecidableEq
def ckD (kind t : Str) : PyData := .tuple [.str kind, .str t]
theorem ck_eqv (a b x y : Str) : PyData.eqv (ckD a b) (ckD x y) = decide (a = x ∧ b = y) := by
  simp only [ckD, PyData.eqv, PyData.eqvAll, Bool.and_true]
  by_cases h1 : a = x
  · by_cases h2 : b = y
    · simp [h1, h2]
    · simp [h1, h2]
  · simp [h1]
theorem ck_shaped {a b : Str} (h : (ckD a b).canLay0 = true) : SeqAt.shaped (ckD a b) = true := by
  have d : (ckD a b).depth ≤ 64 := by
    simp [ckD, PyData.depth, PyData.depthAll]
  exact Bool.and_eq_true_iff.mpr ⟨h, decide_eq_true d⟩
structure InsC (K : PySem.W.Frag) (C : Addr) : (Prop) where
  ha : (PySem.W.findIn K (.ref C) "__class__") = some (some (.builtin "object.__class__"))
  hn : (PySem.W.specialIn K (.builtin "object.__class__") "__get__") = some (some (.builtin "getset_descriptor.__get__"))
  ht : (PySem.W.takesIn K (.builtin "object.__class__")) = some true
  hm : (PySem.W.mroIn K C (.type "object")) = some true
  self : PySem.W.kitOne K (.ref C) (.ref C) = some true
  str : PySem.W.kitOne K (.type "str") (.ref C) = some false
def spCEq (K : PySem.W.Frag) (C RC : Addr) : Sp := fun vs H Q _ => ∃ (c r : Addr) (y : V) (kind t : Str) (k : RK), vs = [.ref c, y] ∧ CodeK C RC H c kind t r k ∧
  ((∃ s, y = .str s ∧ Q (.bl false) H) ∨ ∃ c2 r2 kind2 t2 k2, y = .ref c2 ∧ CodeK C RC H c2 kind2 t2 r2 k2 ∧ (ckD kind t).canLay0 = true ∧ (ckD kind2 t2).canLay0 = true ∧ (rkD k).canLay0 = true ∧ (rkD k2).canLay0 = true ∧ ∀ H', Same H H' → Q (.bl (decide (kind = kind2 ∧ t = t2 ∧ k = k2))) H')
section
variable {K : PySem.W.Frag} {P : Program} {w : World} {base : Heap} {mg : Str → Option Value} {C fI RC fRI : Addr}
theorem sc_Code___len__ : FnScope ["self"] ["self"] (defScope sCLen) := ⟨rfl, rfl, rfl, by decide +kernel, rfl, by decide +kernel, by decide +kernel⟩
theorem ok_Code_len {f : Addr} {fd : FuncData} (F : FunD K "__len__" "Code.__len__" (defArgs sCLen) (defBody sCLen) (defScope sCLen) [] [] f fd) (CC : CodeC K mg C fI) (mLen : mg "len" = none) : FnOk P w K mg base CX0 1 f fd ["self"] (spCLen C RC) := by
  refine F.ok sc_Code___len__ (fun vs H Q E h => ?_) (fun cdv A outer s H vs Q E hr h => ?_)
  · obtain ⟨c, r, kind, t, k, rfl, _⟩ := h
    rfl
  · obtain ⟨c, r, kind, t, k, rfl, ⟨R, rows, dx, ls, ra, tb, rr, fr, z⟩, q⟩ := h
    refine ⟨_, PSs.nox (pss_one (by exact (ps_ret (pe_callB call_len_seq (by rfl) mLen PySem.boot_len (pa_cons (pe_fld (pv 0) rfl) pa_nil))))), ?_⟩
    refine ⟨_, rfl, c, C, dx, _, .ref ls, rfl, z.h, CC.cls, CC.no _ (by simp), rfl, ls, _, rfl, .inl (SqL.of z.ls), ?_⟩
    rw [List.length_map]
    exact q
theorem sc_Code___getitem__ : FnScope ["self", "k"] ["self", "k"] (defScope sCGet) := ⟨rfl, rfl, rfl, by decide +kernel, rfl, by decide +kernel, by decide +kernel⟩
theorem ok_Code_getitem {f : Addr} {fd : FuncData} (F : FunD K "__getitem__" "Code.__getitem__" (defArgs sCGet) (defBody sCGet) (defScope sCGet) [] [] f fd) (CC : CodeC K mg C fI) : FnOk P w K mg base CX0 1 f fd ["self", "k"] (spCGet C RC) := by
  refine F.ok sc_Code___getitem__ (fun vs H Q E h => ?_) (fun cdv A outer s H vs Q E hr h => ?_)
  · obtain ⟨c, r, kind, t, k, n, l, rfl, _⟩ := h
    rfl
  · obtain ⟨c, r, kind, t, k, n, l, rfl, ⟨R, rows, dx, ls, ra, tb, rr, fr, z⟩, hl, q⟩ := h
    refine ⟨_, PSs.nox (pss_one (by exact (ps_ret (pe_ix (ix_listK K rfl) (pe_fld (pv 0) rfl) (pe_op op_sub (pv 1) pe_int) (fun _ _ => rfl))))), ?_⟩
    refine ⟨_, rfl, c, C, dx, _, .ref ls, rfl, z.h, CC.cls, CC.no _ (by simp), rfl, _, rfl, _, _, rfl, rfl, ls, _, (n : Int), .str l, rfl, ?_, SqL.of z.ls, ?_, q⟩
    · show V.int ((n : Int) + 1 - 1) = _
      rw [Int.add_sub_cancel]
    · have e : ((linesM t).map V.str)[n]? = some (.str l) := by
        rw [List.getElem?_map, hl]
        rfl
      exact atI_nat e
theorem sc_Code___eq__ : FnScope ["self", "other"] ["self", "other"] (defScope sCEq) := ⟨rfl, rfl, rfl, by decide +kernel, rfl, by decide +kernel, by decide +kernel⟩
theorem ok_Code_eq {f fE : Addr} {fd fdE : FuncData} (F : FunD K "__eq__" "Code.__eq__" (defArgs sCEq) (defBody sCEq) (defScope sCEq) [] [] f fd) (CC : CodeC K mg C fI) (II : InsC K C) (EC : EqC K RC fE) (GE : FnOk P w K mg base CX0 1 fE fdE ["self", "other"] (spEqR K RC)) (bE : Binds K fdE ["self", "other"] []) (nf : PySem.W.notFirst K RC (.ref RC) = true) (RCc : RulesC K mg RC fRI) (IR : InsIs K RC) (mIsi : mg "isinstance" = none) : FnOk P w K mg base CX0 2 f fd ["self", "other"] (spCEq K C RC) := by
  refine F.ok sc_Code___eq__ (fun vs H Q E h => ?_) (fun cdv A outer s H vs Q E hr h => ?_)
  · obtain ⟨c, r, y, kind, t, k, rfl, _⟩ := h
    rfl
  · obtain ⟨c, r, y, kind, t, k, rfl, Z, hy⟩ := h
    obtain ⟨R, rows, dx, ls, ra, tb, rr, fr, z⟩ := id Z
    refine ⟨_, PSs.nox (pss_cons (by exact (ps_if (pt_not (pt_val (pe_callB call_isi (by rfl) mIsi PyProof.Rows.boot_isinstance (pa_cons (pv 1) (pa_cons (pe_glob (v := .ref C) (by rfl) CC.g rfl) pa_nil))))) (pss_one (by exact (ps_ret pe_bl))) pss_nil)) (pss_one (by exact (ps_ret (pe_and (pe_cmpR (op_eqDK K rfl (Room.units hr)) (pe_tup (pa_cons (pe_fld (pv 0) rfl) (pa_cons (pe_fld (pv 0) rfl) pa_nil))) (pe_tup (pa_cons (pe_fld (pv 1) rfl) (pa_cons (pe_fld (pv 1) rfl) pa_nil))) (nomark _)) (pe_one (pe_cmpR (op_eqI K rfl EC GE bE (hr.mono (by decide))) (pe_fld (pv 0) rfl) (pe_fld (pv 1) rfl) (nomark _)))))))), ?_⟩
    rcases hy with ⟨x, rfl, q⟩ | ⟨c2, r2, kind2, t2, k2, rfl, Z2, o1, o2, g1, g2, q⟩
    · refine ⟨_, rfl, .str x, _, .type "str", _, _, rfl, .own C, .base (.str x), II.str, _, rfl, ?_⟩
      exact q
    · obtain ⟨R2, rows2, dx2, ls2, ra2, tb2, rr2, fr2, z2⟩ := id Z2
      refine ⟨_, rfl, .ref c2, _, .ref C, _, _, rfl, .own C, .base (.ins z2.h CC.cls II.ha II.hn II.ht II.hm), II.self, _, rfl, ?_⟩
      refine ⟨_, rfl, c, C, dx, _, .str kind, rfl, z.h, CC.cls, CC.no _ (by simp), rfl, _, rfl, c, C, dx, _, .str t, rfl, z.h, CC.cls, CC.no _ (by simp), rfl, by show 2 ≤ sizeLine; decide, fun p1 hp1 => ?_⟩
      have s1 := same_new (o := .tup [.str kind, .str t]) hp1
      refine ⟨_, rfl, c2, C, dx2, _, .str kind2, rfl, s1 _ _ z2.h, CC.cls, CC.no _ (by simp), rfl, _, rfl, c2, C, dx2, _, .str t2, rfl, s1 _ _ z2.h, CC.cls, CC.no _ (by simp), rfl, by show 2 ≤ sizeLine; decide, fun p2 hp2 => ?_⟩
      have s2 := same_new (o := .tup [.str kind2, .str t2]) hp2
      have s12 := s1.trans s2
      refine ⟨ckD kind t, ckD kind2 t2, .tup (SqT.of (s2 _ _ upd_same)) (.cons (.str _) (.cons (.str _) .nil)), .tup (SqT.of upd_same) (.cons (.str _) (.cons (.str _) .nil)), ck_shaped o1, ck_shaped o2, ?_⟩
      rw [ck_eqv]
      refine ⟨_, rfl, ite2 (fun e => ?_) fun e => ?_⟩
      · obtain ⟨e1, e2⟩ := of_decide_eq_true e
        have RA := R.same s12
        have RB := R2.same s12
        obtain ⟨x1, x2, dxr, _, _, _, _, _, hr1, _⟩ := id RA
        obtain ⟨y1, y2, dxr2, _, _, _, _, _, hr2, _⟩ := id RB
        refine ⟨_, rfl, c, C, dx, _, .ref r, rfl, s12 _ _ z.h, CC.cls, CC.no _ (by simp), rfl, _, rfl, c2, C, dx2, _, .ref r2, rfl, s12 _ _ z2.h, CC.cls, CC.no _ (by simp), rfl, r, dxr, _, _, rfl, hr1, .base (.ins hr2 RCc.cls IR.ha IR.hn IR.ht IR.hm), nf, r, k, .ref r2, rfl, RA, .inr ⟨r2, k2, rfl, RB, g1, g2, fun H' s3 => ⟨_, rfl, ?_⟩⟩⟩
        have q2 := q H' (s12.trans s3)
        have e3 : decide (kind = kind2 ∧ t = t2 ∧ k = k2) = decide (k = k2) := by
          by_cases h : k = k2
          · rw [decide_eq_true h, decide_eq_true ⟨e1, e2, h⟩]
          · rw [decide_eq_false h, decide_eq_false fun y => h y.2.2]
        rw [e3] at q2
        exact q2
      · have q2 := q _ s12
        rw [decide_eq_false (fun y : kind = kind2 ∧ t = t2 ∧ k = k2 => e (decide_eq_true ⟨y.1, y.2.1⟩))] at q2
        exact q2
end
end Pk
namespace Pk
open L2 PyProof.Rows PySem.Spec PySem
abbrev sTold : Stmt := top 53
def CN : List Str := ["BadKind", "TooMany", "Refused", "BadLine"]
/-- the four errors among each other -/
structure ToldF (K : PySem.W.Frag) : Prop where
  pe : ∀ x ∈ CN, PySem.W.exmOne K (.ref (He.ga K x)) (.ref (He.ga K "PageError")) = some true
  kit : ∀ x ∈ CN, ∀ y ∈ CN, PySem.W.kitOne K (.ref (He.ga K x)) (.ref (He.ga K y)) = some (decide (x = y))
  exc : ∀ x ∈ CN, ExcC K (He.ga K x)
/-- what the law is told -/
def toldV (k : V) (t : Str) : CodeR → List V
  | .badKind => [.str "kind", k]
  | .lines n => [.str "many", .str "lines", .int (n : Nat), .int 40]
  | .line l => [.str "line", .int (l : Nat)]
  | .ifs n => [.str "many", .str "ifs", .int (n : Nat), .int 7]
  | .refused l => [.str "refused", .int (l : Nat)]
  | .made kind _ => [.str "made", .str kind, .str t, .int ((linesM t).length : Nat)]
def spTold (K : PySem.W.Frag) (RC : Addr) : Sp := fun vs H Q _ => ∃ (k : V) (r : Addr) (t : Str) (tk : Value) (rk : RK) (x1 x2 : Share), vs = [k, .ref r, .str t] ∧ Kd K H k tk ∧ okT t ∧ RulesAt RC H r rk.sty (.str rk.cap) (.str rk.low) (.bl rk.root) x1 x2 ∧
  ∀ p H', Same H H' → H p = none → H' p = some (.tup (toldV k t (codeM k t (decide (rk.sty = "taken")) ((lineM x1).d * (lineM x2).d)))) → Q (.ref p) H'
theorem codeM_made {k : V} {t : Str} {taken : Bool} {product : Nat} {kind : Str} {rows : List Row} (h : codeM k t taken product = .made kind rows) : kindV k = some kind ∧ (linesM t).length ≤ 40 ∧ readM t = .ok rows ∧ limitsM rows taken product = .fine := by
  unfold codeM at h
  split at h
  · cases h
  · rename_i e1
    split at h
    · cases h
    · rename_i e2
      split at h
      · cases h
      · rename_i e3
        split at h
        · rename_i e4
          cases h
          exact ⟨e1, by omega, e3, e4⟩
        · cases h
        · cases h
theorem is_read {K : PySem.W.Frag} {H : Hp} {e d : Addr} {y z : Str} {fs : List (Str × V)} {b : Bool} {Q : VK} (h : H e = some (excE e (.ref (He.ga K y)) (some d))) (hd : H d = some (.xd fs)) (ex : ExcC K (He.ga K y)) (kk : PySem.W.kitOne K (.ref (He.ga K y)) (.ref (He.ga K z)) = some b) (q : Q (.bl b) H) : rIsT K [.ref e, .ref (He.ga K z)] H Q :=
  ⟨e, _, some d, _, .ref (He.ga K z), b, rfl, h, fun dd q => ⟨fs, by cases q; exact hd⟩, ex, fun u r => r, kk, q⟩
section
variable {K : PySem.W.Frag} {P : Program} {w : World} {base : Heap} {mg : Str → Option Value} {C fI RC fRI : Addr}
theorem sc_law_told : FnScope ["_law_kind", "_law_rules", "_law_text", "_law_code", "e"] ["_law_kind", "_law_rules", "_law_text"] (defScope sTold) := ⟨rfl, rfl, rfl, by decide +kernel, rfl, by decide +kernel, by decide +kernel⟩
theorem ok_law_told {f fL : Addr} {fd fdI fdL : FuncData} (F : FunD K "_law_told" "_law_told" (defArgs sTold) (defBody sTold) (defScope sTold) [] [] f fd) (CC : CodeC K mg C fI) (GI : FnOk P w K mg base (L2.CX P w) 90 fI fdI ["self", "kind", "rules", "text"] (spCodeI K C RC)) (bI : Binds K fdI ["self", "kind", "rules", "text"] [])
    (OL : OwnC K C fL "__len__") (GL : FnOk P w K mg base CX0 1 fL fdL ["self"] (spCLen C RC)) (bL : Binds K fdL ["self"] []) (ER : Errs P K mg) (TF : ToldF K) (gPE : mg "PageError" = some (.ref (He.ga K "PageError"))) (mIsi : mg "isinstance" = none) (mLen : mg "len" = none) : FnOk P w K mg base CX0 92 f fd ["_law_kind", "_law_rules", "_law_text"] (spTold K RC) := by
  refine F.ok sc_law_told (fun vs H Q E h => ?_) (fun cdv A outer s H vs Q E hr h => ?_)
  · obtain ⟨k, r, t, tk, rk, x1, x2, rfl, _⟩ := h
    rfl
  · obtain ⟨k, r, t, tk, rk, x1, x2, rfl, kk, ht, R, q⟩ := h
    obtain ⟨_, IK⟩ := ER.iBadKind
    obtain ⟨_, IT⟩ := ER.iTooMany
    obtain ⟨_, IR⟩ := ER.iRefused
    obtain ⟨_, IL⟩ := ER.iBadLine
    refine ⟨_, PSs.nox (pss_cons (by exact (ps_try_all rfl rfl sc_law_told.nd rfl takes_noX (fun W pn xe tkW po => pss_one (by exact (ps_set (i := 3) sc_law_told.nd rfl (Or.inl rfl) (pe_makeS CC.made GI hr rfl CC.g bI .nil (fun σ => passAt tkW σ) (pa_cons (pv 0) (pa_cons (pv 1) (pa_cons (pv 2) pa_nil))))))) (HdsA.as_ (i := 4) ⟨rfl, rfl, .inl gPE⟩ rfl rfl (fun a pn => (pss_cons (by exact (ps_if (pt_val (pe_callB (call_isTK K rfl) (by rfl) mIsi PyProof.Rows.boot_isinstance (pa_cons (pv 4) (pa_cons (pe_glob (v := .ref (He.ga K "BadKind")) (by rfl) (ER.gBadKind) rfl) pa_nil)))) (pss_one (by exact (ps_ret (pe_tup (pa_cons pe_str (pa_cons (pe_xfTK K rfl (pv 4)) pa_nil)))))) pss_nil)) (pss_cons (by exact (ps_if (pt_val (pe_callB (call_isTK K rfl) (by rfl) mIsi PyProof.Rows.boot_isinstance (pa_cons (pv 4) (pa_cons (pe_glob (v := .ref (He.ga K "TooMany")) (by rfl) (ER.gTooMany) rfl) pa_nil)))) (pss_one (by exact (ps_ret (pe_tup (pa_cons pe_str (pa_cons (pe_xfTK K rfl (pv 4)) (pa_cons (pe_xfTK K rfl (pv 4)) (pa_cons (pe_xfTK K rfl (pv 4)) pa_nil)))))))) pss_nil)) (pss_cons (by exact (ps_if (pt_val (pe_callB (call_isTK K rfl) (by rfl) mIsi PyProof.Rows.boot_isinstance (pa_cons (pv 4) (pa_cons (pe_glob (v := .ref (He.ga K "Refused")) (by rfl) (ER.gRefused) rfl) pa_nil)))) (pss_one (by exact (ps_ret (pe_tup (pa_cons pe_str (pa_cons (pe_xfTK K rfl (pv 4)) pa_nil)))))) pss_nil)) (pss_one (by exact (ps_ret (pe_ifExp (pt_val (pe_callB (call_isTK K rfl) (by rfl) mIsi PyProof.Rows.boot_isinstance (pa_cons (pv 4) (pa_cons (pe_glob (v := .ref (He.ga K "BadLine")) (by rfl) (ER.gBadLine) rfl) pa_nil)))) (pe_tup (pa_cons pe_str (pa_cons (pe_xfTK K rfl (pv 4)) pa_nil))) (pe_tup (pa_cons pe_str pa_nil)))))))))) HdsA.nil))) (pss_one (by exact (ps_ret (pe_tup (pa_cons pe_str (pa_cons (pe_fld (pv 3) rfl) (pa_cons (pe_fld (pv 3) rfl) (pa_cons (pe_callB (call_lenI OL GL bL (hr.mono (by decide))) (by rfl) mLen PySem.boot_len (pa_cons (pv 3) pa_nil)) pa_nil))))))))), ?_⟩
    refine ⟨_, rfl, _, rfl, _, rfl, fun x dx nx nd ndx => ?_⟩
    have nx' : upd H dx (.own x) x = none := by
      rw [upd_ne (Ne.symm ndx)]
      exact nx
    have sA : Same H (upd (upd H dx (.own x)) x (.ins C dx [])) := (same_new nd).step nx'
    refine ⟨x, dx, r, k, t, tk, rk.sty, _, _, _, x1, x2, rfl, upd_same, kk.mono sA, ht, R.same sA, fun y fs ef d H1 k1 n1 => ?_, fun kind rows ec H' ls ra tb rr fr k1 Z _ nls nra ntb => ⟨rfl, ?_⟩⟩
    · have sB : ∀ {fs}, Same H (upd H1 d (.xd fs)) := fun {fs} u o e => same_new n1 _ _ (k1 u o (fun z => by rw [z, nx] at e; cases e) (sA u o e))
      have kit : ∀ y z b, y ∈ CN → z ∈ CN → decide (y = z) = b → PySem.W.kitOne K (.ref (He.ga K y)) (.ref (He.ga K z)) = some b := fun y z b h1 h2 e => by
        rw [TF.kit y h1 z h2, e]
      generalize codeM k t (decide (rk.sty = "taken")) ((lineM x1).d * (lineM x2).d) = cr at ef q
      cases cr with
      | badKind =>
        cases ef
        refine ⟨true, TF.pe _ (by decide), fun _ e he => ?_, fun z => (nomatch z)⟩
        have sC := sB.step (o := excE e (.ref (He.ga K "BadKind")) (some d)) he
        have hd := same_new (o := excE e (.ref (He.ga K "BadKind")) (some d)) he _ _ (upd_same (H := H1) (a := d) (o := .xd [("kind", k)]))
        refine ⟨_, rfl, ?_⟩
        dsimp only [tC, tCons, tNil]
        refine is_read upd_same hd (TF.exc _ (by decide)) (kit _ _ true (by decide) (by decide) (by decide)) ⟨_, rfl, ?_⟩
        refine ⟨_, rfl, e, _, d, _, _, rfl, upd_same, hd, IK.xf, IK.no "kind" (by simp), rfl, by show 2 ≤ sizeLine; decide, fun p hp => ?_⟩
        exact q p _ (sC.step hp) (sC.back hp) upd_same
      | lines n =>
        cases ef
        refine ⟨true, TF.pe _ (by decide), fun _ e he => ?_, fun z => (nomatch z)⟩
        have sC := sB.step (o := excE e (.ref (He.ga K "TooMany")) (some d)) he
        have hd := same_new (o := excE e (.ref (He.ga K "TooMany")) (some d)) he _ _ (upd_same (H := H1) (a := d) (o := .xd [("most", .int 40), ("many", .int (n : Nat)), ("what", .str "lines")]))
        refine ⟨_, rfl, ?_⟩
        dsimp only [tC, tCons, tNil]
        refine is_read upd_same hd (TF.exc _ (by decide)) (kit _ _ false (by decide) (by decide) (by decide)) ⟨_, rfl, ?_⟩
        refine ⟨_, rfl, ?_⟩
        dsimp only [tC, tCons, tNil]
        refine is_read upd_same hd (TF.exc _ (by decide)) (kit _ _ true (by decide) (by decide) (by decide)) ⟨_, rfl, ?_⟩
        refine ⟨_, rfl, e, _, d, _, _, rfl, upd_same, hd, IT.xf, IT.no "what" (by simp), rfl, _, rfl, e, _, d, _, _, rfl, upd_same, hd, IT.xf, IT.no "many" (by simp), rfl, _, rfl, e, _, d, _, _, rfl, upd_same, hd, IT.xf, IT.no "most" (by simp), rfl, by show 4 ≤ sizeLine; decide, fun p hp => ?_⟩
        exact q p _ (sC.step hp) (sC.back hp) upd_same
      | ifs n =>
        cases ef
        refine ⟨true, TF.pe _ (by decide), fun _ e he => ?_, fun z => (nomatch z)⟩
        have sC := sB.step (o := excE e (.ref (He.ga K "TooMany")) (some d)) he
        have hd := same_new (o := excE e (.ref (He.ga K "TooMany")) (some d)) he _ _ (upd_same (H := H1) (a := d) (o := .xd [("most", .int 7), ("many", .int (n : Nat)), ("what", .str "ifs")]))
        refine ⟨_, rfl, ?_⟩
        dsimp only [tC, tCons, tNil]
        refine is_read upd_same hd (TF.exc _ (by decide)) (kit _ _ false (by decide) (by decide) (by decide)) ⟨_, rfl, ?_⟩
        refine ⟨_, rfl, ?_⟩
        dsimp only [tC, tCons, tNil]
        refine is_read upd_same hd (TF.exc _ (by decide)) (kit _ _ true (by decide) (by decide) (by decide)) ⟨_, rfl, ?_⟩
        refine ⟨_, rfl, e, _, d, _, _, rfl, upd_same, hd, IT.xf, IT.no "what" (by simp), rfl, _, rfl, e, _, d, _, _, rfl, upd_same, hd, IT.xf, IT.no "many" (by simp), rfl, _, rfl, e, _, d, _, _, rfl, upd_same, hd, IT.xf, IT.no "most" (by simp), rfl, by show 4 ≤ sizeLine; decide, fun p hp => ?_⟩
        exact q p _ (sC.step hp) (sC.back hp) upd_same
      | refused l =>
        cases ef
        refine ⟨true, TF.pe _ (by decide), fun _ e he => ?_, fun z => (nomatch z)⟩
        have sC := sB.step (o := excE e (.ref (He.ga K "Refused")) (some d)) he
        have hd := same_new (o := excE e (.ref (He.ga K "Refused")) (some d)) he _ _ (upd_same (H := H1) (a := d) (o := .xd [("line", .int (l : Nat))]))
        refine ⟨_, rfl, ?_⟩
        dsimp only [tC, tCons, tNil]
        refine is_read upd_same hd (TF.exc _ (by decide)) (kit _ _ false (by decide) (by decide) (by decide)) ⟨_, rfl, ?_⟩
        refine ⟨_, rfl, ?_⟩
        dsimp only [tC, tCons, tNil]
        refine is_read upd_same hd (TF.exc _ (by decide)) (kit _ _ false (by decide) (by decide) (by decide)) ⟨_, rfl, ?_⟩
        refine ⟨_, rfl, ?_⟩
        dsimp only [tC, tCons, tNil]
        refine is_read upd_same hd (TF.exc _ (by decide)) (kit _ _ true (by decide) (by decide) (by decide)) ⟨_, rfl, ?_⟩
        refine ⟨_, rfl, e, _, d, _, _, rfl, upd_same, hd, IR.xf, IR.no "line" (by simp), rfl, by show 2 ≤ sizeLine; decide, fun p hp => ?_⟩
        exact q p _ (sC.step hp) (sC.back hp) upd_same
      | line l =>
        cases ef
        refine ⟨true, TF.pe _ (by decide), fun _ e he => ?_, fun z => (nomatch z)⟩
        have sC := sB.step (o := excE e (.ref (He.ga K "BadLine")) (some d)) he
        have hd := same_new (o := excE e (.ref (He.ga K "BadLine")) (some d)) he _ _ (upd_same (H := H1) (a := d) (o := .xd [("line", .int (l : Nat))]))
        refine ⟨_, rfl, ?_⟩
        dsimp only [tC, tCons, tNil]
        refine is_read upd_same hd (TF.exc _ (by decide)) (kit _ _ false (by decide) (by decide) (by decide)) ⟨_, rfl, ?_⟩
        refine ⟨_, rfl, ?_⟩
        dsimp only [tC, tCons, tNil]
        refine is_read upd_same hd (TF.exc _ (by decide)) (kit _ _ false (by decide) (by decide) (by decide)) ⟨_, rfl, ?_⟩
        refine ⟨_, rfl, ?_⟩
        dsimp only [tC, tCons, tNil]
        refine is_read upd_same hd (TF.exc _ (by decide)) (kit _ _ false (by decide) (by decide) (by decide)) ⟨_, rfl, ?_⟩
        refine ⟨_, rfl, ?_⟩
        dsimp only [tC, tCons, tNil]
        refine is_read upd_same hd (TF.exc _ (by decide)) (kit _ _ true (by decide) (by decide) (by decide)) ⟨_, rfl, ?_⟩
        refine ⟨_, rfl, e, _, d, _, _, rfl, upd_same, hd, IL.xf, IL.no "line" (by simp), rfl, by show 2 ≤ sizeLine; decide, fun p hp => ?_⟩
        exact q p _ (sC.step hp) (sC.back hp) upd_same
      | made kind rows => cases ef
    · have sZ : Same H H' := fun u o e => k1 u o (fun z => by rw [z, nx] at e; cases e) (sA u o e)
      have RZ : RulesK RC H' r rk := ⟨x1, x2, R.same sZ⟩
      refine ⟨_, rfl, x, C, dx, _, .str kind, rfl, Z.h, CC.cls, CC.no _ (by simp), rfl, _, rfl, x, C, dx, _, .str t, rfl, Z.h, CC.cls, CC.no _ (by simp), rfl, _, rfl, x, dx, _, rfl, Z.h, x, r, kind, t, rk, rfl, ⟨RZ, rows, dx, ls, ra, tb, rr, fr, Z⟩, ⟨_, rfl, ?_, by show 4 ≤ sizeLine; decide, fun p hp => ?_⟩⟩
      · have := (codeM_made ec).2.1
        exact Nat.lt_of_le_of_lt this (by decide)
      · have := q p _ (sZ.step hp) (sZ.back hp) upd_same
        rw [ec] at this
        exact this
end
end Pk
namespace Pk
open L2 PyProof.Rows PySem.Spec PySem
abbrev sLines : Stmt := top 54
theorem BagO.dict {c m n o} (h : BagO c m n o) : ∃ kvs, o = .dK kvs := let ⟨_, _, _, e, _⟩ := h; ⟨_, e⟩
/-- the pieces that lines are drawn from -/
def ifL (x : Nat) : Str := ("if own < " : Str) ++ Str.ofString (toString ((x : Nat) : Int))
def pieceL (x : Nat) : Nat → List Str
  | 0 => ["shift 1 from own to left"]
  | 1 => ["join own right"]
  | 2 => ["cut own at k into more"]
  | 3 => ["quit"]
  | _ => [ifL x, "else", "quit", "end"]
def linesOf (x : Nat) (picks : List Nat) : List Str := picks.flatMap (pieceL x)
structure PicksOk (picks : List Nat) : Prop where
  few : picks.length ≤ 15
  pick : ∀ i p, picks[i]? = some p → p < (if i < 7 then 5 else 4)
theorem piece_len (x p : Nat) : (pieceL x p).length ≤ 4 := by
  unfold pieceL
  split
  · decide
  · decide
  · decide
  · decide
  · exact Nat.le_refl _
theorem linesOf_len (x : Nat) (picks : List Nat) : (linesOf x picks).length ≤ picks.length * 4 := flatMap_le _ 4 _ fun p _ => piece_len x p
structure PoolAt (x : Nat) (H : Hp) (b pp p0 p1 p2 p3 p4 : Addr) : Prop where
  hp : H pp = some (.lst [.ref p0, .ref p1, .ref p2, .ref p3, .ref p4])
  h0 : H p0 = some (.lst ((pieceL x 0).map V.str))
  h1 : H p1 = some (.lst ((pieceL x 1).map V.str))
  h2 : H p2 = some (.lst ((pieceL x 2).map V.str))
  h3 : H p3 = some (.lst ((pieceL x 3).map V.str))
  h4 : H p4 = some (.lst ((pieceL x 4).map V.str))
  np : pp ≠ b
  n0 : p0 ≠ b
  n1 : p1 ≠ b
  n2 : p2 ≠ b
  n3 : p3 ≠ b
  n4 : p4 ≠ b
def spLines : Sp := fun vs H Q _ => ∃ (b c : Addr) (ns : List Int) (n : Int) (o : HO), vs = [.ref b] ∧ H b = some o ∧ BagO c ns.length n o ∧ n ≤ 900000 ∧ H c = some (.lst (ns.map V.int)) ∧
  ∀ (x : Nat) (picks : List Nat) (p : Addr) (o' : HO) (n' : Int) (H' : Hp), x < 60 → PicksOk picks → KeepB b H H' → H' b = some o' → BagO c ns.length n' o' → n' ≤ n + 20 → H p = none → H' p = some (.lst ((linesOf x picks).map V.str)) → Q (.ref p) H'
section
variable {K : PySem.W.Frag} {P : Program} {w : World} {base : Heap} {mg : Str → Option Value}
theorem sc_law_lines : FnScope ["_law_bag_here", "_law_pool", "_law_found", "_law_turn"] ["_law_bag_here"] (defScope sLines) := ⟨rfl, rfl, rfl, by decide +kernel, rfl, by decide +kernel, by decide +kernel⟩
theorem ok_law_lines {f fD : Addr} {fd fdD : FuncData} (F : FunD K "_law_lines" "_law_lines" (defArgs sLines) (defBody sLines) (defScope sLines) [] [] f fd) (FD : FunD K "_law_draw" "_law_draw" (defArgs sDraw) (defBody sDraw) (defScope sDraw) [] [] fD fdD)
    (GD : FnOk P w K mg base CX0 1 fD fdD ["_law_bag_here", "_law_limit"] spDraw) (gD : mg "_law_draw" = some (.ref fD)) (mRange : mg "range" = none) (mStr : mg "str" = none) : FnOk P w K mg base CX0 2 f fd ["_law_bag_here"] spLines := by
  have bD : Binds K fdD ["_law_bag_here", "_law_limit"] [] := FD.bindsN fun _ _ _ _ _ _ us hl => match us, hl with | [_, _], _ => rfl
  refine F.ok sc_law_lines (fun vs H Q E h => ?_) (fun cdv A outer s H vs Q E hr h => ?_)
  · obtain ⟨b, c, ns, n, o, rfl, _⟩ := h
    rfl
  · obtain ⟨b, c, ns, n, o, rfl, hb, hB, hn, hc, q⟩ := h
    obtain ⟨kv0, rfl⟩ := hB.dict
    have ncb : c ≠ b := ne_of hc hb (by intro z; cases z)
    refine ⟨_, PSs.nox (pss_cons (by exact (ps_set (i := 1) sc_law_lines.nd rfl (Or.inl rfl) (pe_lst (pa_cons (pe_lst (pa_cons pe_str pa_nil)) (pa_cons (pe_lst (pa_cons pe_str pa_nil)) (pa_cons (pe_lst (pa_cons pe_str pa_nil)) (pa_cons (pe_lst (pa_cons pe_str pa_nil)) pa_nil))))))) (C8.pss_cut (by exact (ps_expr (pe_bm PySem.F.plainAttrs_list PySem.F.slot_list_append PySem.F.type_list_append mt_append (pv 1) (pa_cons (pe_lst (pa_cons (pe_op op_add_str pe_str (pe_callTy call_str_int (by rfl) mStr (by decide +kernel) (pa_cons (pe_call GD (hr.mono (by decide)) rfl gD FD.kp bD .nil pass0 (pa_cons (pv 0) (pa_cons pe_int pa_nil))) pa_nil))) (pa_cons pe_str (pa_cons pe_str (pa_cons pe_str pa_nil))))) pa_nil)))) (pss_cons (by exact (ps_set (i := 2) sc_law_lines.nd rfl (Or.inl rfl) (pe_lst pa_nil))) (pss_cons (by exact (ps_for PassesOwn.never rfl (pi_range1 rfl mRange (pa_cons (pe_call GD (hr.mono (by decide)) rfl gD FD.kp bD .nil pass0 (pa_cons (pv 0) (pa_cons pe_int pa_nil))) pa_nil)) (pg_name (i := 3) sc_law_lines.nd rfl (Or.inl rfl)) (pss_one (by exact (ps_set (i := 2) sc_law_lines.nd rfl (Or.inl rfl) (pe_op op_cat (pv 2) (pe_ix (ix_listK K rfl) (pv 1) (pe_call GD (hr.mono (by decide)) rfl gD FD.kp bD .nil pass0 (pa_cons (pv 0) (pa_cons (pe_ifExp (pt_cmpR op_lt (pv 3) pe_int (nomark _)) pe_int pe_int) pa_nil))) (fun _ _ => rfl)))))))) (pss_one (by exact (ps_ret (pv 2)))))))), ?_⟩
    refine ⟨by show 1 ≤ sizeLine; decide, fun p0 hp0 => ⟨by show 1 ≤ sizeLine; decide, fun p1 hp1 => ⟨by show 1 ≤ sizeLine; decide, fun p2 hp2 => ⟨by show 1 ≤ sizeLine; decide, fun p3 hp3 => ⟨by show 4 ≤ sizeLine; decide, fun pp hpp => ?_⟩⟩⟩⟩⟩
    have t0 := same_new (o := .lst [.str "shift 1 from own to left"]) hp0
    have t1 := t0.step (o := .lst [.str "join own right"]) hp1
    have t2 := t1.step (o := .lst [.str "cut own at k into more"]) hp2
    have t3 := t2.step (o := .lst [.str "quit"]) hp3
    have t4 := t3.step (o := .lst [.ref p0, .ref p1, .ref p2, .ref p3]) hpp
    have hb4 := t4 _ _ hb
    have hc4 := t4 _ _ hc
    refine ⟨fun σ H1 => ∃ (x : Nat) (pp p0 p1 p2 p3 p4 : Addr) (o1 : HO), x < 60 ∧ σ = [some (.ref b), some (.ref pp), none, none] ∧ KeepB b H H1 ∧ H1 b = some o1 ∧ BagO c ns.length (n + 1) o1 ∧ PoolAt x H1 b pp p0 p1 p2 p3 p4, ?_, ?_⟩
    rotate_left
    · rintro σ H1 ⟨x, pp, p0, p1, p2, p3, p4, o1, hx, rfl, k1, hb1, B1, PA⟩
      obtain ⟨kv1, rfl⟩ := B1.dict
      have hc1 := k1 _ _ ncb hc
      refine ⟨by show 0 ≤ sizeLine; decide, fun pf hpf => ?_⟩
      have kf := (same_new (o := .lst []) hpf).keepB (b := b)
      have nf : H pf = none := by
        cases e : H pf with
        | none => rfl
        | some o =>
          have nb : pf ≠ b := fun z => by rw [z, hb1] at hpf; cases hpf
          rw [k1 _ _ nb e] at hpf
          cases hpf
      have fb : pf ≠ b := fun z => by rw [z, hb1] at hpf; cases hpf
      refine ⟨_, rfl, b, c, ns, 16, n + 1, _, rfl, by decide, by decide, same_new hpf _ _ hb1, B1, by omega, same_new hpf _ _ hc1, fun r2 o2 a1 a2 B2 => ?_⟩
      obtain ⟨m, rfl⟩ : ∃ m : Nat, r2 = (m : Int) := ⟨r2.toNat, by omega⟩
      have em : ((m : Int)).toNat = m := by omega
      refine ⟨_, rfl, by omega, by omega, ?_⟩
      rw [em]
      refine for_range (lo := 0) (n := m) (fun j σ H' => ∃ (pf : Addr) (picks : List Nat) (v3 : Option V) (o' : HO) (n' : Int), σ = [some (.ref b), some (.ref pp), some (.ref pf), v3] ∧ KeepB b H1 H' ∧ H' b = some o' ∧ BagO c ns.length n' o' ∧ n' ≤ n + 2 + (j : Int) ∧ picks.length = j ∧ (∀ i p, picks[i]? = some p → p < (if i < 7 then 5 else 4)) ∧ H' pf = some (.lst ((linesOf x picks).map V.str)) ∧ H pf = none) ?_ ?_ ?_
      · refine ⟨pf, [], none, _, _, rfl, kf.trans KeepB.upd, upd_same, B2, by omega, rfl, (fun i p e => (by cases e)), ?_, nf⟩
        rw [upd_ne fb]
        exact upd_same
      · rintro j σ H' hj ⟨pf, picks, v3, o', n', rfl, k2, hb2, B', hn', hl, hp, hf, nf⟩
        obtain ⟨kv', rfl⟩ := B'.dict
        have z0 : (0 : Int) + (j : Int) = (j : Int) := Int.zero_add _
        rw [z0]
        have k12 := k1.trans k2
        have hc2 := k2 _ _ ncb hc1
        have lo : ∀ w : Nat, w < (if j < 7 then 5 else 4) → ∃ pz, atI [V.ref p0, .ref p1, .ref p2, .ref p3, .ref p4] (w : Int) = some (.ref pz) ∧ H1 pz = some (.lst ((pieceL x w).map V.str)) ∧ pz ≠ b := fun w hw => by
          have h5 : w < 5 := by
            split at hw <;> omega
          have h : w = 0 ∨ w = 1 ∨ w = 2 ∨ w = 3 ∨ w = 4 := by omega
          rcases h with rfl | rfl | rfl | rfl | rfl
          · exact ⟨p0, rfl, PA.h0, PA.n0⟩
          · exact ⟨p1, rfl, PA.h1, PA.n1⟩
          · exact ⟨p2, rfl, PA.h2, PA.n2⟩
          · exact ⟨p3, rfl, PA.h3, PA.n3⟩
          · exact ⟨p4, rfl, PA.h4, PA.n4⟩
        have fin : ∀ (w : Nat) (o3 : HO), w < (if j < 7 then 5 else 4) → BagO c ns.length (n' + 1) o3 → ∃ p xs i v, V.ref pp = .ref p ∧ V.int (w : Int) = .int i ∧ SqL K (upd H' b o3) p xs ∧ atI xs i = some v ∧ rCat (.ref pf) v (upd H' b o3) (fun y H2 => ∃ pf picks v3 o' n', ([some (V.ref b), some (V.ref pp), some y, some (V.int (j : Int))] : L2.St) = [some (.ref b), some (.ref pp), some (.ref pf), v3] ∧ KeepB b H1 H2 ∧ H2 b = some o' ∧ BagO c ns.length n' o' ∧ n' ≤ n + 2 + ((j + 1 : Nat) : Int) ∧ picks.length = j + 1 ∧ (∀ i p, picks[i]? = some p → p < (if i < 7 then 5 else 4)) ∧ H2 pf = some (.lst ((linesOf x picks).map V.str)) ∧ H pf = none) := fun w o3 hw B3 => by
          obtain ⟨pz, z1, z2, z3⟩ := lo w hw
          have fb2 : pf ≠ b := fun z => by rw [z, hb2] at hf; cases hf
          have k3 : KeepB b H1 (upd H' b o3) := k2.trans KeepB.upd
          refine ⟨pp, _, (w : Int), .ref pz, rfl, rfl, SqL.of (k3 _ _ PA.np PA.hp), z1, pf, pz, _, _, rfl, rfl, by rw [upd_ne fb2]; exact hf, k3 _ _ z3 z2, ?_, fun p hp2 => ?_⟩
          · rw [List.length_map, List.length_map]
            have g1 := linesOf_len x picks
            have g2 := piece_len x w
            exact Nat.le_trans (m := 64) (by omega) (by decide)
          · refine ⟨p, picks ++ [w], _, o3, n' + 1, rfl, k3.trans (same_new hp2).keepB, same_new hp2 _ _ upd_same, B3, by omega, by rw [List.length_append, List.length_singleton, hl], fun i y e => ?_, ?_, ?_⟩
            · rcases Nat.lt_or_ge i picks.length with g | g
              · rw [List.getElem?_append_left g] at e
                exact hp i y e
              · rw [List.getElem?_append_right g] at e
                have ei : i = j := by
                  cases e2 : i - picks.length with
                  | zero => omega
                  | succ u => rw [e2] at e; cases e
                rw [ei, ← hl, Nat.sub_self] at e
                cases e
                rw [ei]
                exact hw
            · rw [upd_same]
              unfold linesOf
              rw [List.flatMap_append, List.flatMap_singleton, List.map_append]
            · cases e : H p with
              | none => rfl
              | some o =>
                have nb : p ≠ b := fun z => by rw [z, upd_same] at hp2; cases hp2
                rw [k3 _ _ nb (k1 _ _ nb e)] at hp2
                cases hp2
        refine ⟨_, rfl, _, rfl, _, rfl, _, rfl, _, _, rfl, rfl, _, rfl, ite2 (fun e => ?_) fun e => ?_⟩
        · have g : j < 7 := by
            have := of_decide_eq_true e
            omega
          rw [if_pos g] at fin
          refine ⟨b, c, ns, 5, n', _, rfl, by decide, by decide, hb2, B', by omega, hc2, fun r3 o3 c1 c2 B3 => ?_⟩
          obtain ⟨w, rfl⟩ : ∃ w : Nat, r3 = (w : Int) := ⟨r3.toNat, by omega⟩
          exact fin w o3 (by omega) B3
        · have g : ¬ j < 7 := fun z => e (decide_eq_true (by omega))
          rw [if_neg g] at fin
          refine ⟨b, c, ns, 4, n', _, rfl, by decide, by decide, hb2, B', by omega, hc2, fun r3 o3 c1 c2 B3 => ?_⟩
          obtain ⟨w, rfl⟩ : ∃ w : Nat, r3 = (w : Int) := ⟨r3.toNat, by omega⟩
          exact fin w o3 (by omega) B3
      · rintro σ H' ⟨pf, picks, v3, o', n', rfl, k2, hb2, B', hn', hl, hp, hf, nf⟩
        exact ⟨_, rfl, q x picks pf o' n' H' hx ⟨by omega, hp⟩ (k1.trans k2) hb2 B' (by omega) nf hf⟩
    refine ⟨_, rfl, .inl ⟨rfl, _, SqL.of upd_same⟩, _, rfl, b, c, ns, 60, n, _, rfl, by decide, by decide, hb4, hB, by omega, hc4, fun r1 o1 a1 a2 B1 => ?_⟩
    obtain ⟨kv1, rfl⟩ := B1.dict
    obtain ⟨x, rfl⟩ : ∃ x : Nat, r1 = (x : Int) := ⟨r1.toNat, by omega⟩
    have hx : x < 60 := by omega
    have l1 : ∀ x, x < 60 → ((x : Nat) : Int).natAbs.log2 < 1920 := by decide +kernel
    have l2 : ∀ x, x < 60 → (Str.ofString (toString ((x : Nat) : Int))).length ≤ 2 := by decide +kernel
    have l3 : ("if own < " : Str).length = 9 := by decide +kernel
    have ppb : pp ≠ b := fun z => by rw [z, t3 _ _ hb] at hpp; cases hpp
    have npp : H pp = none := t3.back hpp
    refine ⟨_, rfl, l1 x hx, _, _, rfl, rfl, by rw [l3]; exact Nat.le_trans (Nat.add_le_add_left (l2 x hx) 9) (by decide), by show 4 ≤ sizeLine; decide, fun p4 hp4 => ?_⟩
    have k5 : KeepB b H (upd (upd (upd (upd (upd (upd H p0 (.lst [.str "shift 1 from own to left"])) p1 (.lst [.str "join own right"])) p2 (.lst [.str "cut own at k into more"])) p3 (.lst [.str "quit"])) pp (.lst [.ref p0, .ref p1, .ref p2, .ref p3])) b (.dK kv1)) := t4.keepB.trans KeepB.upd
    have s6 := same_new (o := .lst [.str (ifL x), .str "else", .str "quit", .str "end"]) hp4
    have hpp5 : (upd (upd (upd (upd (upd (upd H p0 (.lst [.str "shift 1 from own to left"])) p1 (.lst [.str "join own right"])) p2 (.lst [.str "cut own at k into more"])) p3 (.lst [.str "quit"])) pp (.lst [.ref p0, .ref p1, .ref p2, .ref p3])) b (.dK kv1)) pp = some (.lst [.ref p0, .ref p1, .ref p2, .ref p3]) := by
      rw [upd_ne ppb]
      exact upd_same
    refine ⟨pp, _, _, rfl, rfl, s6 _ _ hpp5, by show 4 < sizeLine; decide, ?_⟩
    have e0 : (upd (upd (upd (upd (upd H p0 (.lst [.str "shift 1 from own to left"])) p1 (.lst [.str "join own right"])) p2 (.lst [.str "cut own at k into more"])) p3 (.lst [.str "quit"])) pp (.lst [.ref p0, .ref p1, .ref p2, .ref p3])) p0 = some (.lst [.str "shift 1 from own to left"]) := same_new hpp _ _ (same_new hp3 _ _ (same_new hp2 _ _ (same_new hp1 _ _ upd_same)))
    have e1 : (upd (upd (upd (upd (upd H p0 (.lst [.str "shift 1 from own to left"])) p1 (.lst [.str "join own right"])) p2 (.lst [.str "cut own at k into more"])) p3 (.lst [.str "quit"])) pp (.lst [.ref p0, .ref p1, .ref p2, .ref p3])) p1 = some (.lst [.str "join own right"]) := same_new hpp _ _ (same_new hp3 _ _ (same_new hp2 _ _ upd_same))
    have e2 : (upd (upd (upd (upd (upd H p0 (.lst [.str "shift 1 from own to left"])) p1 (.lst [.str "join own right"])) p2 (.lst [.str "cut own at k into more"])) p3 (.lst [.str "quit"])) pp (.lst [.ref p0, .ref p1, .ref p2, .ref p3])) p2 = some (.lst [.str "cut own at k into more"]) := same_new hpp _ _ (same_new hp3 _ _ upd_same)
    have e3 : (upd (upd (upd (upd (upd H p0 (.lst [.str "shift 1 from own to left"])) p1 (.lst [.str "join own right"])) p2 (.lst [.str "cut own at k into more"])) p3 (.lst [.str "quit"])) pp (.lst [.ref p0, .ref p1, .ref p2, .ref p3])) p3 = some (.lst [.str "quit"]) := same_new hpp _ _ upd_same
    have nb : ∀ {z l}, (upd (upd (upd (upd (upd H p0 (.lst [.str "shift 1 from own to left"])) p1 (.lst [.str "join own right"])) p2 (.lst [.str "cut own at k into more"])) p3 (.lst [.str "quit"])) pp (.lst [.ref p0, .ref p1, .ref p2, .ref p3])) z = some (.lst l) → z ≠ b := fun e u => by rw [u, hb4] at e; cases e
    have b0 := nb e0
    have b1 := nb e1
    have b2 := nb e2
    have b3 := nb e3
    have npo : ∀ {z l}, (upd (upd (upd (upd H p0 (.lst [.str "shift 1 from own to left"])) p1 (.lst [.str "join own right"])) p2 (.lst [.str "cut own at k into more"])) p3 (.lst [.str "quit"])) z = some (.lst l) → z ≠ pp := fun e u => by rw [u, hpp] at e; cases e
    have q0 := npo (same_new hp3 _ _ (same_new hp2 _ _ (same_new hp1 _ _ (upd_same (H := H) (a := p0) (o := .lst [.str "shift 1 from own to left"])))))
    have q1 := npo (same_new hp3 _ _ (same_new hp2 _ _ (upd_same (a := p1) (o := .lst [.str "join own right"]))))
    have q2 := npo (same_new hp3 _ _ (upd_same (a := p2) (o := .lst [.str "cut own at k into more"])))
    have q3 := npo (upd_same (a := p3) (o := .lst [.str "quit"]))
    have q4 : p4 ≠ pp := fun u => by rw [u, hpp5] at hp4; cases hp4
    have b4 : p4 ≠ b := fun u => by rw [u, upd_same] at hp4; cases hp4
    have up : ∀ {z o}, z ≠ pp → z ≠ b → (upd (upd (upd (upd (upd H p0 (.lst [.str "shift 1 from own to left"])) p1 (.lst [.str "join own right"])) p2 (.lst [.str "cut own at k into more"])) p3 (.lst [.str "quit"])) pp (.lst [.ref p0, .ref p1, .ref p2, .ref p3])) z = some o → (upd (upd (upd (upd (upd (upd (upd (upd H p0 (.lst [.str "shift 1 from own to left"])) p1 (.lst [.str "join own right"])) p2 (.lst [.str "cut own at k into more"])) p3 (.lst [.str "quit"])) pp (.lst [.ref p0, .ref p1, .ref p2, .ref p3])) b (.dK kv1)) p4 (.lst [.str (ifL x), .str "else", .str "quit", .str "end"])) pp (.lst [.ref p0, .ref p1, .ref p2, .ref p3, .ref p4])) z = some o := fun n1 n2 e => by
      rw [upd_ne n1]
      refine s6 _ _ ?_
      rw [upd_ne n2]
      exact e
    refine ⟨x, pp, p0, p1, p2, p3, p4, .dK kv1, hx, rfl, ?_, ?_, B1, upd_same, up q0 b0 e0, up q1 b1 e1, up q2 b2 e2, up q3 b3 e3, ?_, ppb, b0, b1, b2, b3, b4⟩
    · intro z o nz e
      rw [upd_ne (fun u => by rw [u, npp] at e; cases e)]
      exact s6 _ _ (k5 _ _ nz e)
    · rw [upd_ne (Ne.symm ppb)]
      exact s6 _ _ upd_same
    · rw [upd_ne q4]
      exact upd_same
end
end Pk
namespace Pk
open L2 PyProof.Rows PySem.Spec PySem
theorem w0 : Txt.split "shift 1 from own to left" " " = (["shift", "1", "from", "own", "to", "left"] : List Str) := by decide +kernel
theorem w1 : Txt.split "join own right" " " = (["join", "own", "right"] : List Str) := by decide +kernel
theorem w2 : Txt.split "cut own at k into more" " " = (["cut", "own", "at", "k", "into", "more"] : List Str) := by decide +kernel
theorem w3 : Txt.split "quit" " " = (["quit"] : List Str) := by decide +kernel
theorem w4 : ∀ x, x < 60 → Txt.split (ifL x) " " = (["if", "own", "<", Str.ofString (toString ((x : Nat) : Int))] : List Str) := by decide +kernel
theorem p4 : ∀ x, x < 60 → partsM ["own", "<", Str.ofString (toString ((x : Nat) : Int))] = some [.less (1, some "own") ((x : Nat), none) true true] := by decide +kernel
theorem d0 (l : Nat) : deedM l ["shift", "1", "from", "own", "to", "left"] = some (.shift l [(1, none)] "own" "left") := by kernel_rfl
theorem d1 (l : Nat) : deedM l ["join", "own", "right"] = some (.join l "own" "right") := by kernel_rfl
theorem d2 (l : Nat) : deedM l ["cut", "own", "at", "k", "into", "more"] = some (.cut l "own" [(1, some "k")] "more") := by kernel_rfl
theorem d3 (l : Nat) : deedM l ["quit"] = some (.quit l) := by kernel_rfl
def rowOf (x : Nat) (p line : Nat) : Row := match p with
  | 0 => .shift (line + 1) [(1, none)] "own" "left"
  | 1 => .join (line + 1) "own" "right"
  | 2 => .cut (line + 1) "own" [(1, some "k")] "more"
  | 3 => .quit (line + 1)
  | _ => .ifr (line + 1) [.less (1, some "own") ((x : Nat), none) true true] [] [.quit (line + 3)]
theorem rowM_deed {rec_ : Bool → Nat → List Str → RowsR} {line : Nat} {ws r : List Str} {row : Row} (h : ¬ (at_ ws 0 = "if" ∧ 1 < ws.length)) (e : deedM line ws = some row) : rowM rec_ line ws r = .ok (row, line, r) := by
  unfold rowM
  rw [if_neg h, e]
theorem rows_one {n line : Nat} {i : Bool} {t : Str} {ws r : List Str} {row : Row} (hw : Txt.split t " " = ws) (hi : ¬ (i = true ∧ (t = "end" ∨ t = "else"))) (h : ¬ (at_ ws 0 = "if" ∧ 1 < ws.length)) (e : deedM (line + 1) ws = some row) (hn : r.length < n) : rowsM (n + 1) i line (t :: r) = prep row (rowsM (n + 1) i (line + 1) r) := by
  refine rowsM_row hi ?_ hn
  rw [hw]
  exact rowM_deed h e
theorem rows_stop {n line : Nat} {t : Str} {r : List Str} (h : t = "end" ∨ t = "else") : rowsM (n + 1) true line (t :: r) = .ok ([], some t, line + 1, r) := by
  rw [rowsM, if_pos ⟨rfl, h⟩]
theorem row_piece {x : Nat} (hx : x < 60) (p line : Nat) (rest : List Str) (n : Nat) (hn : (pieceL x p ++ rest).length ≤ n) : rowsM (n + 1) false line (pieceL x p ++ rest) = prep (rowOf x p line) (rowsM (n + 1) false (line + (pieceL x p).length) rest) := by
  have no : ∀ {t : Str}, ¬ (false = true ∧ (t = "end" ∨ t = "else")) := fun z => by cases z.1
  match p, hn with
  | 0, hn => exact rows_one w0 no (by decide) (d0 _) hn
  | 1, hn => exact rows_one w1 no (by decide) (d1 _) hn
  | 2, hn => exact rows_one w2 no (by decide) (d2 _) hn
  | 3, hn => exact rows_one w3 no (by decide) (d3 _) hn
  | p + 4, hn =>
    have hn' : rest.length + 4 ≤ n := by
      have e : (pieceL x (p + 4) ++ rest).length = 4 + rest.length := by
        rw [List.length_append]
        rfl
      omega
    obtain ⟨m, rfl⟩ : ∃ m, n = m + 1 := ⟨n - 1, (by omega)⟩
    show rowsM (m + 1 + 1) false line (ifL x :: "else" :: "quit" :: "end" :: rest) = prep (.ifr (line + 1) [.less (1, some "own") ((x : Nat), none) true true] [] [.quit (line + 3)]) (rowsM (m + 1 + 1) false (line + 4) rest)
    refine rowsM_row no ?_ (by show rest.length + 3 < m + 1; omega)
    rw [w4 x hx]
    refine rowM_r3 (last := some "else") (last2 := some "end") (l2 := line + 1 + 1) (r2 := "quit" :: "end" :: rest) ⟨rfl, by show 1 < 4; decide⟩ (p4 x hx) (rows_stop (.inr rfl)) rfl ?_ rfl
    rw [rows_one (i := true) w3 (fun z => by rcases z.2 with e | e <;> exact absurd e (by decide)) (by decide) (d3 _) (by show rest.length + 1 < m; omega), rows_stop (.inl rfl)]
    rfl
def rowsOf (x : Nat) : List Nat → Nat → List Row
  | [], _ => []
  | p :: ps, line => rowOf x p line :: rowsOf x ps (line + (pieceL x p).length)
theorem rows_pieces {x : Nat} (hx : x < 60) : ∀ (picks : List Nat) (line n : Nat), (linesOf x picks).length ≤ n → rowsM (n + 1) false line (linesOf x picks) = .ok (rowsOf x picks line, none, line + (linesOf x picks).length, [])
  | [], line, n, _ => by
    show rowsM (n + 1) false line [] = _
    rw [rowsM]
    rfl
  | p :: ps, line, n, h => by
    have e : linesOf x (p :: ps) = pieceL x p ++ linesOf x ps := rfl
    rw [e] at h ⊢
    rw [row_piece hx p line _ n h, rows_pieces hx ps _ n (by rw [List.length_append] at h; omega)]
    show Except.ok (_ :: _, _, _, _) = _
    rw [List.length_append, Nat.add_assoc]
    rfl
/-! ### ways of rows that all have a property -/
structure Down (P : Row → Prop) : Prop where
  one : ∀ l ps a b, P (.ifr l ps a b) → ∀ r ∈ a, P r
  two : ∀ l ps a b, P (.ifr l ps a b) → ∀ r ∈ b, P r
def wayAll (P : Row → Prop) (w : Way) : Prop := ∀ row ∈ w.1, P row
theorem wayAll_snoc {P : Row → Prop} {told : List Row} {goes g2 : Bool} {row : Row} (h : wayAll P (told, goes)) (hr : P row) : wayAll P (told ++ [row], g2) := fun x hx => by
  rcases List.mem_append.mp hx with m | m
  · exact h x m
  · rw [List.mem_singleton.mp m]
    exact hr
theorem wayAll_nil {P : Row → Prop} : ∀ w ∈ ([([], true)] : List Way), wayAll P w := fun w hw => by
  rw [List.mem_singleton.mp hw]
  exact fun x hx => absurd hx (List.not_mem_nil)
theorem plain_all {P : Row → Prop} {r : Row} {told : List Row} {goes : Bool} (hr : P r) (hw : wayAll P (told, goes)) (e : longerR r (told, goes) = if goes = true then [(told ++ [r], !isQuit r)] else [(told, false)]) : ∀ v ∈ longerR r (told, goes), wayAll P v := fun v hv => by
  rw [e] at hv
  split at hv <;> rw [List.mem_singleton.mp hv]
  · exact wayAll_snoc hw hr
  · exact hw
mutual
theorem longer_all {P : Row → Prop} (D : Down P) : ∀ (r : Row) (w : Way), P r → wayAll P w → ∀ v ∈ longerR r w, wayAll P v
  | .ifr l ps a b, (told, goes) => fun hr hw v hv => by
    unfold longerR at hv
    split at hv
    · obtain ⟨u, hu, rfl⟩ := List.mem_map.mp hv
      have hu2 : wayAll P u := by
        rcases List.mem_append.mp hu with m | m
        · exact ways_all D a _ (D.one l ps a b hr) wayAll_nil u m
        · exact ways_all D b _ (D.two l ps a b hr) wayAll_nil u m
      intro x hx
      rcases List.mem_append.mp hx with m | m
      · exact hw x m
      · rcases List.mem_cons.mp m with e | m
        · rw [e]
          exact hr
        · exact hu2 x m
    · rw [List.mem_singleton.mp hv]
      exact hw
  | .set .., (told, goes) => fun hr hw => plain_all hr hw rfl
  | .cut .., (told, goes) => fun hr hw => plain_all hr hw rfl
  | .join .., (told, goes) => fun hr hw => plain_all hr hw rfl
  | .shift .., (told, goes) => fun hr hw => plain_all hr hw rfl
  | .mark .., (told, goes) => fun hr hw => plain_all hr hw rfl
  | .quit .., (told, goes) => fun hr hw => plain_all hr hw rfl
theorem ways_all {P : Row → Prop} (D : Down P) : ∀ (rows : List Row) (ws : List Way), (∀ r ∈ rows, P r) → (∀ w ∈ ws, wayAll P w) → ∀ v ∈ waysFrom rows ws, wayAll P v
  | [], ws => fun _ h v hv => by
    unfold waysFrom at hv
    exact h v hv
  | r :: rs, ws => fun hr h v hv => by
    unfold waysFrom at hv
    refine ways_all D rs _ (fun x hx => hr x (List.mem_cons_of_mem _ hx)) (fun w hw => ?_) v hv
    obtain ⟨u, hu, hw⟩ := List.mem_flatMap.mp hw
    exact longer_all D r u (hr r (List.mem_cons_self ..)) (h u hu) w hw
end
/-- rows that break no limit, whatever way is gone: the drawn ones -/
inductive Calm : Row → Prop where
  | shift {l x y} : Calm (.shift l [(1, none)] x y)
  | join {l x y} : Calm (.join l x y)
  | cut {l x y} : Calm (.cut l x [(1, some "k")] y)
  | quit {l} : Calm (.quit l)
  | ifr {l ps m} : Calm (.ifr l ps [] [.quit m])
theorem calm_down : Down Calm where
  one := fun l ps a b h r hr => by
    cases h
    cases hr
  two := fun l ps a b h r hr => by
    cases h
    rw [List.mem_singleton.mp hr]
    exact .quit
theorem calm_of (x p line : Nat) : Calm (rowOf x p line) := by
  unfold rowOf
  split
  · exact .shift
  · exact .join
  · exact .cut
  · exact .quit
  · exact .ifr
theorem calm_rows (x : Nat) : ∀ (picks : List Nat) (line : Nat), ∀ r ∈ rowsOf x picks line, Calm r
  | p :: ps, line, r, h => by
    rcases (List.mem_cons.mp h) with e | e
    · rw [e]
      exact calm_of x p line
    · exact calm_rows x ps _ r e
theorem calm_much {r : Row} (h : Calm r) (m : Much) : muchStep m r = m := by cases h <;> rfl
theorem calm_mv {r : Row} (h : Calm r) : mvLine r = none := by
  cases h with
  | shift =>
    have e : ¬ oddSum [((1 : Int), (none : Option Str))] = true := by decide
    unfold mvLine
    dsimp only
    rw [if_neg e]
  | cut =>
    have e : ¬ oddSum [((1 : Int), some ("k" : Str))] = true := by decide
    unfold mvLine
    dsimp only
    rw [if_neg e]
  | _ => rfl
theorem calm_told : ∀ (told : List Row) (m : Much), (∀ r ∈ told, Calm r) → told.foldl muchStep m = m
  | [], m, _ => rfl
  | r :: rs, m, h => by
    rw [List.foldl_cons, calm_much (h r (List.mem_cons_self ..))]
    exact calm_told rs m fun x hx => h x (List.mem_cons_of_mem _ hx)
theorem calm_moves : ∀ told : List Row, (∀ r ∈ told, Calm r) → movesM told = []
  | [], _ => rfl
  | r :: rs, h => by
    unfold movesM
    rw [List.filterMap_cons, calm_mv (h r (List.mem_cons_self ..))]
    exact calm_moves rs fun x hx => h x (List.mem_cons_of_mem _ hx)
theorem calm_marks : ∀ rows : List Row, (∀ r ∈ rows, Calm r) → marksM rows = []
  | [], _ => rfl
  | r :: rs, h => by
    have e : marksR r = [] := by
      cases h r (List.mem_cons_self ..) <;> rfl
    show marksR r ++ marksM rs = []
    rw [e, calm_marks rs fun x hx => h x (List.mem_cons_of_mem _ hx)]
    rfl
theorem calm_wrong {rows : List Row} (h : ∀ r ∈ rows, Calm r) (taken : Bool) (product : Nat) : wrongM rows taken product = [] := by
  unfold wrongM
  rw [calm_marks rows h, ite_self, List.nil_append, List.flatMap_eq_nil_iff]
  intro w hw
  have a := ways_all calm_down rows _ h wayAll_nil w hw
  unfold tooMuchM
  rw [calm_told w.1 _ a, calm_moves w.1 a]
  rfl
theorem calm_fine {rows : List Row} (h : ∀ r ∈ rows, Calm r) (hc : countM rows ≤ 7) (taken : Bool) (product : Nat) : limitsM rows taken product = .fine := by
  unfold limitsM
  rw [if_neg (by omega), calm_wrong h]
end Pk
namespace Pk
open L2 PyProof.Rows PySem.Spec PySem
def goodLine (l : Str) : Bool := decide (l ≠ "") && ((TL.tl l).all (fun c => decide (c ≠ 10) && decide (c < 128)) && decide (l.length ≤ 30))
theorem joinL_mem {S : List Nat} {c : Nat} : ∀ {parts : List (List Nat)}, c ∈ TL.joinL S parts → c ∈ S ∨ ∃ p ∈ parts, c ∈ p
  | [], h => by cases h
  | [p], h => .inr ⟨p, List.mem_singleton.mpr rfl, h⟩
  | p :: q :: r, h => by
    rcases List.mem_append.mp h with m | m
    · exact .inr ⟨p, List.mem_cons_self .., m⟩
    · rcases List.mem_append.mp m with m | m
      · exact .inl m
      · rcases joinL_mem m with z | ⟨y, hy, z⟩
        · exact .inl z
        · exact .inr ⟨y, List.mem_cons_of_mem _ hy, z⟩
theorem joinL_len {S : List Nat} {n : Nat} : ∀ {parts : List (List Nat)}, (∀ p ∈ parts, p.length ≤ n) → (TL.joinL S parts).length ≤ parts.length * (n + S.length)
  | [], _ => Nat.zero_le _
  | [p], h => by
    have := h p (List.mem_singleton.mpr rfl)
    show p.length ≤ 1 * (n + S.length)
    omega
  | p :: q :: r, h => by
    have a := h p (List.mem_cons_self ..)
    have b := joinL_len (S := S) (n := n) (parts := q :: r) fun y hy => h y (List.mem_cons_of_mem _ hy)
    show (p ++ (S ++ TL.joinL S (q :: r))).length ≤ ((q :: r).length + 1) * (n + S.length)
    rw [List.length_append, List.length_append, Nat.succ_mul]
    omega
theorem good_parts {l : Str} (h : goodLine l = true) : l ≠ "" ∧ (∀ c ∈ TL.tl l, c ≠ 10 ∧ c < 128) ∧ l.length ≤ 30 := by
  unfold goodLine at h
  obtain ⟨h1, h2⟩ := Bool.and_eq_true_iff.mp h
  obtain ⟨h2, h3⟩ := Bool.and_eq_true_iff.mp h2
  refine ⟨of_decide_eq_true h1, fun c hc => ?_, of_decide_eq_true h3⟩
  obtain ⟨a, b⟩ := Bool.and_eq_true_iff.mp (List.all_eq_true.mp h2 c hc)
  exact ⟨of_decide_eq_true a, of_decide_eq_true b⟩
theorem tl_nl : TL.tl "\n" = [10] := by decide +kernel
theorem lines_join {ls : List Str} (h : ∀ l ∈ ls, goodLine l = true) : linesM (Txt.join "\n" ls) = ls := by
  cases ls with
  | nil => decide +kernel
  | cons l r =>
    have ne : ¬ Txt.join "\n" (l :: r) = "" := fun e => by
      have q := congrArg TL.tl e
      rw [TL.join_eq, TL.tl_join] at q
      have z : TL.tl l = [] := by
        cases r with
        | nil => exact q
        | cons y r => exact (List.append_eq_nil_iff.mp q).1
      have g := (good_parts (h l (List.mem_cons_self ..))).1
      refine g ?_
      exact TL.ext_tl (by rw [z]; decide +kernel)
    unfold linesM
    rw [if_neg ne]
    exact TL.split_join tl_nl (by decide +kernel) (by simp) fun p hp m => (good_parts (h p hp)).2.1 10 m |>.1 rfl
theorem okT_join {ls : List Str} (h : ∀ l ∈ ls, goodLine l = true) (hl : ls.length ≤ 1000) : okT (Txt.join "\n" ls) := by
  refine ⟨?_, lay_tl.mpr fun c hc => ?_⟩
  · rw [TL.len_tl, TL.join_eq, TL.tl_join, tl_nl]
    have := joinL_len (S := [10]) (n := 30) (parts := ls.map TL.tl) fun p hp => by
      obtain ⟨l, hl, rfl⟩ := List.mem_map.mp hp
      rw [← TL.len_tl]
      exact (good_parts (h l hl)).2.2
    rw [List.length_map, List.length_singleton] at this
    omega
  · rw [TL.join_eq, TL.tl_join, tl_nl] at hc
    rcases joinL_mem hc with m | ⟨p, hp, m⟩
    · rw [List.mem_singleton.mp m]
      decide
    · obtain ⟨l, hl, rfl⟩ := List.mem_map.mp hp
      have := ((good_parts (h l hl)).2.1 c m).2
      omega
theorem good_pieces : ∀ x, x < 60 → ∀ p, p < 5 → ∀ l ∈ pieceL x p, goodLine l = true := by decide +kernel
def fours (picks : List Nat) : Nat := (picks.filter fun p => decide (4 ≤ p)).length
theorem count_rows (x : Nat) : ∀ (picks : List Nat) (line : Nat), countM (rowsOf x picks line) = fours picks
  | [], _ => rfl
  | p :: ps, line => by
    have ih := count_rows x ps (line + (pieceL x p).length)
    unfold fours at ih ⊢
    show countR (rowOf x p line) + countM (rowsOf x ps _) = _
    rw [ih, List.filter_cons]
    match p with
    | 0 => exact Nat.zero_add _
    | 1 => exact Nat.zero_add _
    | 2 => exact Nat.zero_add _
    | 3 => exact Nat.zero_add _
    | p + 4 =>
      rw [if_pos (decide_eq_true (by omega)), List.length_cons]
      show 1 + 0 + 0 + _ = _
      omega
theorem lines_len (x : Nat) : ∀ picks : List Nat, (linesOf x picks).length = picks.length + 3 * fours picks
  | [] => rfl
  | p :: ps => by
    have ih := lines_len x ps
    unfold fours at ih ⊢
    show (pieceL x p ++ linesOf x ps).length = _
    rw [List.length_append, ih, List.filter_cons, List.length_cons]
    match p with
    | 0 => show 1 + _ = _; rw [if_neg (by decide)]; omega
    | 1 => show 1 + _ = _; rw [if_neg (by decide)]; omega
    | 2 => show 1 + _ = _; rw [if_neg (by decide)]; omega
    | 3 => show 1 + _ = _; rw [if_neg (by decide)]; omega
    | p + 4 =>
      rw [if_pos (decide_eq_true (by omega)), List.length_cons]
      show 4 + _ = _
      omega
theorem good_lines {x : Nat} (hx : x < 60) {picks : List Nat} (h5 : ∀ p ∈ picks, p < 5) : ∀ l ∈ linesOf x picks, goodLine l = true := fun l hl => by
  obtain ⟨p, hp, hl⟩ := List.mem_flatMap.mp hl
  exact good_pieces x hx p (h5 p hp) l hl
theorem made_lines {x : Nat} (hx : x < 60) {picks : List Nat} (h5 : ∀ p ∈ picks, p < 5) (hc : fours picks ≤ 7) (hl : (linesOf x picks).length ≤ 40) {kind : Str} (hk : kind ∈ KINDL) (taken : Bool) (product : Nat) : codeM (.str kind) (Txt.join "\n" (linesOf x picks)) taken product = .made kind (rowsOf x picks 0) := by
  have e := lines_join (good_lines hx h5)
  have er : readM (Txt.join "\n" (linesOf x picks)) = .ok (rowsOf x picks 0) := by
    unfold readM
    rw [e, rows_pieces hx picks 0 _ (Nat.le_refl _)]
  unfold codeM kindV
  dsimp only
  rw [if_pos hk, e]
  dsimp only
  rw [if_neg (by omega), er]
  dsimp only
  rw [calm_fine (calm_rows x picks 0) (by rw [count_rows]; exact hc)]
theorem many_lines {ls : List Str} (h : ∀ l ∈ ls, goodLine l = true) (hl : ls.length > 40) {kind : Str} (hk : kind ∈ KINDL) (taken : Bool) (product : Nat) : codeM (.str kind) (Txt.join "\n" ls) taken product = .lines ls.length := by
  unfold codeM kindV
  dsimp only
  rw [if_pos hk, lines_join h]
  dsimp only
  rw [if_pos hl]
theorem PicksOk.five {picks : List Nat} (h : PicksOk picks) : ∀ p ∈ picks, p < 5 := fun p hp => by
  obtain ⟨i, hi⟩ := List.mem_iff_getElem?.mp hp
  have := h.pick i p hi
  split at this <;> omega
theorem PicksOk.fours {picks : List Nat} (h : PicksOk picks) : Pk.fours picks ≤ 7 := by
  have e : picks = picks.take 7 ++ picks.drop 7 := (List.take_append_drop 7 picks).symm
  have z : (picks.drop 7).filter (fun p => decide (4 ≤ p)) = [] := by
    rw [List.filter_eq_nil_iff]
    intro p hp q
    obtain ⟨i, hi⟩ := List.mem_iff_getElem?.mp hp
    rw [List.getElem?_drop] at hi
    have := h.pick _ p hi
    rw [if_neg (by omega)] at this
    have := of_decide_eq_true q
    omega
  unfold Pk.fours
  rw [e, List.filter_append, z, List.append_nil]
  exact Nat.le_trans (List.length_filter_le _ _) (List.length_take_le _ _)
end Pk
namespace Pk
open L2 PyProof.Rows PySem.Spec PySem
/-! ### the written texts -/
def rdN (t : Str) : Nat × Nat × Nat := match readM t with
  | .error e => (0, e, (linesM t).length)
  | .ok rows => (1, countM rows, (linesM t).length)
theorem code_line {t : Str} {e n : Nat} (h : rdN t = (0, e, n)) (hn : n ≤ 40) {kind : Str} (hk : kind ∈ KINDL) (taken : Bool) (product : Nat) : codeM (.str kind) t taken product = .line e := by
  unfold rdN at h
  split at h
  · rename_i x er
    cases h
    unfold codeM kindV
    dsimp only
    rw [if_pos hk]
    dsimp only
    rw [if_neg (by omega), er]
  · cases h
theorem code_ifs {t : Str} {e n : Nat} (h : rdN t = (1, e, n)) (hn : n ≤ 40) (he : 7 < e) {kind : Str} (hk : kind ∈ KINDL) (taken : Bool) (product : Nat) : codeM (.str kind) t taken product = .ifs e := by
  unfold rdN at h
  split at h
  · cases h
  · rename_i rows er
    cases h
    unfold codeM kindV
    dsimp only
    rw [if_pos hk]
    dsimp only
    rw [if_neg (by omega), er]
    dsimp only
    unfold limitsM
    rw [if_pos he]
abbrev one (n : Nat) : List Str := (List.replicate n ([("if own < 9" : Str), "end"])).flatten
theorem t1 : rdN (Txt.join "\n" (one 9)) = (1, 9, 18) := by decide +kernel
theorem t2 : rdN (Txt.join "\n" (List.replicate 8 ("if own < 9" : Str) ++ List.replicate 8 ("end" : Str))) = (1, 8, 16) := by decide +kernel
theorem t3 : rdN (Txt.join "\n" ((List.replicate 8 ([("if own < 9" : Str), "else"])).flatten ++ List.replicate 8 ("end" : Str))) = (1, 8, 24) := by decide +kernel
theorem t4 : rdN (Txt.join "\n" ([("quit" : Str)] ++ one 8)) = (1, 8, 17) := by decide +kernel
theorem t5 : rdN (Txt.join "\n" (one 20)) = (1, 20, 40) := by decide +kernel
theorem t6 : (linesM (Txt.join "\n" (List.replicate 41 ("quit" : Str)) ++ "\nQuit")).length = 42 := by decide +kernel
theorem t7 : rdN (Txt.join "\n" (one 8) ++ "\nQuit") = (0, 17, 17) := by decide +kernel
theorem t12 : rdN (("a = 1\na = 2\na = 3\n" : Str) ++ Txt.join "\n" (one 8)) = (1, 8, 19) := by decide +kernel
end Pk
namespace Pk
open L2 PyProof.Rows PySem.Spec PySem
theorem t8 : rdN (Txt.join "\n" (List.replicate 8 ("if own < 9" : Str))) = (0, 9, 8) := by decide +kernel
theorem t9 : rdN (Txt.join "\n" [("a = 1" : Str), "a = 2", "a = 3", "if own < 9"]) = (0, 5, 4) := by decide +kernel
theorem t10 : rdN (Txt.join "\n" [("if own < 9" : Str), "Quit"]) = (0, 2, 2) := by decide +kernel
theorem t11 : rdN (Txt.join "\n" [("end" : Str), "Quit"]) = (0, 1, 2) := by decide +kernel
theorem t11b : rdN (Txt.join "\n" [("if own < 9" : Str), "else", "else", "Quit"]) = (0, 3, 4) := by decide +kernel
def limN : LimR → Nat × Nat
  | .fine => (0, 0)
  | .many n => (1, n)
  | .refused l => (2, l)
def refN (t : Str) (product : Nat) : (Nat × Nat) × (Nat × Nat) × Nat := match readM t with
  | .error e => ((3, e), (3, e), 0)
  | .ok rows => (limN (limitsM rows true product), limN (limitsM rows false product), (linesM t).length)
theorem t13 : refN (("a = 1\na = 2\na = 3\n" : Str) ++ Txt.join "\n" (one 7)) 1 = ((2, 3), (2, 3), 17) := by decide +kernel
theorem code_refused {t : Str} {l n product : Nat} (h : refN t product = ((2, l), (2, l), n)) (hn : n ≤ 40) {kind : Str} (hk : kind ∈ KINDL) (taken : Bool) : codeM (.str kind) t taken product = .refused l := by
  unfold refN at h
  split at h
  · cases h
  · rename_i rows er
    have lim : ∀ x, limN x = (2, l) → x = .refused l := fun x e => by
      cases x with
      | refused m => cases e; rfl
      | fine => cases e
      | many m => cases e
    have h1 := lim _ (congrArg (·.1) h)
    have h2 := lim _ (congrArg (·.2.1) h)
    have h3 : (linesM t).length = n := congrArg (·.2.2) h
    unfold codeM kindV
    dsimp only
    rw [if_pos hk]
    dsimp only
    rw [if_neg (by omega), er]
    dsimp only
    cases taken with
    | true => rw [h1]
    | false => rw [h2]
theorem s8 : Txt.split ("if own < 9|if own < 9|if own < 9|if own < 9|if own < 9|if own < 9|if own < 9|if own < 9" : Str) "|" = List.replicate 8 ("if own < 9" : Str) := by decide +kernel
theorem s9 : Txt.split ("a = 1|a = 2|a = 3|if own < 9" : Str) "|" = [("a = 1" : Str), "a = 2", "a = 3", "if own < 9"] := by decide +kernel
theorem s10 : Txt.split ("if own < 9|Quit" : Str) "|" = [("if own < 9" : Str), "Quit"] := by decide +kernel
theorem s11 : Txt.split ("end|Quit" : Str) "|" = [("end" : Str), "Quit"] := by decide +kernel
theorem s11b : Txt.split ("if own < 9|else|else|Quit" : Str) "|" = [("if own < 9" : Str), "else", "else", "Quit"] := by decide +kernel
end Pk
namespace Pk
open L2 PyProof.Rows PySem.Spec PySem
/-! ### shares written from numbers are read back -/
inductive It where
  | num (n : Nat)
  | fac (f : Nat)
def numS (n : Nat) : Str := Str.ofString (toString (n : Int))
def itW : It → List Str
  | .num n => [numS n]
  | .fac f => if f ≤ 1 then ["k"] else [numS f, "*", "k"]
def itT : It → Nat × Option Str
  | .num n => (n, none)
  | .fac f => (f, some "k")
def itOk : It → Bool
  | .num n => decide (n < 12)
  | .fac f => decide (1 ≤ f) && decide (f ≤ 12)
theorem num_small : ∀ n, n < 13 → numM (numS n) = some n ∧ ¬ numS n ∈ ATOMSL ∧ numS n ≠ "+" ∧ numS n ≠ "-" ∧ numS n ≠ "//" ∧ ¬ 32 ∈ (numS n).cps.toList := by decide +kernel
theorem it_term {i : It} (h : itOk i = true) : termM (itW i) = some (itT i) := by
  cases i with
  | num n =>
    have h' : n < 12 := of_decide_eq_true h
    obtain ⟨a, b, _⟩ := num_small n (by omega)
    show termM [numS n] = _
    rw [termM_1, if_neg b, a]
    rfl
  | fac f =>
    obtain ⟨h1, h2⟩ := Bool.and_eq_true_iff.mp (show (decide (1 ≤ f) && decide (f ≤ 12)) = true from h)
    have h1 := of_decide_eq_true h1
    have h2 := of_decide_eq_true h2
    obtain ⟨a, b, _⟩ := num_small f (by omega)
    by_cases hf : f ≤ 1
    · have e : f = 1 := by omega
      subst e
      decide +kernel
    · show termM (if f ≤ 1 then ["k"] else [numS f, "*", "k"]) = _
      rw [if_neg hf, termM_3, a, if_pos ⟨rfl, by decide +kernel⟩]
      show (if 2 ≤ f ∧ f ≤ 12 then some (f, some ("k" : Str)) else none) = _
      rw [if_pos ⟨by omega, h2⟩]
      rfl
theorem it_plain {i : It} (h : itOk i = true) : ∀ w ∈ itW i, w ≠ "+" ∧ w ≠ "-" ∧ w ≠ "//" ∧ ¬ 32 ∈ w.cps.toList := by
  have k : ("k" : Str) ≠ "+" ∧ ("k" : Str) ≠ "-" ∧ ("k" : Str) ≠ "//" ∧ ¬ 32 ∈ ("k" : Str).cps.toList := by decide +kernel
  have s : ("*" : Str) ≠ "+" ∧ ("*" : Str) ≠ "-" ∧ ("*" : Str) ≠ "//" ∧ ¬ 32 ∈ ("*" : Str).cps.toList := by decide +kernel
  intro w hw
  cases i with
  | num n =>
    have h' : n < 12 := of_decide_eq_true h
    obtain ⟨_, _, q⟩ := num_small n (by omega)
    rw [List.mem_singleton.mp (show w ∈ [numS n] from hw)]
    exact q
  | fac f =>
    obtain ⟨h1, h2⟩ := Bool.and_eq_true_iff.mp (show (decide (1 ≤ f) && decide (f ≤ 12)) = true from h)
    have h2 := of_decide_eq_true h2
    obtain ⟨_, _, q⟩ := num_small f (by omega)
    by_cases hf : f ≤ 1
    · have e : itW (.fac f) = [("k" : Str)] := if_pos hf
      rw [e] at hw
      rw [List.mem_singleton.mp hw]
      exact k
    · have e : itW (.fac f) = [numS f, ("*" : Str), ("k" : Str)] := if_neg hf
      rw [e] at hw
      simp only [List.mem_cons, List.not_mem_nil, or_false] at hw
      rcases hw with e | e | e <;> rw [e]
      · exact q
      · exact s
      · exact k
theorem sumGo_take : ∀ (us : List Str) (W : List Str) (found : List Term) (term : List Str) (sign : Int), (∀ w ∈ us, w ≠ "+" ∧ w ≠ "-") → sumGo (us ++ W) found term sign = sumGo W found (term ++ us) sign
  | [], W, found, term, sign, _ => by rw [List.nil_append, List.append_nil]
  | u :: us, W, found, term, sign, h => by
    obtain ⟨a, b⟩ := h u (by simp)
    rw [List.cons_append, sumGo, if_neg (fun z => z.elim a b), sumGo_take us W found (term ++ [u]) sign fun w hw => h w (List.mem_cons_of_mem _ hw), List.append_assoc]
    rfl
theorem sumGo_it {i : It} (h : itOk i = true) {sw : Str} (hs : sw = "+" ∨ sw = "-") (W : List Str) (found : List Term) (sign : Int) : sumGo (itW i ++ (sw :: W)) found [] sign = sumGo W (found ++ [(sign * ((itT i).1 : Nat), (itT i).2)]) [] (if sw = "+" then 1 else -1) := by
  rw [sumGo_take _ _ _ _ _ fun w hw => ⟨(it_plain h w hw).1, (it_plain h w hw).2.1⟩, List.nil_append, sumGo, if_pos hs, it_term h]
/-- sign words: false +, true - -/
def sgW (s : Bool) : Str := if s then "-" else "+"
def sgZ (s : Bool) : Int := if s then -1 else 1
def restW : List (Bool × It) → List Str
  | [] => []
  | p :: r => sgW p.1 :: (itW p.2 ++ restW r)
def termsOf (s : Bool) (i : It) : List (Bool × It) → List Term
  | [] => [(sgZ s * ((itT i).1 : Nat), (itT i).2)]
  | p :: r => (sgZ s * ((itT i).1 : Nat), (itT i).2) :: termsOf p.1 p.2 r
theorem sgW_ok (s : Bool) : (sgW s = "+" ∨ sgW s = "-") ∧ (if sgW s = "+" then (1 : Int) else -1) = sgZ s := by
  cases s <;> decide +kernel
theorem sumGo_all : ∀ (r : List (Bool × It)) (s : Bool) (i : It) (found : List Term), itOk i = true → (∀ p ∈ r, itOk p.2 = true) → sumGo (itW i ++ restW r ++ [("+" : Str)]) found [] (sgZ s) = some (found ++ termsOf s i r)
  | [], s, i, found, h, _ => by
    rw [restW, List.append_nil, sumGo_it h (.inl rfl), sumGo]
    rfl
  | p :: r, s, i, found, h, hr => by
    obtain ⟨a, b⟩ := sgW_ok p.1
    have e : itW i ++ restW (p :: r) ++ [("+" : Str)] = itW i ++ (sgW p.1 :: (itW p.2 ++ restW r ++ [("+" : Str)])) := by
      rw [restW, List.append_assoc]
      rfl
    rw [e, sumGo_it h a, b, sumGo_all r p.1 p.2 _ (hr p (by simp)) fun q hq => hr q (List.mem_cons_of_mem _ hq), List.append_assoc]
    rfl
theorem sumM_all {r : List (Bool × It)} {i : It} (h : itOk i = true) (hr : ∀ p ∈ r, itOk p.2 = true) (ok : sumOk (termsOf false i r) = true) : sumM (itW i ++ restW r) = some (termsOf false i r) := by
  unfold sumM
  have q := sumGo_all r false i [] h hr
  rw [show sgZ false = 1 from rfl, List.nil_append] at q
  rw [q]
  exact if_pos ok
end Pk
namespace L2
open PyProof.Rows PySem.Spec PySem
/-! ### text * 0, text * 1 -/
def rTimes01 : R2 := fun x y H Q => ∃ (z : Str) (b : Bool), x = .str z ∧ y = .int (if b then 1 else 0) ∧ Q (.str (if b then z else Str.empty)) H
theorem op_times01 {X : Cx} : OpR X (binaryOp .Mult) rTimes01 := by
  intro pins s σ H x y v u Q I rx ry h; obtain ⟨z, b, rfl, rfl, q⟩ := h
  obtain ⟨t, rfl⟩ := rx
  obtain ⟨t', rfl⟩ := ry
  cases b with
  | false => exact P.mul_str_none (by decide) (by decide) ⟨.str Str.empty, H, I.tok _, ⟨_, rfl⟩, q⟩
  | true =>
    refine P.mul_str (n := 1) (by decide) (fun _ z => by cases z) (fun _ z => by cases z) ?_
    rw [if_neg (show ¬ (1 : Int) < 1 by decide), if_pos (show ((1 : Int) == 1 || z.length == 0) = true by rfl)]
    exact ⟨L2.V.str z, H, I, ⟨t, rfl⟩, q⟩
end L2
namespace Pk
open L2 PyProof.Rows PySem.Spec PySem
def goodT (s : Str) : Prop := s.length ≤ 900000 ∧ (PyData.str s).canLay0 = true ∧ ∃ x, shareM s = some x
def goodK (k : RK) : Prop := k.sty ∈ STYL ∧ goodT k.cap ∧ goodT k.low
theorem goodK.lay {k : RK} (h : goodK k) : (rkD k).canLay0 = true := by
  have s : ∀ z ∈ STYL, (PyData.str z).canLay0 = true := by decide +kernel
  have a := s _ h.1
  have b := h.2.1.2.1
  have c := h.2.2.2.1
  simp only [rkD, PyData.canLay0, PyData.canLayAll0] at a b c ⊢
  rw [a, b, c]
  rfl
section
variable {K : PySem.W.Frag} {P : Program} {w : World} {base : Heap} {mg : Str → Option Value} {C fI : Addr}
/-- Rules(..) of good texts -/
theorem mk_rules {H : Hp} {Q : VK} (k : RK) (g : goodK k) {x dx : Addr} (nx : H x = none) (nd : H dx = none) (ndx : dx ≠ x) (q : ∀ H', Same H H' → RulesK C H' x k → Q .non H') :
    spInit K C [.ref x, .str k.sty, .str k.cap, .str k.low, .bl k.root] (upd (upd H dx (.own x)) x (.ins C dx [])) Q (fun _ _ _ => False) := by
  obtain ⟨hs, ⟨l1, _, x1, e1⟩, l2, _, x2, e2⟩ := g
  have nx' : upd H dx (.own x) x = none := by
    rw [upd_ne (Ne.symm ndx)]
    exact nx
  have sA : Same H (upd (upd H dx (.own x)) x (.ins C dx [])) := (same_new nd).step nx'
  refine ⟨x, dx, .str k.sty, .str k.cap, .str k.low, .bl k.root, _, _, _, rfl, upd_same, Kd.str, Kd.str, Kd.str, decide_eq_true l1, decide_eq_true l2, fun z => ?_, fun sty es => ⟨fun z => ?_, fun y1 h1 => ⟨fun z => ?_, fun y2 h2 H' kB R => q H' (fun u o e => ?_) ?_⟩⟩⟩
  · have z' : (if k.sty ∈ STYL then some k.sty else none) = none := z
    rw [if_pos hs] at z'
    cases z'
  · have z' : shareM k.cap = none := z
    rw [e1] at z'
    cases z'
  · have z' : shareM k.low = none := z
    rw [e2] at z'
    cases z'
  · have ux : u ≠ x := fun z => by
      rw [z, nx] at e
      cases e
    exact kB u o ux (sA u o e)
  · have es' : (if k.sty ∈ STYL then some k.sty else none) = some sty := es
    rw [if_pos hs] at es'
    cases es'
    exact ⟨y1, y2, R⟩
theorem RulesK.same2 {H H' : Hp} {r : Addr} {k : RK} (h : RulesK C H r k) (s : Same H H') : RulesK C H' r k := by
  obtain ⟨x1, x2, R⟩ := h
  exact ⟨x1, x2, R.same s⟩
/-- rules == rules -/
theorem eq_rules {H : Hp} {Q : VK} {r r2 : Addr} {k k2 : RK} (RC : RulesC K mg C fI) (II : InsIs K C) (h : RulesK C H r k) (h2 : RulesK C H r2 k2) (g : goodK k) (g2 : goodK k2) (nf : PySem.W.notFirst K C (.ref C) = true) (q : ∀ H', Same H H' → Q (.bl (decide (k = k2))) H') : rEqI K C (spEqR K C) (.ref r) (.ref r2) H Q := by
  obtain ⟨x1, x2, dx, os, p1, p2, cs, ls, e, _⟩ := id h
  obtain ⟨y1, y2, dx2, os2, p3, p4, cs2, ls2, e2, _⟩ := id h2
  exact ⟨r, dx, _, _, rfl, e, .base (.ins e2 RC.cls II.ha II.hn II.ht II.hm), nf, r, k, .ref r2, rfl, h, .inr ⟨r2, k2, rfl, h2, g.lay, g2.lay, fun H' s => ⟨_, rfl, q H' s⟩⟩⟩
theorem ne_rules {H : Hp} {Q : VK} {r r2 : Addr} {k k2 : RK} (RC : RulesC K mg C fI) (II : InsIs K C) (h : RulesK C H r k) (h2 : RulesK C H r2 k2) (g : goodK k) (g2 : goodK k2) (nf : PySem.W.notFirst K C (.ref C) = true) (q : ∀ H', Same H H' → Q (.bl !(decide (k = k2))) H') : rNeI K C (spEqR K C) (.ref r) (.ref r2) H Q := by
  obtain ⟨x1, x2, dx, os, p1, p2, cs, ls, e, _⟩ := id h
  obtain ⟨y1, y2, dx2, os2, p3, p4, cs2, ls2, e2, _⟩ := id h2
  exact ⟨r, dx, _, _, rfl, e, .base (.ins e2 RC.cls II.ha II.hn II.ht II.hm), nf, r, k, .ref r2, rfl, h, .inr ⟨r2, k2, rfl, h2, g.lay, g2.lay, fun H' s => ⟨_, rfl, q H' s⟩⟩⟩
/-- rules == a tuple -/
theorem eq_tuple {H : Hp} {Q : VK} {r t : Addr} {k : RK} {xs : List V} (h : RulesK C H r k) (ht : H t = some (.tup xs)) (nf : PySem.W.notFirst K C (.type "tuple") = true) (q : Q (.bl false) H) : rEqI K C (spEqR K C) (.ref r) (.ref t) H Q := by
  obtain ⟨x1, x2, dx, os, p1, p2, cs, ls, e, _⟩ := id h
  exact ⟨r, dx, _, _, rfl, e, .base (.tup ht), nf, r, k, .ref t, rfl, h, .inl ⟨t, xs, rfl, ht, ⟨_, rfl, q⟩⟩⟩
end
end Pk
namespace Pk
open L2 PyProof.Rows PySem.Spec PySem
abbrev sIfs : Stmt := top 55
def spIfs (RC : Addr) : Sp := fun vs H Q _ => ∃ (kind : Str) (r : Addr) (rk : RK) (x1 x2 : Share), vs = [.str kind, .ref r] ∧ kind ∈ KINDL ∧ RulesAt RC H r rk.sty (.str rk.cap) (.str rk.low) (.bl rk.root) x1 x2 ∧ (lineM x1).d * (lineM x2).d = 1 ∧ ∀ H', Same H H' → Q (.bl true) H'
theorem at_new {H : Hp} {a : Addr} {o : HO} (_ : H a = none) : upd H a o a = some o := upd_same
theorem ff {a b : Prop} (h : b) : if false = true then a else b := h
/-- a tuple as data -/
theorem same_tup {K : PySem.W.Frag} {H : Hp} {p : Addr} {xs : List V} {ds : List PyData} (h : H p = some (.tup xs)) (hd : DpAll K H xs ds) : Dp K H (.ref p) (.tuple ds) := .tup (SqT.of h) hd
def dIfs (n : Nat) : PyData := .tuple [.str "many", .str "ifs", .int (n : Nat), .int 7]
def dLines (n : Nat) : PyData := .tuple [.str "many", .str "lines", .int (n : Nat), .int 40]
def dLine (n : Nat) : PyData := .tuple [.str "line", .int (n : Nat)]
def dRef (n : Nat) : PyData := .tuple [.str "refused", .int (n : Nat)]
theorem shaped_ifs (n : Nat) : SeqAt.shaped (dIfs n) = true := by
  have a : (PyData.str "many").canLay0 = true := by decide +kernel
  have b : (PyData.str "ifs").canLay0 = true := by decide +kernel
  have l : (dIfs n).canLay0 = true := by
    simp only [dIfs, PyData.canLay0, PyData.canLayAll0] at a b ⊢
    rw [a, b]
    rfl
  have d : (dIfs n).depth ≤ 64 := by
    simp [dIfs, PyData.depth, PyData.depthAll]
  exact Bool.and_eq_true_iff.mpr ⟨l, decide_eq_true d⟩
abbrev nestL : List Str := List.replicate 8 ("if own < 9" : Str) ++ List.replicate 8 ("end" : Str)
abbrev othL : List Str := (List.replicate 8 ([("if own < 9" : Str), "else"])).flatten ++ List.replicate 8 ("end" : Str)
structure IfsText (ls : List Str) (n : Nat) : Prop where
  code : ∀ {kind : Str}, kind ∈ KINDL → ∀ (taken : Bool) (product : Nat), codeM (.str kind) (Txt.join "\n" ls) taken product = .ifs n
  good : ∀ l ∈ ls, goodLine l = true
  few : ls.length ≤ 40
theorem ifs_text {ls : List Str} {n m : Nat} (h : rdN (Txt.join "\n" ls) = (1, n, m)) (hm : m ≤ 40) (hn : 7 < n) (hg : ls.all goodLine = true) (hl : ls.length ≤ 40) : IfsText ls n := ⟨fun hk t p => code_ifs h hm hn hk t p, List.all_eq_true.mp hg, hl⟩
theorem sum_good : ∀ {ls : List Str}, (∀ l ∈ ls, goodLine l = true) → (ls.map (·.length)).sum ≤ 30 * ls.length
  | [], _ => Nat.le_refl _
  | l :: r, h => by
    have a := (good_parts (h l List.mem_cons_self)).2.2
    have b := sum_good (ls := r) fun x hx => h x (List.mem_cons_of_mem _ hx)
    simp only [List.map_cons, List.sum_cons, List.length_cons]; omega
theorem good_sum {ls : List Str} (h : ∀ l ∈ ls, goodLine l = true) (hl : ls.length ≤ 40) : (ls.map (·.length)).sum + ls.length * ("\n" : Str).length ≤ 16777216 := by
  have a := sum_good h
  have b : ("\n" : Str).length = 1 := by decide +kernel
  rw [b]
  omega
theorem x1 : IfsText (one 9) 9 := ifs_text t1 (by decide) (by decide) (by decide +kernel) (by decide)
theorem x2 : IfsText nestL 8 := ifs_text t2 (by decide) (by decide) (by decide +kernel) (by decide)
theorem x3 : IfsText othL 8 := ifs_text t3 (by decide) (by decide) (by decide +kernel) (by decide)
theorem x4 : IfsText ([("quit" : Str)] ++ one 8) 8 := ifs_text t4 (by decide) (by decide) (by decide +kernel) (by decide)
theorem x5 : IfsText (one 20) 20 := ifs_text t5 (by decide) (by decide) (by decide +kernel) (by decide)
/-- told of too many ifs: compared with the tuple that is due -/
theorem ne_ifs {K : PySem.W.Frag} {H : Hp} {p t : Addr} {n : Nat} {G : VK} (h1 : H p = some (.tup [.str "many", .str "ifs", .int (n : Nat), .int 7])) (h2 : H t = some (.tup [.str "many", .str "ifs", .int (n : Nat), .int 7])) (q : G (.bl false) H) : rNeD K (.ref p) (.ref t) H G := by
  refine ⟨dIfs n, dIfs n, .tup (SqT.of h1) (.cons (.str _) (.cons (.str _) (.cons (.int _) (.cons (.int _) .nil)))), .tup (SqT.of h2) (.cons (.str _) (.cons (.str _) (.cons (.int _) (.cons (.int _) .nil)))), ?_, ?_, ?_⟩
  · exact shaped_ifs n
  · exact shaped_ifs n
  · have e : PyData.eqv (dIfs n) (dIfs n) = true := by
      simp [dIfs, PyData.eqv, PyData.eqvAll]
    rw [e]
    exact q
abbrev farT : Str := Txt.join "\n" (List.replicate 41 ("quit" : Str))
abbrev rowT : List Str := ["if own < 9|if own < 9|if own < 9|if own < 9|if own < 9|if own < 9|if own < 9|if own < 9", "a = 1|a = 2|a = 3|if own < 9", "if own < 9|Quit", "end|Quit"]
abbrev eightT : Str := Txt.join "\n" (one 8)
abbrev sevenT : Str := Txt.join "\n" (one 7)
theorem far_code {kind : Str} (hk : kind ∈ KINDL) (taken : Bool) (product : Nat) : codeM (.str kind) (farT ++ "\nQuit") taken product = .lines 42 := by
  unfold codeM kindV
  dsimp only
  rw [if_pos hk]
  dsimp only
  rw [t6, if_pos (by decide)]
theorem far_ok : okT (farT ++ "\nQuit") := ⟨by decide +kernel, by decide +kernel⟩
theorem eight_ok : okT (eightT ++ "\nQuit") := ⟨by decide +kernel, by decide +kernel⟩
theorem three_ok : okT (("a = 1\na = 2\na = 3\n" : Str) ++ eightT) := ⟨by decide +kernel, by decide +kernel⟩
theorem seven_ok : okT (("a = 1\na = 2\na = 3\n" : Str) ++ sevenT) := ⟨by decide +kernel, by decide +kernel⟩
theorem shaped_lines : SeqAt.shaped (dLines 42) = true := by decide +kernel
theorem shaped_line : SeqAt.shaped (dLine 17) = true := by decide +kernel
theorem shaped_ref : SeqAt.shaped (dRef 3) = true := by decide +kernel
theorem ne_lines {K : PySem.W.Frag} {H : Hp} {p t : Addr} {G : VK} (h1 : H p = some (.tup [.str "many", .str "lines", .int 42, .int 40])) (h2 : H t = some (.tup [.str "many", .str "lines", .int 42, .int 40])) (q : G (.bl false) H) : rNeD K (.ref p) (.ref t) H G :=
  ⟨dLines 42, dLines 42, .tup (SqT.of h1) (.cons (.str _) (.cons (.str _) (.cons (.int _) (.cons (.int _) .nil)))), .tup (SqT.of h2) (.cons (.str _) (.cons (.str _) (.cons (.int _) (.cons (.int _) .nil)))), shaped_lines, shaped_lines, by
    have e : PyData.eqv (dLines 42) (dLines 42) = true := by decide +kernel
    rw [e]
    exact q⟩
theorem ne_line {K : PySem.W.Frag} {H : Hp} {p t : Addr} {G : VK} (h1 : H p = some (.tup [.str "line", .int 17])) (h2 : H t = some (.tup [.str "line", .int 17])) (q : G (.bl false) H) : rNeD K (.ref p) (.ref t) H G :=
  ⟨dLine 17, dLine 17, .tup (SqT.of h1) (.cons (.str _) (.cons (.int _) .nil)), .tup (SqT.of h2) (.cons (.str _) (.cons (.int _) .nil)), shaped_line, shaped_line, by
    have e : PyData.eqv (dLine 17) (dLine 17) = true := by decide +kernel
    rw [e]
    exact q⟩
theorem eq_ref {K : PySem.W.Frag} {H : Hp} {p t : Addr} {G : VK} (h1 : H p = some (.tup [.str "refused", .int 3])) (h2 : H t = some (.tup [.str "refused", .int 3])) (q : G (.bl true) H) : rEqD K (.ref p) (.ref t) H G :=
  ⟨dRef 3, dRef 3, .tup (SqT.of h1) (.cons (.str _) (.cons (.int _) .nil)), .tup (SqT.of h2) (.cons (.str _) (.cons (.int _) .nil)), shaped_ref, shaped_ref, by
    have e : PyData.eqv (dRef 3) (dRef 3) = true := by decide +kernel
    rw [e]
    exact q⟩
def ToldAt (H : Hp) (p : Addr) (n : Nat) : Prop := H p = some (.tup [.str "line", .int (n : Nat)])
theorem told_all {K : PySem.W.Frag} {H : Hp} : ∀ {ps : List Addr} {ns : List Nat}, Paired (ToldAt H) ps ns → DpAll K H (ps.map V.ref) (ns.map dLine)
  | _, _, .nil => .nil
  | _, _, .cons h t => .cons (.tup (SqT.of h) (.cons (.str _) (.cons (.int _) .nil))) (told_all t)
theorem five_shaped : SeqAt.shaped (.list ([9, 5, 2, 1, 3].map dLine)) = true := by decide +kernel
theorem rep7 : repS "if own < 9|" 7 ++ ("if own < 9" : Str) = ("if own < 9|if own < 9|if own < 9|if own < 9|if own < 9|if own < 9|if own < 9|if own < 9" : Str) := by decide +kernel
theorem row_five {kind : Str} (hk : kind ∈ KINDL) (taken : Bool) (product : Nat) {i : Nat} {x : V} (h : (rowT.map V.str ++ [V.str "if own < 9|else|else|Quit"])[i]? = some x) : ∃ (t : Str) (ls : List Str) (n : Nat), x = .str t ∧ Txt.split t "|" = ls ∧ [9, 5, 2, 1, 3][i]? = some n ∧ t.length + 2 ≤ sizeLine ∧ (ls.all goodLine = true ∧ ls.length ≤ 40) ∧ codeM (.str kind) (Txt.join "\n" ls) taken product = .line n := by
  match i, h with
  | 0, h => cases h; exact ⟨_, _, 9, rfl, s8, rfl, by decide +kernel, ⟨by decide +kernel, by decide⟩, code_line t8 (by decide) hk _ _⟩
  | 1, h => cases h; exact ⟨_, _, 5, rfl, s9, rfl, by decide +kernel, ⟨by decide +kernel, by decide⟩, code_line t9 (by decide) hk _ _⟩
  | 2, h => cases h; exact ⟨_, _, 2, rfl, s10, rfl, by decide +kernel, ⟨by decide +kernel, by decide⟩, code_line t10 (by decide) hk _ _⟩
  | 3, h => cases h; exact ⟨_, _, 1, rfl, s11, rfl, by decide +kernel, ⟨by decide +kernel, by decide⟩, code_line t11 (by decide) hk _ _⟩
  | 4, h => cases h; exact ⟨_, _, 3, rfl, s11b, rfl, by decide +kernel, ⟨by decide +kernel, by decide⟩, code_line t11b (by decide) hk _ _⟩
  | _ + 5, h => cases h
section
variable {K : PySem.W.Frag} {P : Program} {w : World} {base : Heap} {mg : Str → Option Value} {C fI RC fRI : Addr}
theorem sc_law_ifs_right : FnScope ["_law_kind", "_law_rules", "_law_one", "_law_nested", "_law_others", "_law_lines_here", "_law_many", "_law_far", "_law_eight", "_law_rows", "_law_found", "_law_row", "_law_line", "_law_three"] ["_law_kind", "_law_rules"] (defScope sIfs) := ⟨rfl, rfl, rfl, by decide +kernel, rfl, by decide +kernel, by decide +kernel⟩
theorem ok_law_ifs_right {f fT : Addr} {fd fdT : FuncData} (F : FunD K "_law_ifs_right" "_law_ifs_right" (defArgs sIfs) (defBody sIfs) (defScope sIfs) [] [] f fd) (FT : FunD K "_law_told" "_law_told" (defArgs sTold) (defBody sTold) (defScope sTold) [] [] fT fdT)
    (GT : FnOk P w K mg base CX0 92 fT fdT ["_law_kind", "_law_rules", "_law_text"] (spTold K RC)) (gT : mg "_law_told" = some (.ref fT)) : FnOk P w K mg base CX0 93 f fd ["_law_kind", "_law_rules"] (spIfs RC) := by
  have bT : Binds K fdT ["_law_kind", "_law_rules", "_law_text"] [] := FT.bindsN fun _ _ _ _ _ _ us hl => match us, hl with | [_, _, _], _ => rfl
  refine F.ok sc_law_ifs_right (fun vs H Q E h => ?_) (fun cdv A outer s H vs Q E hr h => ?_)
  · obtain ⟨kind, r, rk, x1, x2, rfl, _⟩ := h
    rfl
  · obtain ⟨kind, r, rk, x1, x2, rfl, hk, R, hp, q⟩ := h
    refine ⟨_, PSs.nox (C8.pss_cut (by exact (ps_set (i := 2) sc_law_ifs_right.nd rfl (Or.inl rfl) (pe_lst (pa_cons pe_str (pa_cons pe_str pa_nil))))) (C8.pss_cut (by exact (ps_set (i := 3) sc_law_ifs_right.nd rfl (Or.inl rfl) (pe_op op_cat (pe_op op_rep (pe_lst (pa_cons pe_str pa_nil)) pe_int) (pe_op op_rep (pe_lst (pa_cons pe_str pa_nil)) pe_int)))) (C8.pss_cut (by exact (ps_set (i := 4) sc_law_ifs_right.nd rfl (Or.inl rfl) (pe_op op_cat (pe_op op_rep (pe_lst (pa_cons pe_str (pa_cons pe_str pa_nil))) pe_int) (pe_op op_rep (pe_lst (pa_cons pe_str pa_nil)) pe_int)))) (C8.pss_cut (by exact (ps_for PassesOwn.never rfl (pi_list (pe_lst (pa_cons (pe_tup (pa_cons (pe_op op_rep (pv 2) pe_int) (pa_cons pe_int pa_nil))) (pa_cons (pe_tup (pa_cons (pv 3) (pa_cons pe_int pa_nil))) (pa_cons (pe_tup (pa_cons (pv 4) (pa_cons pe_int pa_nil))) (pa_cons (pe_tup (pa_cons (pe_op op_cat (pe_lst (pa_cons pe_str pa_nil)) (pe_op op_rep (pv 2) pe_int)) (pa_cons pe_int pa_nil))) (pa_cons (pe_tup (pa_cons (pe_op op_rep (pv 2) pe_int) (pa_cons pe_int pa_nil))) pa_nil))))))) (pg_tupK (n := 2) K rfl rfl (pgs_cons (pg_name (i := 5) sc_law_ifs_right.nd rfl (Or.inl rfl)) (pgs_cons (pg_name (i := 6) sc_law_ifs_right.nd rfl (Or.inl rfl)) pgs_nil))) (pss_one (by exact (ps_if (pt_cmpR (op_neDK K rfl (Room.units hr)) (pe_call GT (hr.mono (by decide)) rfl gT FT.kp bT .nil pass0 (pa_cons (pv 0) (pa_cons (pv 1) (pa_cons (pe_joinK K rfl pe_str (pv 5)) pa_nil)))) (pe_tup (pa_cons pe_str (pa_cons pe_str (pa_cons (pv 6) (pa_cons pe_int pa_nil))))) (nomark _)) (pss_one (by exact (ps_ret pe_bl))) pss_nil))))) (C8.pss_cut (by exact (ps_set (i := 7) sc_law_ifs_right.nd rfl (Or.inl rfl) (pe_joinK K rfl pe_str (pe_op op_rep (pe_lst (pa_cons pe_str pa_nil)) pe_int)))) (C8.pss_cut (by exact (ps_if (pt_cmpR (op_neDK K rfl (Room.units hr)) (pe_call GT (hr.mono (by decide)) rfl gT FT.kp bT .nil pass0 (pa_cons (pv 0) (pa_cons (pv 1) (pa_cons (pe_op op_add_str (pv 7) pe_str) pa_nil)))) (pe_tup (pa_cons pe_str (pa_cons pe_str (pa_cons pe_int (pa_cons pe_int pa_nil))))) (nomark _)) (pss_one (by exact (ps_ret pe_bl))) pss_nil)) (C8.pss_cut (by exact (ps_set (i := 8) sc_law_ifs_right.nd rfl (Or.inl rfl) (pe_joinK K rfl pe_str (pe_op op_rep (pv 2) pe_int)))) (C8.pss_cut (by exact (ps_if (pt_cmpR (op_neDK K rfl (Room.units hr)) (pe_call GT (hr.mono (by decide)) rfl gT FT.kp bT .nil pass0 (pa_cons (pv 0) (pa_cons (pv 1) (pa_cons (pe_op op_add_str (pv 8) pe_str) pa_nil)))) (pe_tup (pa_cons pe_str (pa_cons pe_int pa_nil))) (nomark _)) (pss_one (by exact (ps_ret pe_bl))) pss_nil)) (C8.pss_cut (by exact (ps_set (i := 9) sc_law_ifs_right.nd rfl (Or.inl rfl) (pe_lst (pa_cons (pe_op op_add_str (pe_op op_timesN pe_str pe_int) pe_str) (pa_cons pe_str (pa_cons pe_str (pa_cons pe_str pa_nil))))))) (C8.pss_cut (by exact (ps_setLc (i := 10) (own := [("_law_row", 11)]) (g := gName 11) (tt := tYes) rfl sc_law_ifs_right.nd rfl rfl (sw_true rfl rfl rfl (by decide +kernel)) (pi_list (pe_op op_cat (pv 9) (pe_lst (pa_cons pe_str pa_nil)))) (blkOk_by (N := ["_law_kind", "_law_rules", "_law_one", "_law_nested", "_law_others", "_law_lines_here", "_law_many", "_law_far", "_law_eight", "_law_rows", "_law_found", "_law_row", "_law_line", "_law_three"]) (sc := defScope sIfs) (by decide +kernel)) (fun _ _ _ _ _ => pg_name (i := 11) sc_law_ifs_right.nd rfl (Or.inl rfl)) (fun _ _ _ _ _ => pts_nil) (fun _ _ _ _ _ => (pe_call GT (hr.mono (by decide)) rfl gT FT.kp bT .nil pass0 (pa_cons (pv 0) (pa_cons (pv 1) (pa_cons (pe_joinK K rfl pe_str (pe_split (pv 11) pe_str)) pa_nil))))))) (C8.pss_cut (by exact (ps_if (pt_cmpR (op_neDK K rfl (Room.units hr)) (pv 10) (pe_lc (own := [("_law_line", 12)]) (g := gName 12) (tt := tYes) rfl sc_law_ifs_right.nd (pi_list (pe_lst (pa_cons pe_int (pa_cons pe_int (pa_cons pe_int (pa_cons pe_int (pa_cons pe_int pa_nil))))))) (blkOk_by (N := ["_law_kind", "_law_rules", "_law_one", "_law_nested", "_law_others", "_law_lines_here", "_law_many", "_law_far", "_law_eight", "_law_rows", "_law_found", "_law_row", "_law_line", "_law_three"]) (sc := defScope sIfs) (by decide +kernel)) (fun _ _ _ _ _ => pg_name (i := 12) sc_law_ifs_right.nd rfl (Or.inl rfl)) (fun _ _ _ _ _ => pts_nil) (fun _ _ _ _ _ => (pe_tup (pa_cons pe_str (pa_cons (pv 12) pa_nil))))) (nomark _)) (pss_one (by exact (ps_ret pe_bl))) pss_nil)) (C8.pss_cut (by exact (ps_set (i := 13) sc_law_ifs_right.nd rfl (Or.inl rfl) pe_str)) (C8.pss_cut (by exact (ps_if (pt_cmpR (op_neDK K rfl (Room.units hr)) (pe_call GT (hr.mono (by decide)) rfl gT FT.kp bT .nil pass0 (pa_cons (pv 0) (pa_cons (pv 1) (pa_cons (pe_op op_add_str (pv 13) (pv 8)) pa_nil)))) (pe_tup (pa_cons pe_str (pa_cons pe_str (pa_cons pe_int (pa_cons pe_int pa_nil))))) (nomark _)) (pss_one (by exact (ps_ret pe_bl))) pss_nil)) (pss_one (by exact (ps_ret (pe_cmpR (op_eqDK K rfl (Room.units hr)) (pe_call GT (hr.mono (by decide)) rfl gT FT.kp bT .nil pass0 (pa_cons (pv 0) (pa_cons (pv 1) (pa_cons (pe_op op_add_str (pv 13) (pe_joinK K rfl pe_str (pe_op op_rep (pv 2) pe_int))) pa_nil)))) (pe_tup (pa_cons pe_str (pa_cons pe_int pa_nil))) (nomark _)))))))))))))))))), ?_⟩
    have told : ∀ {H1 : Hp} {Q1 : VK} {E1 : XK} (t : Str), Same H H1 → okT t → (∀ p H', Same H1 H' → H1 p = none → H' p = some (.tup (toldV (.str kind) t (codeM (.str kind) t (decide (rk.sty = "taken")) 1))) → Q1 (.ref p) H') → spTold K RC [.str kind, .ref r, .str t] H1 Q1 E1 := fun t sa ot q1 => ⟨.str kind, r, t, _, rk, x1, x2, rfl, Kd.str, ot, R.same sa, by rw [hp]; exact q1⟩
    refine ⟨fun σ H1 => ∃ po, σ = [some (.str kind), some (.ref r), some (.ref po), none, none, none, none, none, none, none, none, none, none, none] ∧ Same H H1 ∧ H1 po = some (.lst [.str "if own < 9", .str "end"]), ?_, ?_⟩
    · exact ⟨by show 2 ≤ sizeLine; decide, fun po hpo => ⟨po, rfl, same_new hpo, upd_same⟩⟩
    rintro σ H1 ⟨po, rfl, s1, ho⟩
    refine ⟨fun σ H2 => ∃ pn, σ = [some (.str kind), some (.ref r), some (.ref po), some (.ref pn), none, none, none, none, none, none, none, none, none, none] ∧ Same H1 H2 ∧ H2 pn = some (.lst ((List.replicate 8 ("if own < 9" : Str) ++ List.replicate 8 ("end" : Str)).map V.str)), ?_, ?_⟩
    · refine ⟨by show 1 ≤ sizeLine; decide, fun a ha => ⟨a, 8, _, rfl, rfl, upd_same, by decide, by decide, by show 1 * 8 ≤ sizeLine; decide, fun b hb => ?_⟩⟩
      refine ⟨by show 1 ≤ sizeLine; decide, fun c hc => ⟨c, 8, _, rfl, rfl, upd_same, by decide, by decide, by show 1 * 8 ≤ sizeLine; decide, fun d hd => ?_⟩⟩
      have sb := (same_new (o := .lst [.str "if own < 9"]) ha).step (o := .lst (List.replicate (8 : Int).toNat [V.str "if own < 9"]).flatten) hb
      have sd := (same_new (o := .lst [.str "end"]) hc).step (o := .lst (List.replicate (8 : Int).toNat [V.str "end"]).flatten) hd
      refine ⟨b, d, _, _, rfl, rfl, sd _ _ upd_same, upd_same, by show 8 + 8 ≤ sizeLine; decide, fun e he => ⟨e, rfl, (sb.trans sd).step he, upd_same⟩⟩
    rintro σ H2 ⟨pn, rfl, s2, hn⟩
    refine ⟨fun σ H3 => ∃ pq, σ = [some (.str kind), some (.ref r), some (.ref po), some (.ref pn), some (.ref pq), none, none, none, none, none, none, none, none, none] ∧ Same H2 H3 ∧ H3 pq = some (.lst (((List.replicate 8 ([("if own < 9" : Str), "else"])).flatten ++ List.replicate 8 ("end" : Str)).map V.str)), ?_, ?_⟩
    · refine ⟨by show 2 ≤ sizeLine; decide, fun a ha => ⟨a, 8, _, rfl, rfl, upd_same, by decide, by decide, by show 2 * 8 ≤ sizeLine; decide, fun b hb => ?_⟩⟩
      refine ⟨by show 1 ≤ sizeLine; decide, fun c hc => ⟨c, 8, _, rfl, rfl, upd_same, by decide, by decide, by show 1 * 8 ≤ sizeLine; decide, fun d hd => ?_⟩⟩
      have sb := (same_new (o := .lst [.str "if own < 9", .str "else"]) ha).step (o := .lst (List.replicate (8 : Int).toNat [V.str "if own < 9", .str "else"]).flatten) hb
      have sd := (same_new (o := .lst [.str "end"]) hc).step (o := .lst (List.replicate (8 : Int).toNat [V.str "end"]).flatten) hd
      refine ⟨b, d, _, _, rfl, rfl, sd _ _ upd_same, upd_same, by show 16 + 8 ≤ sizeLine; decide, fun e he => ⟨e, rfl, (sb.trans sd).step he, upd_same⟩⟩
    rintro σ H3 ⟨pq, rfl, s3, hq⟩
    refine ⟨fun σ H4 => ∃ v5 v6, σ = [some (.str kind), some (.ref r), some (.ref po), some (.ref pn), some (.ref pq), v5, v6, none, none, none, none, none, none, none] ∧ Same H3 H4, ?_, ?_⟩
    · have ho3 := s3 _ _ (s2 _ _ ho)
      have hn3 := s3 _ _ hn
      refine ⟨_, rfl, po, 9, _, rfl, rfl, ho3, by decide, by decide, by show 2 * 9 ≤ sizeLine; decide, fun b1 n1 => ?_⟩
      have k1 := same_new (o := .lst (List.replicate (9 : Int).toNat [V.str "if own < 9", .str "end"]).flatten) n1
      refine ⟨by show 2 ≤ sizeLine; decide, fun c1 m1 => ?_⟩
      have k2 := k1.step (o := .tup [.ref b1, .int 9]) m1
      refine ⟨_, rfl, by show 2 ≤ sizeLine; decide, fun c2 m2 => ?_⟩
      have k3 := k2.step (o := .tup [.ref pn, .int 8]) m2
      refine ⟨_, rfl, by show 2 ≤ sizeLine; decide, fun c3 m3 => ?_⟩
      have k4 := k3.step (o := .tup [.ref pq, .int 8]) m3
      refine ⟨by show 1 ≤ sizeLine; decide, fun b4 n4 => ?_⟩
      have k5 := k4.step (o := .lst [.str "quit"]) n4
      refine ⟨_, rfl, po, 8, _, rfl, rfl, k5 _ _ ho3, by decide, by decide, by show 2 * 8 ≤ sizeLine; decide, fun b5 n5 => ?_⟩
      have i6 := same_new (o := .lst (List.replicate (8 : Int).toNat [V.str "if own < 9", .str "end"]).flatten) n5
      have k6 := k5.step (o := .lst (List.replicate (8 : Int).toNat [V.str "if own < 9", .str "end"]).flatten) n5
      refine ⟨b4, b5, _, _, rfl, rfl, i6 _ _ upd_same, upd_same, by show 1 + 16 ≤ sizeLine; decide, fun b6 n6 => ?_⟩
      have k7 := k6.step (o := .lst ([V.str "quit"] ++ (List.replicate (8 : Int).toNat [V.str "if own < 9", .str "end"]).flatten)) n6
      refine ⟨by show 2 ≤ sizeLine; decide, fun c4 m4 => ?_⟩
      have k8 := k7.step (o := .tup [.ref b6, .int 8]) m4
      refine ⟨_, rfl, po, 20, _, rfl, rfl, k8 _ _ ho3, by decide, by decide, by show 2 * 20 ≤ sizeLine; decide, fun b7 n7 => ?_⟩
      have k9 := k8.step (o := .lst (List.replicate (20 : Int).toNat [V.str "if own < 9", .str "end"]).flatten) n7
      refine ⟨by show 2 ≤ sizeLine; decide, fun c5 m5 => ?_⟩
      have k10 := k9.step (o := .tup [.ref b7, .int 20]) m5
      refine ⟨by show 5 ≤ sizeLine; decide, fun pl nl => ?_⟩
      have k11 := k10.step (o := .lst [.ref c1, .ref c2, .ref c3, .ref c4, .ref c5]) nl
      have f10 := same_new (o := .lst [.ref c1, .ref c2, .ref c3, .ref c4, .ref c5]) nl
      have f9 := (same_new (o := .tup [.ref b7, .int 20]) m5).trans f10
      have f8 := (same_new (o := .lst (List.replicate (20 : Int).toNat [V.str "if own < 9", .str "end"]).flatten) n7).trans f9
      have f7 := (same_new (o := .tup [.ref b6, .int 8]) m4).trans f8
      have f6 := (same_new (o := .lst ([V.str "quit"] ++ (List.replicate (8 : Int).toNat [V.str "if own < 9", .str "end"]).flatten)) n6).trans f7
      have f5 := i6.trans f6
      have f4 := (same_new (o := .lst [.str "quit"]) n4).trans f5
      have f3 := (same_new (o := .tup [.ref pq, .int 8]) m3).trans f4
      have f2 := (same_new (o := .tup [.ref pn, .int 8]) m2).trans f3
      have f1 := (same_new (o := .tup [.ref b1, .int 9]) m1).trans f2
      have C1 := f2 _ _ (upd_same (o := .tup [.ref b1, .int 9]))
      have C2 := f3 _ _ (upd_same (o := .tup [.ref pn, .int 8]))
      have C3 := f4 _ _ (upd_same (o := .tup [.ref pq, .int 8]))
      have C4 := f8 _ _ (upd_same (o := .tup [.ref b6, .int 8]))
      have C5 := f10 _ _ (upd_same (o := .tup [.ref b7, .int 20]))
      have L1 := f1 _ _ (upd_same (o := .lst (List.replicate (9 : Int).toNat [V.str "if own < 9", .str "end"]).flatten))
      have L4 := f7 _ _ (upd_same (o := .lst ([V.str "quit"] ++ (List.replicate (8 : Int).toNat [V.str "if own < 9", .str "end"]).flatten)))
      have L5 := f9 _ _ (upd_same (o := .lst (List.replicate (20 : Int).toNat [V.str "if own < 9", .str "end"]).flatten))
      have PL := at_new nl (o := .lst [.ref c1, .ref c2, .ref c3, .ref c4, .ref c5])
      have hn11 := k11 _ _ hn3
      have hq11 := k11 _ _ hq
      clear f10 f9 f8 f7 f6 f5 f4 f3 f2 f1 i6 k1 k2 k3 k4 k5 k6 k7 k8 k9 k10
      generalize upd _ pl _ = HF at k11 C1 C2 C3 C4 C5 L1 L4 L5 PL hn11 hq11 ⊢
      refine ⟨pl, rfl, ⟨_, SqL.of PL⟩, for_list (K := K) (a := pl) (xs := [V.ref c1, .ref c2, .ref c3, .ref c4, .ref c5]) (fun i σ H' => ∃ v5 v6, σ = [some (.str kind), some (.ref r), some (.ref po), some (.ref pn), some (.ref pq), v5, v6, none, none, none, none, none, none, none] ∧ Same HF H') ?_ ?_ ?_ ?_⟩
      · exact ⟨none, none, rfl, Same.refl _⟩
      · exact fun i σ H' _ ⟨_, _, _, h⟩ => SqL.of (h _ _ PL)
      · rintro i x σ H' e ⟨v5, v6, rfl, s4⟩
        have t : ∃ (c l : Addr) (ls : List Str) (n : Nat), x = .ref c ∧ H' c = some (.tup [.ref l, .int (n : Nat)]) ∧ H' l = some (.lst (ls.map V.str)) ∧ IfsText ls n := by
          match i, e with
          | 0, e => cases e; exact ⟨c1, b1, one 9, 9, rfl, s4 _ _ C1, s4 _ _ L1, Pk.x1⟩
          | 1, e => cases e; exact ⟨c2, pn, _, 8, rfl, s4 _ _ C2, s4 _ _ hn11, Pk.x2⟩
          | 2, e => cases e; exact ⟨c3, pq, _, 8, rfl, s4 _ _ C3, s4 _ _ hq11, x3⟩
          | 3, e => cases e; exact ⟨c4, b6, [("quit" : Str)] ++ one 8, 8, rfl, s4 _ _ C4, s4 _ _ L4, x4⟩
          | 4, e => cases e; exact ⟨c5, b7, one 20, 20, rfl, s4 _ _ C5, s4 _ _ L5, x5⟩
        obtain ⟨c, l, ls, n, rfl, hc, hl, it⟩ := t
        refine ⟨c, _, rfl, SqT.of hc, rfl, ?_⟩
        refine ⟨_, _, rfl, _, _, rfl, rfl, ?_⟩
        refine ⟨_, rfl, _, rfl, ⟨_, rfl⟩, _, rfl, "\n", l, ls, rfl, rfl, .inl (SqL.of hl), good_sum it.good it.few, ?_⟩
        dsimp only [tC, tCons, tNil]
        refine told _ (s1.trans (s2.trans (s3.trans (k11.trans s4)))) (okT_join it.good (Nat.le_trans it.few (by decide))) fun p H4 s5 np hp4 => ?_
        rw [it.code hk] at hp4
        refine ⟨_, rfl, by show 4 ≤ sizeLine; decide, fun t ht => ?_⟩
        have s6 := same_new (o := .tup [.str "many", .str "ifs", .int (n : Nat), .int 7]) ht
        refine ne_ifs (s6 _ _ hp4) upd_same ?_
        exact ⟨false, rfl, ff ⟨_, _, rfl, s4.trans (s5.trans s6)⟩⟩
      · rintro σ H' ⟨v5, v6, rfl, s4⟩
        exact ⟨v5, v6, rfl, k11.trans s4⟩
    rintro σ H4 ⟨v5, v6, rfl, s4⟩
    refine ⟨fun σ H5 => σ = [some (.str kind), some (.ref r), some (.ref po), some (.ref pn), some (.ref pq), v5, v6, some (.str farT), none, none, none, none, none, none] ∧ Same H4 H5, ?_, ?_⟩
    · refine ⟨⟨_, rfl⟩, by show 1 ≤ sizeLine; decide, fun b1 n1 => ⟨b1, 41, [.str "quit"], rfl, rfl, upd_same, by decide, by decide, by show 1 * 41 ≤ sizeLine; decide, fun b2 n2 => ?_⟩⟩
      have k1 := same_new (o := .lst [.str "quit"]) n1
      have k2 := k1.step (o := .lst (List.replicate (41 : Int).toNat [V.str "quit"]).flatten) n2
      exact ⟨"\n", b2, List.replicate 41 ("quit" : Str), rfl, rfl, .inl (SqL.of upd_same), by decide +kernel, rfl, k2⟩
    rintro σ H5 ⟨rfl, s5⟩
    have s05 := s1.trans (s2.trans (s3.trans (s4.trans s5)))
    refine ⟨fun σ H6 => σ = [some (.str kind), some (.ref r), some (.ref po), some (.ref pn), some (.ref pq), v5, v6, some (.str farT), none, none, none, none, none, none] ∧ Same H5 H6, ?_, ?_⟩
    · refine ⟨_, rfl, _, rfl, _, rfl, farT, "\nQuit", rfl, rfl, by decide +kernel, ?_⟩
      dsimp only [tC, tCons, tNil]
      refine told _ s05 far_ok fun p H6 s6 np hp6 => ?_
      rw [far_code hk] at hp6
      refine ⟨by show 4 ≤ sizeLine; decide, fun t ht => ?_⟩
      have s7 := same_new (o := .tup [.str "many", .str "lines", .int 42, .int 40]) ht
      refine ne_lines (s7 _ _ hp6) upd_same ?_
      exact ⟨false, rfl, ff ⟨rfl, s6.trans s7⟩⟩
    rintro σ H6 ⟨rfl, s6⟩
    refine ⟨fun σ H7 => σ = [some (.str kind), some (.ref r), some (.ref po), some (.ref pn), some (.ref pq), v5, v6, some (.str farT), some (.str eightT), none, none, none, none, none] ∧ Same H6 H7, ?_, ?_⟩
    · have ho6 := (s2.trans (s3.trans (s4.trans (s5.trans s6)))) _ _ ho
      refine ⟨⟨_, rfl⟩, _, rfl, po, 8, _, rfl, rfl, ho6, by decide, by decide, by show 2 * 8 ≤ sizeLine; decide, fun b2 n2 => ?_⟩
      have k2 := same_new (o := .lst (List.replicate (8 : Int).toNat [V.str "if own < 9", .str "end"]).flatten) n2
      exact ⟨"\n", b2, one 8, rfl, rfl, .inl (SqL.of upd_same), by decide +kernel, rfl, k2⟩
    rintro σ H7 ⟨rfl, s7⟩
    refine ⟨fun σ H8 => σ = [some (.str kind), some (.ref r), some (.ref po), some (.ref pn), some (.ref pq), v5, v6, some (.str farT), some (.str eightT), none, none, none, none, none] ∧ Same H7 H8, ?_, ?_⟩
    · refine ⟨_, rfl, _, rfl, _, rfl, eightT, "\nQuit", rfl, rfl, by decide +kernel, ?_⟩
      dsimp only [tC, tCons, tNil]
      refine told _ (s05.trans (s6.trans s7)) eight_ok fun p H8 s8 np hp8 => ?_
      rw [code_line t7 (by decide) hk] at hp8
      refine ⟨by show 2 ≤ sizeLine; decide, fun t ht => ?_⟩
      have s9 := same_new (o := .tup [.str "line", .int 17]) ht
      refine ne_line (s9 _ _ hp8) upd_same ?_
      exact ⟨false, rfl, ff ⟨rfl, s8.trans s9⟩⟩
    rintro σ H8 ⟨rfl, s8⟩
    have s08 := s05.trans (s6.trans (s7.trans s8))
    refine ⟨fun σ H9 => ∃ pr, σ = [some (.str kind), some (.ref r), some (.ref po), some (.ref pn), some (.ref pq), v5, v6, some (.str farT), some (.str eightT), some (.ref pr), none, none, none, none] ∧ Same H8 H9 ∧ H9 pr = some (.lst (rowT.map V.str)), ?_, ?_⟩
    · refine ⟨"if own < 9|", 7, rfl, rfl, by decide, by decide, by decide +kernel, by decide +kernel, by decide +kernel, by decide +kernel, _, _, rfl, rfl, by decide +kernel, by show 4 ≤ sizeLine; decide, fun pr npr => ⟨pr, rfl, same_new npr, ?_⟩⟩
      rw [rep7]
      exact upd_same
    rintro σ H9 ⟨pr, rfl, s9, hr9⟩
    refine ⟨fun σ H10 => ∃ pf ps, σ = [some (.str kind), some (.ref r), some (.ref po), some (.ref pn), some (.ref pq), v5, v6, some (.str farT), some (.str eightT), some (.ref pr), some (.ref pf), none, none, none] ∧ Same H9 H10 ∧ H10 pf = some (.lst (ps.map V.ref)) ∧ Paired (ToldAt H10) ps [9, 5, 2, 1, 3], ?_, ?_⟩
    · refine ⟨_, rfl, by show 1 ≤ sizeLine; decide, fun b1 n1 => ?_⟩
      have k1 := same_new (o := .lst [.str "if own < 9|else|else|Quit"]) n1
      refine ⟨pr, b1, _, _, rfl, rfl, k1 _ _ hr9, upd_same, by show 4 + 1 ≤ sizeLine; decide, fun l nl => ?_⟩
      have k2 := k1.step (o := .lst (rowT.map V.str ++ [V.str "if own < 9|else|else|Quit"])) nl
      have hl := at_new nl (o := .lst (rowT.map V.str ++ [V.str "if own < 9|else|else|Quit"]))
      generalize upd _ l _ = HL at k2 hl ⊢
      refine ⟨l, rfl, ⟨_, SqL.of hl⟩, fun D hD => lc_list (K := K) (a := l) (xs := rowT.map V.str ++ [V.str "if own < 9|else|else|Quit"]) (fun i H' => ∃ ps, Same HL H' ∧ H' D = some (.lst (ps.map V.ref)) ∧ ps.length = i ∧ Paired (ToldAt H') ps ([9, 5, 2, 1, 3].take i)) ⟨[], same_new hD, upd_same, rfl, .nil⟩ (fun i H' _ ⟨_, h, _⟩ => SqL.of (h _ _ hl)) ?_ ?_⟩
      · intro i x H' hi ⟨ps, sp, hp5, hlen, hpa⟩
        refine ⟨rfl, ?_⟩
        obtain ⟨tx, ls, n, rfl, e1, e2, e3, e4, e5⟩ := row_five hk (decide (rk.sty = "taken")) 1 hi
        refine ⟨_, rfl, _, rfl, ⟨_, rfl⟩, _, rfl, ⟨_, rfl⟩, tx, "|", rfl, rfl, by decide +kernel, e3, fun pL nL => ?_⟩
        have k3 := same_new (o := .lst ((Txt.split tx "|").map V.str)) nL
        refine ⟨"\n", pL, ls, rfl, rfl, .inl (SqL.of (by rw [← e1]; exact upd_same)), good_sum (List.all_eq_true.mp e4.1) e4.2, ?_⟩
        dsimp only [tC, tCons, tNil]
        refine told _ ((s08.trans s9).trans (k2.trans (sp.trans k3))) (okT_join (List.all_eq_true.mp e4.1) (Nat.le_trans e4.2 (by decide))) fun p H4 s4' np hp4 => ?_
        rw [e5] at hp4
        have hd4 := s4' _ _ (k3 _ _ hp5)
        have ne : ∀ {q : Addr} {xs : List V}, H4 q = some (.tup xs) → q ≠ D := fun e z => by
          rw [z, hd4] at e
          cases e
        refine ⟨_, hd4, ?_, ps ++ [p], fun u o e => ?_, ?_, ?_, ?_⟩
        · rw [List.length_map, hlen]
          exact Nat.lt_of_lt_of_le (List.getElem?_eq_some_iff.mp hi).1 (by decide)
        · rw [upd_ne (fun z => by rw [z, hD] at e; cases e)]
          exact s4' _ _ (k3 _ _ (sp _ _ e))
        · rw [upd_same, List.map_append]
          rfl
        · rw [List.length_append, hlen]
          rfl
        · rw [List.take_add_one, e2]
          refine paired_snoc ?_ (Paired.mapP hpa fun q n e => ?_)
          · show upd H4 D _ p = _
            rw [upd_ne (ne hp4)]
            exact hp4
          · show upd H4 D _ q = _
            have e : H' q = _ := e
            have e4 := s4' _ _ (k3 _ _ e)
            rw [upd_ne (ne e4)]
            exact e4
      · rintro H' ⟨ps, sp, hp5, hlen, hpa⟩
        exact ⟨D, ps, rfl, k2.trans sp, hp5, hpa⟩
    rintro σ HA ⟨pf, ps, rfl, sA, hpf, hps⟩
    refine ⟨fun σ HB => σ = [some (.str kind), some (.ref r), some (.ref po), some (.ref pn), some (.ref pq), v5, v6, some (.str farT), some (.str eightT), some (.ref pr), some (.ref pf), none, none, none] ∧ Same HA HB, ?_, ?_⟩
    · refine ⟨_, rfl, by show 5 ≤ sizeLine; decide, fun l nl => ?_⟩
      have k2 := same_new (o := .lst [.int 9, .int 5, .int 2, .int 1, .int 3]) nl
      have hl := at_new nl (o := .lst [.int 9, .int 5, .int 2, .int 1, .int 3])
      generalize upd _ l _ = HL at k2 hl ⊢
      refine ⟨l, rfl, ⟨_, SqL.of hl⟩, fun D hD => lc_list (K := K) (a := l) (xs := [.int 9, .int 5, .int 2, .int 1, .int 3]) (fun i H' => ∃ qs, Same HL H' ∧ H' D = some (.lst (qs.map V.ref)) ∧ qs.length = i ∧ Paired (ToldAt H') qs ([9, 5, 2, 1, 3].take i)) ⟨[], same_new hD, upd_same, rfl, .nil⟩ (fun i H' _ ⟨_, h, _⟩ => SqL.of (h _ _ hl)) ?_ ?_⟩
      · intro i x H' hi ⟨qs, sp, hp5, hlen, hpa⟩
        refine ⟨rfl, ?_⟩
        have t : ∃ n : Nat, x = .int (n : Nat) ∧ [9, 5, 2, 1, 3][i]? = some n := by
          match i, hi with
          | 0, e => cases e; exact ⟨9, rfl, rfl⟩
          | 1, e => cases e; exact ⟨5, rfl, rfl⟩
          | 2, e => cases e; exact ⟨2, rfl, rfl⟩
          | 3, e => cases e; exact ⟨1, rfl, rfl⟩
          | 4, e => cases e; exact ⟨3, rfl, rfl⟩
        obtain ⟨n, rfl, e2⟩ := t
        refine ⟨_, rfl, by show 2 ≤ sizeLine; decide, fun p np => ?_⟩
        have s4' := same_new (o := .tup [.str "line", .int (n : Nat)]) np
        have hp4 := at_new np (o := .tup [.str "line", .int (n : Nat)])
        generalize upd _ p _ = H4 at s4' hp4 ⊢
        have hd4 := s4' _ _ hp5
        have ne : ∀ {q : Addr} {xs : List V}, H4 q = some (.tup xs) → q ≠ D := fun e z => by
          rw [z, hd4] at e
          cases e
        refine ⟨_, hd4, ?_, qs ++ [p], fun u o e => ?_, ?_, ?_, ?_⟩
        · rw [List.length_map, hlen]
          exact Nat.lt_of_lt_of_le (List.getElem?_eq_some_iff.mp hi).1 (by decide)
        · rw [upd_ne (fun z => by rw [z, hD] at e; cases e)]
          exact s4' _ _ (sp _ _ e)
        · rw [upd_same, List.map_append]
          rfl
        · rw [List.length_append, hlen]
          rfl
        · rw [List.take_add_one, e2]
          refine paired_snoc ?_ (Paired.mapP hpa fun q n e => ?_)
          · show upd H4 D _ p = _
            rw [upd_ne (ne hp4)]
            exact hp4
          · show upd H4 D _ q = _
            have e : H' q = _ := e
            have e4 := s4' _ _ e
            rw [upd_ne (ne e4)]
            exact e4
      · rintro H' ⟨qs, sp, hp5, hlen, hpa⟩
        refine ⟨_, _, .lst (SqL.of ((k2.trans sp) _ _ hpf)) (told_all (L2.Paired.mapP hps fun q n e => (k2.trans sp) _ _ e)), .lst (SqL.of hp5) (told_all hpa), five_shaped, five_shaped, ?_⟩
        have e : PyData.eqv (.list ([9, 5, 2, 1, 3].map dLine)) (.list ([9, 5, 2, 1, 3].map dLine)) = true := by decide +kernel
        refine ⟨false, ?_, ff ⟨rfl, k2.trans sp⟩⟩
        show V.bl (!PyData.eqv (.list ([9, 5, 2, 1, 3].map dLine)) (.list ([9, 5, 2, 1, 3].map dLine))) = _
        rw [e]
        rfl
    rintro σ HB ⟨rfl, sB⟩
    refine ⟨fun σ HC => σ = [some (.str kind), some (.ref r), some (.ref po), some (.ref pn), some (.ref pq), v5, v6, some (.str farT), some (.str eightT), some (.ref pr), some (.ref pf), none, none, some (.str "a = 1\na = 2\na = 3\n")] ∧ Same HB HC, ?_, ?_⟩
    · exact ⟨rfl, Same.refl _⟩
    rintro σ HC ⟨rfl, sC⟩
    have s0C := s08.trans (s9.trans (sA.trans (sB.trans sC)))
    refine ⟨fun σ HD => σ = [some (.str kind), some (.ref r), some (.ref po), some (.ref pn), some (.ref pq), v5, v6, some (.str farT), some (.str eightT), some (.ref pr), some (.ref pf), none, none, some (.str "a = 1\na = 2\na = 3\n")] ∧ Same HC HD, ?_, ?_⟩
    · refine ⟨_, rfl, _, rfl, _, rfl, _, rfl, _, _, rfl, rfl, by decide +kernel, ?_⟩
      dsimp only [tC, tCons, tNil]
      refine told _ s0C three_ok fun p H6 s6' np hp6 => ?_
      rw [code_ifs t12 (by decide) (by decide) hk] at hp6
      refine ⟨by show 4 ≤ sizeLine; decide, fun t ht => ?_⟩
      have s7' := same_new (o := .tup [.str "many", .str "ifs", .int (8 : Nat), .int 7]) ht
      refine ne_ifs (s7' _ _ hp6) upd_same ?_
      exact ⟨false, rfl, ff ⟨rfl, s6'.trans s7'⟩⟩
    rintro σ HD ⟨rfl, sD⟩
    have hoD := (s2.trans (s3.trans (s4.trans (s5.trans (s6.trans (s7.trans (s8.trans (s9.trans (sA.trans (sB.trans (sC.trans sD))))))))))) _ _ ho
    refine ⟨_, rfl, _, rfl, _, rfl, ⟨_, rfl⟩, _, rfl, po, 7, _, rfl, rfl, hoD, by decide, by decide, by show 2 * 7 ≤ sizeLine; decide, fun b2 n2 => ?_⟩
    have k2 := same_new (o := .lst (List.replicate (7 : Int).toNat [V.str "if own < 9", .str "end"]).flatten) n2
    refine ⟨"\n", b2, one 7, rfl, rfl, .inl (SqL.of upd_same), by decide +kernel, _, _, rfl, rfl, by decide +kernel, ?_⟩
    dsimp only [tC, tCons, tNil]
    refine told _ (s0C.trans (sD.trans k2)) seven_ok fun p H6 s6' np hp6 => ?_
    rw [code_refused t13 (by decide) hk] at hp6
    refine ⟨by show 2 ≤ sizeLine; decide, fun t ht => ?_⟩
    have s7' := same_new (o := .tup [.str "refused", .int (3 : Nat)]) ht
    refine eq_ref (s7' _ _ hp6) upd_same ?_
    exact q _ (s0C.trans (sD.trans (k2.trans (s6'.trans s7'))))
end
end Pk
namespace L2
open PyProof.Rows PySem.Spec PySem
/-! ### two tuples of the very same items, whatever these are -/
def SameIt (v : V) : Prop := flatB v = true ∨ ∃ c, v = .ref c
theorem same_items {A : Around} {s : Shared} : ∀ {xs : List V} {us ws : List Value}, (∀ v ∈ xs, SameIt v) → Vals xs us → Vals xs ws → ∀ j (h1 : j < us.length) (h2 : j < ws.length), SeqAt.EqAt A s us[j] ws[j] true
  | _, _, _, _, .nil, _, j, h1, _ => absurd h1 (Nat.not_lt_zero j)
  | v :: r, _, _, h, .cons a1 b1, .cons a2 b2, 0, _, _ => by
    rcases h v List.mem_cons_self with f | ⟨c, rfl⟩
    · exact eqAt_same a1 a2 f
    · rename_i u _ u' _ _ _
      cases (show u = Value.ref c from a1)
      cases (show u' = Value.ref c from a2)
      exact SeqAt.EqAt.same _
  | v :: r, _, _, h, .cons a1 b1, .cons a2 b2, j + 1, h1, h2 => same_items (fun x hx => h x (List.mem_cons_of_mem _ hx)) b1 b2 j (Nat.lt_of_succ_lt_succ h1) (Nat.lt_of_succ_lt_succ h2)
def rNeM (K : PySem.W.Frag) : R2 := fun x y H Q => rNeD K x y H Q ∨ ∃ a b xs, x = .ref a ∧ y = .ref b ∧ SqT K H a xs ∧ SqT K H b xs ∧ (∀ v ∈ xs, SameIt v) ∧ Q (.bl false) H
theorem op_neM {X : Cx} (K : PySem.W.Frag) (e : X.K = K) (hu : X.A.units + 64 < cLine) : OpR X (compareOp .NotEq) (rNeM K) := by
  subst e
  intro pins s σ H x y v u Q I rx ry h; rcases h with h | ⟨a, b, xs, rfl, rfl, ha, hb, hf, q⟩
  · exact op_neD hu pins s σ H x y v u Q I rx ry h
  · cases (show v = Value.ref a from rx); cases (show u = Value.ref b from ry)
    obtain ⟨us, r1, p1, _⟩ := I.tuple ha
    obtain ⟨ws, r2, p2, _⟩ := I.tuple hb
    refine SeqAt.RcNeAt.tuples (e := fun _ => true) p1 p2 (by omega) (fun j h1 h2 => ?_) X.prog X.w _ _ ?_
    · have k := same_items (A := X.A.in1) (s := s) hf r1 r2 j (by simpa using h1) (by simpa using h2)
      simpa using k
    · have e : us.toArray.size = ws.toArray.size := by
        rw [List.size_toArray, List.size_toArray]; rw [← r1.length, ← r2.length]
      rw [e, Nat.min_self, show ((List.range ws.toArray.size).all fun _ => true) = true from List.all_eq_true.mpr fun _ _ => rfl, beq_self_eq_true]
      exact ⟨.bl false, H, I, rfl, q⟩
end L2
namespace Pk
open L2 PyProof.Rows PySem.Spec PySem
/-! codes made, and compared -/
section
variable {K : PySem.W.Frag} {P : Program} {w : World} {base : Heap} {mg : Str → Option Value} {C fI RC fRI : Addr}
theorem mk_code {H : Hp} {Q : VK} {kind t : Str} {r : Addr} {k : RK} (ht : okT t) (R : RulesK RC H r k) (hm : ∀ p, ∃ rows, codeM (.str kind) t (decide (k.sty = "taken")) p = .made kind rows) {x dx : Addr} (nx : H x = none) (nd : H dx = none) (ndx : dx ≠ x) (q : ∀ H', Same H H' → CodeK C RC H' x kind t r k → Q .non H') :
    spCodeI K C RC [.ref x, .str kind, .ref r, .str t] (upd (upd H dx (.own x)) x (.ins C dx [])) Q (fun _ _ _ => False) := by
  have nx' : upd H dx (.own x) x = none := by
    rw [upd_ne (Ne.symm ndx)]
    exact nx
  have sA : Same H (upd (upd H dx (.own x)) x (.ins C dx [])) := (same_new nd).step nx'
  obtain ⟨x1, x2, R⟩ := R
  obtain ⟨rows, ec⟩ := hm ((lineM x1).d * (lineM x2).d)
  refine ⟨x, dx, r, .str kind, t, _, k.sty, _, _, _, x1, x2, rfl, upd_same, Kd.str, ht, R.same sA, fun y fs ef => ?_, fun kind' rows' ec' H' ls ra tb rr fr k1 Z _ nls nra ntb => ?_⟩
  · rw [ec] at ef
    cases ef
  · rw [ec] at ec'
    cases ec'
    have sZ : Same H H' := fun u o e => k1 u o (fun z => by rw [z, nx] at e; cases e) (sA u o e)
    exact q H' sZ ⟨⟨x1, x2, R.same sZ⟩, rows, dx, ls, ra, tb, rr, fr, Z⟩
theorem kind_lay {kind t : Str} (hk : kind ∈ KINDL) (ht : okT t) : (ckD kind t).canLay0 = true := by
  have a : ∀ z ∈ KINDL, (PyData.str z).canLay0 = true := by decide +kernel
  have b := a _ hk
  have c := ht.2
  simp only [ckD, PyData.canLay0, PyData.canLayAll0] at b c ⊢
  rw [b, c]
  rfl
theorem eq_codes {H : Hp} {Q : VK} {c c2 r r2 : Addr} {kind kind2 t t2 : Str} {k k2 : RK} (CC : CodeC K mg C fI) (II : InsC K C) (nf : PySem.W.notFirst K C (.ref C) = true) (h : CodeK C RC H c kind t r k) (h2 : CodeK C RC H c2 kind2 t2 r2 k2) (hk : kind ∈ KINDL) (hk2 : kind2 ∈ KINDL) (ht : okT t) (ht2 : okT t2) (g : goodK k) (g2 : goodK k2)
    (q : ∀ H', Same H H' → Q (.bl (decide (kind = kind2 ∧ t = t2 ∧ k = k2))) H') : rEqI K C (spCEq K C RC) (.ref c) (.ref c2) H Q := by
  obtain ⟨_, _, _, _, _, _, _, _, Z⟩ := id h
  obtain ⟨_, _, _, _, _, _, _, _, Z2⟩ := id h2
  exact ⟨c, _, _, _, rfl, Z.h, .base (.ins Z2.h CC.cls II.ha II.hn II.ht II.hm), nf, c, r, .ref c2, kind, t, k, rfl, h, .inr ⟨c2, r2, kind2, t2, k2, rfl, h2, kind_lay hk ht, kind_lay hk2 ht2, g.lay, g2.lay, fun H' s => ⟨_, rfl, q H' s⟩⟩⟩
theorem ne_codes {H : Hp} {Q : VK} {c c2 r r2 : Addr} {kind kind2 t t2 : Str} {k k2 : RK} (CC : CodeC K mg C fI) (II : InsC K C) (nf : PySem.W.notFirst K C (.ref C) = true) (h : CodeK C RC H c kind t r k) (h2 : CodeK C RC H c2 kind2 t2 r2 k2) (hk : kind ∈ KINDL) (hk2 : kind2 ∈ KINDL) (ht : okT t) (ht2 : okT t2) (g : goodK k) (g2 : goodK k2)
    (q : ∀ H', Same H H' → Q (.bl !(decide (kind = kind2 ∧ t = t2 ∧ k = k2))) H') : rNeI K C (spCEq K C RC) (.ref c) (.ref c2) H Q := by
  obtain ⟨_, _, _, _, _, _, _, _, Z⟩ := id h
  obtain ⟨_, _, _, _, _, _, _, _, Z2⟩ := id h2
  exact ⟨c, _, _, _, rfl, Z.h, .base (.ins Z2.h CC.cls II.ha II.hn II.ht II.hm), nf, c, r, .ref c2, kind, t, k, rfl, h, .inr ⟨c2, r2, kind2, t2, k2, rfl, h2, kind_lay hk ht, kind_lay hk2 ht2, g.lay, g2.lay, fun H' s => ⟨_, rfl, q H' s⟩⟩⟩
theorem eq_text {H : Hp} {Q : VK} {c r : Addr} {kind t z : Str} {k : RK} (nf : PySem.W.notFirst K C (.type "str") = true) (h : CodeK C RC H c kind t r k) (q : Q (.bl false) H) : rEqI K C (spCEq K C RC) (.ref c) (.str z) H Q := by
  obtain ⟨_, _, _, _, _, _, _, _, Z⟩ := id h
  exact ⟨c, _, _, _, rfl, Z.h, .base (.str z), nf, c, r, .str z, kind, t, k, rfl, h, .inl ⟨z, rfl, ⟨_, rfl, q⟩⟩⟩
end
def shD (s : Str) : Option Nat := (shareM s).map fun x => (lineM x).d
theorem d2k : shD "2 * k" = some 1 := by decide +kernel
theorem d3k : shD "3 * k" = some 1 := by decide +kernel
theorem d1k : shD "k" = some 1 := by decide +kernel
theorem shD_get {s : Str} {n : Nat} (h : shD s = some n) : ∃ x, shareM s = some x := by
  unfold shD at h
  cases e : shareM s with
  | none => (rw [e] at h; cases h)
  | some x => exact ⟨x, rfl⟩
theorem shD_eq {s : Str} {n : Nat} {x : Share} (h : shD s = some n) (e : shareM s = some x) : (lineM x).d = n := by
  unfold shD at h
  rw [e] at h
  exact Option.some.inj h
theorem gT2 : goodT "2 * k" := ⟨by decide +kernel, by decide +kernel, shD_get d2k⟩
theorem gT3 : goodT "3 * k" := ⟨by decide +kernel, by decide +kernel, shD_get d3k⟩
theorem gT1 : goodT "k" := ⟨by decide +kernel, by decide +kernel, shD_get d1k⟩
theorem good_2k {sty : Str} (h : sty ∈ STYL) (b : Bool) : goodK ⟨sty, "2 * k", "k", b⟩ := ⟨h, gT2, gT1⟩
theorem good_3k {sty : Str} (h : sty ∈ STYL) (b : Bool) : goodK ⟨sty, "3 * k", "k", b⟩ := ⟨h, gT3, gT1⟩
theorem RulesK.keepD {RC : Addr} {H H' : Hp} {r b : Addr} {k : RK} {kvs : List (Key × V)} (h : RulesK RC H r k) (hb : H b = some (.dK kvs)) (kp : KeepB b H H') : RulesK RC H' r k := by
  obtain ⟨x1, x2, dx, os, p1, p2, cs, ls, h1, h2, h3, h4, h5, h6, h7, h8⟩ := h
  have t : ∀ b' xs, H b' = some (.tup xs) → H' b' = some (.tup xs) := fun b' xs e => kp b' _ (fun z => by rw [z, hb] at e; cases e) e
  exact ⟨x1, x2, dx, os, p1, p2, cs, ls, kp _ _ (fun z => by rw [z, hb] at h1; cases h1) h1, h2, h3, t _ _ h4, h5.tk t, h6.tk t, t _ _ h7, t _ _ h8⟩
end Pk
namespace Pk
open L2 PyProof.Rows PySem.Spec PySem
/-! plain facts -/
theorem joinL_snoc {S q : List Nat} : ∀ {ps : List (List Nat)}, ps ≠ [] → TL.joinL S (ps ++ [q]) = TL.joinL S ps ++ (S ++ q)
  | [], h => absurd rfl h
  | [a], _ => by simp [TL.joinL]
  | a :: b :: r, _ => by
    have ih := joinL_snoc (S := S) (q := q) (ps := b :: r) (by simp)
    simp only [List.cons_append, TL.joinL] at ih ⊢
    rw [ih]
    simp
theorem join_none : Txt.join "\n" ([] : List Str) = "" := by decide +kernel
theorem join_snoc {ls : List Str} (h : ls ≠ []) : Txt.join "\n" (ls ++ [("quit" : Str)]) = Txt.join "\n" ls ++ ("\nquit" : Str) := by
  apply TL.ext_tl
  rw [TL.tl_append, TL.join_eq, TL.join_eq, TL.tl_join, TL.tl_join, List.map_append]
  rw [show [("quit" : Str)].map TL.tl = [TL.tl "quit"] from rfl, joinL_snoc (by simpa using h)]
  rw [show TL.tl "\nquit" = TL.tl "\n" ++ TL.tl "quit" from by decide +kernel]
theorem text_none {ls : List Str} (h : ∀ l ∈ ls, goodLine l = true) : Txt.join "\n" ls = "" ↔ ls = [] := by
  constructor
  · intro e
    have a := lines_join h
    rw [e] at a
    exact a.symm.trans (by decide +kernel)
  · rintro rfl
    exact join_none
theorem text_more {ls : List Str} (h : ∀ l ∈ ls, goodLine l = true) :
    Txt.join "\n" ls ++ (if (!decide (V.str (Txt.join "\n" ls) = V.str "")) = true then ("\nquit" : Str) else Str.empty) ++ (if decide (V.str (Txt.join "\n" ls) = V.str "") = true then ("quit" : Str) else Str.empty) = Txt.join "\n" (ls ++ [("quit" : Str)]) := by
  by_cases e : ls = []
  · subst e
    rw [join_none]
    decide +kernel
  · have n : Txt.join "\n" ls ≠ "" := fun z => e ((text_none h).mp z)
    have d : decide (V.str (Txt.join "\n" ls) = V.str "") = false := decide_eq_false fun z => n (V.str.inj z)
    rw [d, join_snoc e]
    have z : ∀ s : Str, s ++ Str.empty = s := fun s => by
      apply TL.ext_tl
      rw [TL.tl_append, show TL.tl Str.empty = [] from by decide +kernel, List.append_nil]
    rw [if_pos (show (!false) = true from rfl), if_neg (by decide), z]
theorem text_ne {ls : List Str} (h : ∀ l ∈ ls, goodLine l = true) : Txt.join "\n" ls ≠ Txt.join "\n" (ls ++ [("quit" : Str)]) := fun e => by
  have g : ∀ l ∈ ls ++ [("quit" : Str)], goodLine l = true := fun l hl => by
    rcases List.mem_append.mp hl with m | m
    · exact h l m
    · rw [List.mem_singleton.mp m]
      decide +kernel
  have a := lines_join h
  rw [e, lines_join g] at a
  have := congrArg List.length a
  simp at this
theorem lines_snoc (x : Nat) (picks : List Nat) : linesOf x (picks ++ [3]) = linesOf x picks ++ [("quit" : Str)] := by
  unfold linesOf
  rw [List.flatMap_append]
  rfl
theorem lines_quit (x n : Nat) : linesOf x (List.replicate n 3) = List.replicate n ("quit" : Str) := by
  induction n with
  | zero => rfl
  | succ n ih =>
    rw [List.replicate_succ, List.replicate_succ, ← ih]
    rfl
theorem fours_quit (n : Nat) : fours (List.replicate n 3) = 0 := by
  unfold fours
  rw [List.filter_replicate]
  rfl
theorem fours_snoc (picks : List Nat) : fours (picks ++ [3]) = fours picks := by
  unfold fours
  rw [List.filter_append]
  show (_ ++ []).length = _
  rw [List.append_nil]
theorem PicksOk.lines {x : Nat} {picks : List Nat} (h : PicksOk picks) : (linesOf x picks).length ≤ 36 := by
  rw [lines_len]
  have a := h.few
  have b := h.fours
  omega
section
variable {x : Nat} {picks : List Nat} {kind : Str}
theorem made_drawn (hx : x < 60) (h : PicksOk picks) (hk : kind ∈ KINDL) (taken : Bool) (product : Nat) : ∃ rows, codeM (.str kind) (Txt.join "\n" (linesOf x picks)) taken product = .made kind rows :=
  ⟨_, made_lines hx h.five h.fours (Nat.le_trans h.lines (by decide)) hk taken product⟩
theorem made_more (hx : x < 60) (h : PicksOk picks) (hk : kind ∈ KINDL) (taken : Bool) (product : Nat) : ∃ rows, codeM (.str kind) (Txt.join "\n" (linesOf x picks ++ [("quit" : Str)])) taken product = .made kind rows := by
  rw [← lines_snoc]
  refine ⟨_, made_lines hx (fun p hp => ?_) (by rw [fours_snoc]; exact h.fours) ?_ hk taken product⟩
  · rcases List.mem_append.mp hp with m | m
    · exact h.five p m
    · rw [List.mem_singleton.mp m]
      decide
  · rw [lines_snoc, List.length_append]
    have := h.lines (x := x)
    show _ + 1 ≤ 40
    omega
theorem made_none (hk : kind ∈ KINDL) (taken : Bool) (product : Nat) : ∃ rows, codeM (.str kind) "" taken product = .made kind rows := by
  have := made_lines (x := 0) (by decide) (picks := []) (by simp) (by decide) (by decide) hk taken product
  rw [show Txt.join "\n" (linesOf 0 []) = "" from join_none] at this
  exact ⟨_, this⟩
theorem quit_good (n : Nat) : ∀ l ∈ List.replicate n ("quit" : Str), goodLine l = true := fun l hl => by
  rw [List.eq_of_mem_replicate hl]
  decide +kernel
theorem made_quit {n : Nat} (hn : n ≤ 40) (hk : kind ∈ KINDL) (taken : Bool) (product : Nat) : ∃ rows, codeM (.str kind) (Txt.join "\n" (List.replicate n ("quit" : Str))) taken product = .made kind rows := by
  rw [← lines_quit 0]
  refine ⟨_, made_lines (by decide) (fun p hp => ?_) (by rw [fours_quit]; decide) (by rw [lines_quit, List.length_replicate]; exact hn) hk taken product⟩
  rw [List.eq_of_mem_replicate hp]
  decide
end
/-! the values that are no kinds -/
abbrev kodL (l t d : Addr) : List V := [.str "Over", .str "", .str "cut", .int 5, .non, .ref l, .ref t, .ref d, .bl true]
theorem _root_.Pk.Kd.dK {K : PySem.W.Frag} {H : Hp} {a : Addr} {xs : List (Key × V)} (h : H a = some (.dK xs)) (st : ∀ H', Same H H' → H' a = some (.dK xs)) : Kd K H (.ref a) (.type "dict") := ⟨fun _ s => .base (.dK (st _ s)), kit_ty (r := false) (by decide +kernel), kit_ty (r := false) (by decide +kernel), kit_ty (r := false) (by decide +kernel)⟩
theorem kod_at {K : PySem.W.Frag} {H : Hp} {l t d : Addr} {x1 x2 : List V} {x3 : List (Key × V)} (e1 : H l = some (.lst x1)) (e2 : H t = some (.tup x2)) (e3 : H d = some (.dK x3)) {a : Int} (h0 : 0 ≤ a) (h1 : a < 9) :
    ∃ v tk, atI (kodL l t d) a = some v ∧ Kd K H v tk ∧ kindV v = none ∧ SameIt v := by
  obtain ⟨n, rfl⟩ := Int.eq_ofNat_of_zero_le h0; have hn : n < 9 := by omega
  match n, hn with
  | 0, _ => exact ⟨_, _, rfl, Kd.str, by decide +kernel, .inl rfl⟩
  | 1, _ => exact ⟨_, _, rfl, Kd.str, by decide +kernel, .inl rfl⟩
  | 2, _ => exact ⟨_, _, rfl, Kd.str, by decide +kernel, .inl rfl⟩
  | 3, _ => exact ⟨_, _, rfl, Kd.int, rfl, .inl rfl⟩
  | 4, _ => exact ⟨_, _, rfl, Kd.non, rfl, .inl rfl⟩
  | 5, _ => exact ⟨_, _, rfl, Kd.lst e1, rfl, .inr ⟨_, rfl⟩⟩
  | 6, _ => exact ⟨_, _, rfl, Kd.tup e2, rfl, .inr ⟨_, rfl⟩⟩
  | 7, _ => exact ⟨_, _, rfl, Kd.dK e3 fun _ s => s _ _ e3, rfl, .inr ⟨_, rfl⟩⟩
  | 8, _ => exact ⟨_, _, rfl, Kd.bl, rfl, .inl rfl⟩
theorem bad_kind {v : V} (h : kindV v = none) (t : Str) (taken : Bool) (product : Nat) : codeM v t taken product = .badKind := by
  unfold codeM
  rw [h]
end Pk
namespace Pk
open L2 PyProof.Rows PySem.Spec PySem
abbrev sLaw : Stmt := top 56
theorem at_upd {H : Hp} {a : Addr} {o : HO} : upd H a o a = some o := upd_same
theorem flat_all {xs : List V} (h : xs.all flatB = true) : ∀ v ∈ xs, SameIt v := fun v hv => .inl (List.all_eq_true.mp h v hv)
theorem okN : okT "" := ⟨by decide +kernel, by decide +kernel⟩
theorem rep_one {α : Type} (x : α) (n : Nat) : (List.replicate ((n : Nat) : Int).toNat [x]).flatten = List.replicate n x := by
  rw [Int.toNat_natCast]
  induction n with
  | zero => rfl
  | succ n ih => rw [List.replicate_succ, List.replicate_succ, List.flatten_cons, ih]; rfl
theorem sum_quit {m : Nat} (h : m ≤ 42) : ((List.replicate m ("quit" : Str)).map (·.length)).sum + (List.replicate m ("quit" : Str)).length * ("\n" : Str).length ≤ 16777216 := by
  have a := sum_good (quit_good m)
  have b : ("\n" : Str).length = 1 := by decide +kernel
  rw [List.length_replicate] at a ⊢
  rw [b]
  omega
def dueV (kind : Str) (m : Nat) : List V := if m > 40 then [.str "many", .str "lines", .int (m : Nat), .int 40] else [.str "made", .str kind, .str (Txt.join "\n" (List.replicate m ("quit" : Str))), .int (m : Nat)]
theorem told_quit {kind : Str} (hk : kind ∈ KINDL) {m : Nat} (tk : Bool) (pr : Nat) : toldV (.str kind) (Txt.join "\n" (List.replicate m ("quit" : Str))) (codeM (.str kind) (Txt.join "\n" (List.replicate m ("quit" : Str))) tk pr) = dueV kind m := by
  unfold dueV
  by_cases h : m > 40
  · rw [if_pos h, many_lines (quit_good m) (by rw [List.length_replicate]; exact h) hk, List.length_replicate]
    rfl
  · rw [if_neg h]
    obtain ⟨rows, e⟩ := made_quit (n := m) (by omega) hk tk pr
    rw [e]
    unfold toldV
    rw [lines_join (quit_good m), List.length_replicate]
theorem due_flat (kind : Str) (m : Nat) : (dueV kind m).all flatB = true := by
  unfold dueV
  split <;> rfl
def spLaw1 (K : PySem.W.Frag) : Sp := fun vs H Q _ => ∃ (a : Addr) (ns : List Int), vs = [.ref a] ∧ SqL K H a (ns.map V.int) ∧ ns.length ≤ 63 ∧ ∀ H', Q (.bl true) H'
section
variable {K : PySem.W.Frag} {P : Program} {w : World} {base : Heap} {mg : Str → Option Value} {C fI RC fRI : Addr}
theorem sc_law : FnScope ["_law_script", "_law_bag_here", "_law_kinds", "_law_odd", "_law_kind", "_law_lines_here", "_law_style", "_law_rules", "_law_text", "_law_code", "_law_place", "_law_wrong", "_law_many", "_law_far", "_law_due"] ["_law_script"] (defScope sLaw) := ⟨rfl, rfl, rfl, by decide +kernel, rfl, by decide +kernel, by decide +kernel⟩
theorem ok_law {f fB fD fL fT fF fE fQ fG fN : Addr} {fd fdB fdD fdL fdT fdF fdI fdC fdE fdQ fdG fdN : FuncData} {ds : List Value} (F : FunD K "law" "law" (defArgs sLaw) (defBody sLaw) (defScope sLaw) [] [] f fd)
    (FB : FunD K "_law_bag" "_law_bag" (defArgs sBag) (defBody sBag) (defScope sBag) [] [] fB fdB) (FD : FunD K "_law_draw" "_law_draw" (defArgs sDraw) (defBody sDraw) (defScope sDraw) [] [] fD fdD) (FL : FunD K "_law_lines" "_law_lines" (defArgs sLines) (defBody sLines) (defScope sLines) [] [] fL fdL)
    (FT : FunD K "_law_told" "_law_told" (defArgs sTold) (defBody sTold) (defScope sTold) [] [] fT fdT) (FF : FunD K "_law_ifs_right" "_law_ifs_right" (defArgs sIfs) (defBody sIfs) (defScope sIfs) [] [] fF fdF)
    (GB : FnOk P w K mg base CX0 1 fB fdB ["_law_script"] (spBag K)) (GD : FnOk P w K mg base CX0 1 fD fdD ["_law_bag_here", "_law_limit"] spDraw) (GL : FnOk P w K mg base CX0 2 fL fdL ["_law_bag_here"] spLines) (GT : FnOk P w K mg base CX0 92 fT fdT ["_law_kind", "_law_rules", "_law_text"] (spTold K RC)) (GF : FnOk P w K mg base CX0 93 fF fdF ["_law_kind", "_law_rules"] (spIfs RC))
    (gB : mg "_law_bag" = some (.ref fB)) (gD : mg "_law_draw" = some (.ref fD)) (gL : mg "_law_lines" = some (.ref fL)) (gT : mg "_law_told" = some (.ref fT)) (gF : mg "_law_ifs_right" = some (.ref fF))
    (RR : RulesC K mg RC fRI) (GI : FnOk P w K mg base (L2.CX P w) 6 fRI fdI ["self", "style", "cap", "low", "root"] (spInit K RC)) (bI : Binds K fdI ["self", "style", "cap", "low", "root"] []) (bI3 : Binds K fdI ["self", "style", "cap", "low", "root"] ds) (dI : Vals [V.bl true] ds)
    (CC : CodeC K mg C fI) (GC : FnOk P w K mg base (L2.CX P w) 90 fI fdC ["self", "kind", "rules", "text"] (spCodeI K C RC)) (bC : Binds K fdC ["self", "kind", "rules", "text"] [])
    (EQR : EqC K RC fE) (GE : FnOk P w K mg base CX0 1 fE fdE ["self", "other"] (spEqR K RC)) (bE : Binds K fdE ["self", "other"] []) (nfR : PySem.W.notFirst K RC (.ref RC) = true) (IR : InsIs K RC)
    (EQC : EqC K C fQ) (GQ : FnOk P w K mg base CX0 2 fQ fdQ ["self", "other"] (spCEq K C RC)) (bQ : Binds K fdQ ["self", "other"] []) (nfC : PySem.W.notFirst K C (.ref C) = true) (nfS : PySem.W.notFirst K C (.type "str") = true) (IC : InsC K C)
    (OG : OwnC K C fG "__getitem__") (GG : FnOk P w K mg base CX0 1 fG fdG ["self", "k"] (spCGet C RC)) (bG : Binds K fdG ["self", "k"] []) (OL : OwnC K C fN "__len__") (GN : FnOk P w K mg base CX0 1 fN fdN ["self"] (spCLen C RC)) (bN : Binds K fdN ["self"] [])
    (mRange : mg "range" = none) (mLen : mg "len" = none) (mInt : mg "int" = none) (mList : mg "list" = none) : FnOk P w K mg base CX0 94 f fd ["_law_script"] (spLaw1 K) := by
  have bB : Binds K fdB ["_law_script"] [] := FB.bindsN fun _ _ _ _ _ _ us hl => match us, hl with | [_], _ => rfl
  have bD : Binds K fdD ["_law_bag_here", "_law_limit"] [] := FD.bindsN fun _ _ _ _ _ _ us hl => match us, hl with | [_, _], _ => rfl
  have bL : Binds K fdL ["_law_bag_here"] [] := FL.bindsN fun _ _ _ _ _ _ us hl => match us, hl with | [_], _ => rfl
  have bT : Binds K fdT ["_law_kind", "_law_rules", "_law_text"] [] := FT.bindsN fun _ _ _ _ _ _ us hl => match us, hl with | [_, _, _], _ => rfl
  have bF : Binds K fdF ["_law_kind", "_law_rules"] [] := FF.bindsN fun _ _ _ _ _ _ us hl => match us, hl with | [_, _], _ => rfl
  refine F.ok sc_law (fun vs H Q E h => ?_) (fun cdv A outer s H vs Q E hr h => ?_)
  · obtain ⟨a, ns, rfl, _⟩ := h
    rfl
  · obtain ⟨a, ns, rfl, hS, hl, q⟩ := h
    refine ⟨_, PSs.nox (C8.pss_cut (by exact (ps_set (i := 1) sc_law.nd rfl (Or.inl rfl) (pe_call GB (hr.mono (by decide)) rfl gB FB.kp bB .nil pass0 (pa_cons (pv 0) pa_nil)))) (C8.pss_cut (by exact (ps_par (i := 2) (j := 3) rfl sc_law.nd rfl rfl (by decide) rfl rfl (pa_cons (pe_lst (pa_cons pe_str (pa_cons pe_str pa_nil))) (pa_cons (pe_lst (pa_cons pe_str (pa_cons pe_str (pa_cons pe_str (pa_cons pe_int (pa_cons pe_non (pa_cons (pe_lst (pa_cons pe_str pa_nil)) (pa_cons (pe_tup (pa_cons pe_str pa_nil)) (pa_cons (pe_disp (pps_cons pe_str pe_int pps_nil) (by rfl) (by rfl) (fun z => by cases z) (by decide)) (pa_cons pe_bl pa_nil)))))))))) pa_nil)) rfl)) (C8.pss_cut (by exact (ps_par3 (i := 4) (j := 5) (l := 6) rfl sc_law.nd rfl rfl rfl (by decide) (by decide) (by decide) rfl rfl rfl (pa_cons (pe_ix (ix_listK K rfl) (pv 2) (pe_call GD (hr.mono (by decide)) rfl gD FD.kp bD .nil pass0 (pa_cons (pv 1) (pa_cons pe_int pa_nil))) (fun _ _ => rfl)) (pa_cons (pe_call GL (hr.mono (by decide)) rfl gL FL.kp bL .nil pass0 (pa_cons (pv 1) pa_nil)) (pa_cons (pe_ix (ix_listK K rfl) (pe_lst (pa_cons pe_str (pa_cons pe_str pa_nil))) (pe_call GD (hr.mono (by decide)) rfl gD FD.kp bD .nil pass0 (pa_cons (pv 1) (pa_cons pe_int pa_nil))) (fun _ _ => rfl)) pa_nil))) rfl)) (C8.pss_cut (by exact (ps_par (i := 7) (j := 8) rfl sc_law.nd rfl rfl (by decide) rfl rfl (pa_cons (pe_make RR.made GI (hr.mono (by decide)) rfl RR.g bI3 dI passF (pa_cons (pv 6) (pa_cons pe_str (pa_cons pe_str pa_nil)))) (pa_cons (pe_joinK K rfl pe_str (pv 5)) pa_nil)) rfl)) (C8.pss_cut (by exact (ps_if (pt_cmpR (op_neM K rfl (Room.units hr)) (pe_call GT (hr.mono (by decide)) rfl gT FT.kp bT .nil pass0 (pa_cons (pv 4) (pa_cons (pv 7) (pa_cons (pv 8) pa_nil)))) (pe_tup (pa_cons pe_str (pa_cons (pv 4) (pa_cons (pv 8) (pa_cons (pe_callB call_len_seq (by rfl) mLen PySem.boot_len (pa_cons (pv 5) pa_nil)) pa_nil))))) (nomark _)) (pss_one (by exact (ps_ret pe_bl))) pss_nil)) (C8.pss_cut (by exact (ps_set (i := 9) sc_law.nd rfl (Or.inl rfl) (pe_make CC.made GC (hr.mono (by decide)) rfl CC.g bC .nil passF (pa_cons (pv 4) (pa_cons (pv 7) (pa_cons (pv 8) pa_nil)))))) (C8.pss_cut (by exact (ps_for PassesOwn.never rfl (pi_range1 rfl mRange (pa_cons (pe_callB call_len_seq (by rfl) mLen PySem.boot_len (pa_cons (pv 5) pa_nil)) pa_nil)) (pg_name (i := 10) sc_law.nd rfl (Or.inl rfl)) (pss_one (by exact (ps_if (pt_cmpR op_ne (pe_ixI K rfl OG GG bG (hr.mono (by decide)) (pv 9) (pe_op op_add (pv 10) pe_int)) (pe_ix (ix_listK K rfl) (pv 5) (pv 10) (fun _ _ => rfl)) (nomark _)) (pss_one (by exact (ps_ret pe_bl))) pss_nil))))) (C8.pss_cut (by exact (ps_if (PW.pt (pw_or (pt_cmpR (op_neI K rfl EQR GE bE (hr.mono (by decide))) (pe_fld (pv 9) rfl) (pv 7) (nomark _)) (pw_or (pt_cmpR (op_eqI K rfl EQC GQ bQ (hr.mono (by decide))) (pv 9) (pv 8) (nomark _)) (pw_or1 (pt_cmpR (op_neI K rfl EQC GQ bQ (hr.mono (by decide))) (pv 9) (pe_make CC.made GC (hr.mono (by decide)) rfl CC.g bC .nil passF (pa_cons (pv 4) (pa_cons (pe_make RR.made GI (hr.mono (by decide)) rfl RR.g bI3 dI passF (pa_cons (pv 6) (pa_cons pe_str (pa_cons pe_str pa_nil)))) (pa_cons (pe_join pe_str (pe_callTy call_list_of (by rfl) mList (by decide +kernel) (pa_cons (pv 5) pa_nil))) pa_nil)))) (nomark _)))))) (pss_one (by exact (ps_ret pe_bl))) pss_nil)) (C8.pss_cut (by exact (ps_if (PW.pt (pw_or (pt_cmpR (op_eqI K rfl EQC GQ bQ (hr.mono (by decide))) (pv 9) (pe_make CC.made GC (hr.mono (by decide)) rfl CC.g bC .nil passF (pa_cons (pe_ix (ix_listK K rfl) (pv 2) (pe_op op_sub pe_int (pe_bmK K rfl PySem.F.plainAttrs_list PySem.F.slot_list_index PySem.F.type_list_index mt_index (pv 2) (pa_cons (pv 4) pa_nil))) (fun _ _ => rfl)) (pa_cons (pv 7) (pa_cons (pv 8) pa_nil)))) (nomark _)) (pw_or1 (pt_cmpR (op_eqI K rfl EQC GQ bQ (hr.mono (by decide))) (pv 9) (pe_make CC.made GC (hr.mono (by decide)) rfl CC.g bC .nil passF (pa_cons (pv 4) (pa_cons (pe_make RR.made GI (hr.mono (by decide)) rfl RR.g bI3 dI passF (pa_cons (pv 6) (pa_cons pe_str (pa_cons pe_str pa_nil)))) (pa_cons (pv 8) pa_nil)))) (nomark _))))) (pss_one (by exact (ps_ret pe_bl))) pss_nil)) (C8.pss_cut (by exact (ps_if (pt_cmpR (op_eqI K rfl EQC GQ bQ (hr.mono (by decide))) (pv 9) (pe_make CC.made GC (hr.mono (by decide)) rfl CC.g bC .nil passF (pa_cons (pv 4) (pa_cons (pv 7) (pa_cons (pe_op op_add_str (pe_op op_add_str (pv 8) (pe_op op_times01 pe_str (pe_callTy call_int1 (by rfl) mInt (by decide +kernel) (pa_cons (pe_cmpR op_ne (pv 8) pe_str (nomark _)) pa_nil)))) (pe_op op_times01 pe_str (pe_callTy call_int1 (by rfl) mInt (by decide +kernel) (pa_cons (pe_cmpR op_eq (pv 8) pe_str (nomark _)) pa_nil)))) pa_nil)))) (nomark _)) (pss_one (by exact (ps_ret pe_bl))) pss_nil)) (C8.pss_cut (by exact (ps_if (PW.pt (pw_or (pt_cmpR (op_eqI K rfl EQC GQ bQ (hr.mono (by decide))) (pv 9) (pe_make CC.made GC (hr.mono (by decide)) rfl CC.g bC .nil passF (pa_cons (pv 4) (pa_cons (pe_make RR.made GI (hr.mono (by decide)) rfl RR.g bI .nil passF (pa_cons (pv 6) (pa_cons pe_str (pa_cons pe_str (pa_cons pe_bl pa_nil))))) (pa_cons (pv 8) pa_nil)))) (nomark _)) (pw_or1 (pt_cmpR op_ne (pe_callB (call_lenI OL GN bN (hr.mono (by decide))) (by rfl) mLen PySem.boot_len (pa_cons (pe_make CC.made GC (hr.mono (by decide)) rfl CC.g bC .nil passF (pa_cons (pv 4) (pa_cons (pv 7) (pa_cons pe_str pa_nil)))) pa_nil)) pe_int (nomark _))))) (pss_one (by exact (ps_ret pe_bl))) pss_nil)) (C8.pss_cut (by exact (ps_par (i := 11) (j := 12) rfl sc_law.nd rfl rfl (by decide) rfl rfl (pa_cons (pe_ix (ix_listK K rfl) (pv 3) (pe_call GD (hr.mono (by decide)) rfl gD FD.kp bD .nil pass0 (pa_cons (pv 1) (pa_cons pe_int pa_nil))) (fun _ _ => rfl)) (pa_cons (pe_op op_add pe_int (pe_call GD (hr.mono (by decide)) rfl gD FD.kp bD .nil pass0 (pa_cons (pv 1) (pa_cons pe_int pa_nil)))) pa_nil)) rfl)) (C8.pss_cut (by exact (ps_set (i := 13) sc_law.nd rfl (Or.inl rfl) (pe_joinK K rfl pe_str (pe_op op_rep (pe_lst (pa_cons pe_str pa_nil)) (pv 12))))) (C8.pss_cut (by exact (ps_set (i := 14) sc_law.nd rfl (Or.inl rfl) (pe_ifExp (pt_cmpR op_gt (pv 12) pe_int (nomark _)) (pe_tup (pa_cons pe_str (pa_cons pe_str (pa_cons (pv 12) (pa_cons pe_int pa_nil))))) (pe_tup (pa_cons pe_str (pa_cons (pv 4) (pa_cons (pv 13) (pa_cons (pv 12) pa_nil)))))))) (C8.pss_cut (by exact (ps_if (PW.pt (pw_or (pt_cmpR (op_neM K rfl (Room.units hr)) (pe_call GT (hr.mono (by decide)) rfl gT FT.kp bT .nil pass0 (pa_cons (pv 4) (pa_cons (pv 7) (pa_cons (pv 13) pa_nil)))) (pv 14) (nomark _)) (pw_or1 (pt_cmpR (op_neM K rfl (Room.units hr)) (pe_call GT (hr.mono (by decide)) rfl gT FT.kp bT .nil pass0 (pa_cons (pv 11) (pa_cons (pv 7) (pa_cons (pv 13) pa_nil)))) (pe_tup (pa_cons pe_str (pa_cons (pv 11) pa_nil))) (nomark _))))) (pss_one (by exact (ps_ret pe_bl))) pss_nil)) (pss_one (by exact (ps_ret (pe_call GF hr rfl gF FF.kp bF .nil pass0 (pa_cons (pv 4) (pa_cons (pv 7) pa_nil))))))))))))))))))))), ?_⟩
    refine ⟨fun σ H1 => ∃ b c o, σ = [some (.ref a), some (.ref b), none, none, none, none, none, none, none, none, none, none, none, none, none] ∧ H1 b = some o ∧ BagO c ns.length 0 o ∧ H1 c = some (.lst (ns.map V.int)), ?_, ?_⟩
    · refine ⟨_, rfl, a, ns, rfl, hS, hl, fun b c o hb hc hcb hB => ⟨b, c, o, rfl, upd_same, hB, ?_⟩⟩
      rw [upd_ne hcb]
      exact upd_same
    rintro σ H1 ⟨b, c, o, rfl, b1, B1, c1⟩
    obtain ⟨kv1, rfl⟩ := B1.dict
    refine ⟨fun σ H2 => ∃ lk lo l t d, σ = [some (.ref a), some (.ref b), some (.ref lk), some (.ref lo), none, none, none, none, none, none, none, none, none, none, none] ∧ Same H1 H2 ∧ H2 lk = some (.lst [.str "over", .str "under"]) ∧ H2 lo = some (.lst (kodL l t d)) ∧ H2 l = some (.lst [.str "over"]) ∧ H2 t = some (.tup [.str "under"]) ∧ H2 d = some (.dK [(.inr "over", .int 1)]) ∧ d ≠ b, ?_, ?_⟩
    · refine ⟨by show 2 ≤ sizeLine; decide, fun lk n1 => ?_⟩
      have k1 := same_new (o := .lst [.str "over", .str "under"]) n1
      refine ⟨by show 1 ≤ sizeLine; decide, fun l n2 => ?_⟩
      have k2 := same_new (o := .lst [.str "over"]) n2
      refine ⟨by show 1 ≤ sizeLine; decide, fun t n3 => ?_⟩
      have k3 := same_new (o := .tup [.str "under"]) n3
      intro d n4
      refine ⟨upd_same, [(.inr "over", .int 1)], rfl, by decide, ?_⟩
      have k4 := same_new (o := .dK [(.inr "over", .int 1)]) n4
      rw [upd_upd]
      refine ⟨by show 9 ≤ sizeLine; decide, fun lo n5 => ?_⟩
      have k5 := same_new (o := .lst (kodL l t d)) n5
      refine ⟨_, _, rfl, lk, lo, l, t, d, rfl, k1.trans (k2.trans (k3.trans (k4.trans k5))), (k2.trans (k3.trans (k4.trans k5))) _ _ upd_same, upd_same, (k3.trans (k4.trans k5)) _ _ upd_same, (k4.trans k5) _ _ upd_same, k5 _ _ upd_same, fun z => ?_⟩
      rw [z] at n4
      have := (k1.trans (k2.trans k3)) _ _ b1
      rw [n4] at this
      cases this
    rintro σ H2 ⟨lk, lo, l, t, d, rfl, s2, hk2, ho2, hl2, ht2, hd2, db⟩
    have b2 := s2 _ _ b1
    have c2 := s2 _ _ c1
    refine ⟨fun σ H3 => ∃ (kind sty : Str) (x : Nat) (picks : List Nat) (p : Addr) (o : HO) (n : Int), σ = [some (.ref a), some (.ref b), some (.ref lk), some (.ref lo), some (.str kind), some (.ref p), some (.str sty), none, none, none, none, none, none, none, none] ∧ KeepB b H2 H3 ∧ kind ∈ KINDL ∧ sty ∈ STYL ∧ x < 60 ∧ PicksOk picks ∧ H3 p = some (.lst ((linesOf x picks).map V.str)) ∧ H3 b = some o ∧ BagO c ns.length n o ∧ n ≤ 1000, ?_, ?_⟩
    · refine ⟨_, rfl, _, rfl, b, c, ns, 2, 0, _, rfl, by decide, by decide, b2, B1, by omega, c2, fun a3 o3 a30 a31 B3 => ?_⟩
      have cb : c ≠ b := fun z => by
        rw [z, b2] at c2
        cases c2
      have lkb : lk ≠ b := fun z => by
        rw [z, b2] at hk2
        cases hk2
      obtain ⟨kv3, rfl⟩ := B3.dict
      have k3 : KeepB b H2 (upd H2 b (.dK kv3)) := KeepB.upd
      have b3 := at_upd (H := H2) (a := b) (o := .dK kv3)
      generalize upd H2 b (.dK kv3) = H3 at k3 b3 ⊢
      obtain ⟨kind, hkind, hat⟩ : ∃ kind : Str, kind ∈ KINDL ∧ atI [V.str "over", .str "under"] a3 = some (.str kind) := by
        have h : a3 = 0 ∨ a3 = 1 := by omega
        rcases h with rfl | rfl
        · exact ⟨"over", by decide, rfl⟩
        · exact ⟨"under", by decide, rfl⟩
      refine ⟨lk, _, _, .str kind, rfl, rfl, SqL.of (k3 _ _ lkb hk2), hat, ?_⟩
      have c3 := k3 _ _ cb c2
      refine ⟨_, rfl, b, c, ns, 1, _, rfl, b3, B3, by omega, c3, fun x picks p o4 n4 H4 hx hp k4 b4 B4 hn4 np hp4 => ?_⟩
      obtain ⟨kv4, rfl⟩ := B4.dict
      refine ⟨by show 2 ≤ sizeLine; decide, fun ls nls => ?_⟩
      have s5 := same_new (o := .lst [.str "taken", .str "copied"]) nls
      have b5 := s5 _ _ b4
      have c5 := s5 _ _ (k4 _ _ cb c3)
      have l5 := at_upd (H := H4) (a := ls) (o := .lst [.str "taken", .str "copied"])
      generalize upd H4 ls (.lst [.str "taken", .str "copied"]) = H5 at s5 b5 c5 l5 ⊢
      refine ⟨_, rfl, b, c, ns, 2, n4, _, rfl, by decide, by decide, b5, B4, by omega, c5, fun a6 o6 a60 a61 B6 => ?_⟩
      obtain ⟨kv6, rfl⟩ := B6.dict
      have lsb : ls ≠ b := fun z => by
        rw [z, b5] at l5
        cases l5
      have pb : p ≠ b := fun z => by
        rw [z, b4] at hp4
        cases hp4
      have k6 : KeepB b H5 (upd H5 b (.dK kv6)) := KeepB.upd
      obtain ⟨sty, hsty, hat6⟩ : ∃ sty : Str, sty ∈ STYL ∧ atI [V.str "taken", .str "copied"] a6 = some (.str sty) := by
        have h : a6 = 0 ∨ a6 = 1 := by omega
        rcases h with rfl | rfl
        · exact ⟨"taken", by decide, rfl⟩
        · exact ⟨"copied", by decide, rfl⟩
      refine ⟨ls, _, _, .str sty, rfl, rfl, SqL.of (k6 _ _ lsb l5), hat6, ?_⟩
      exact ⟨_, _, _, rfl, kind, sty, x, picks, p, _, n4 + 1, rfl, k3.trans (k4.trans (s5.keepB.trans k6)), hkind, hsty, hx, hp, k6 _ _ pb (s5 _ _ hp4), upd_same, B6, by omega⟩
    rintro σ H3 ⟨kind, sty, x, picks, p, o, n, rfl, k3, hkind, hsty, hx, hpk, hp3, b3, B3, hn⟩
    have gls := good_lines hx hpk.five
    have l36 := hpk.lines (x := x)
    have md := fun (tk : Bool) (pr : Nat) => made_drawn (kind := kind) hx hpk hkind tk pr
    have okt : okT (Txt.join "\n" (linesOf x picks)) := okT_join gls (Nat.le_trans l36 (by decide))
    have eln := lines_join gls
    have okm : okT (Txt.join "\n" (linesOf x picks ++ [("quit" : Str)])) := by
      refine okT_join (fun l hl => ?_) ?_
      · rcases List.mem_append.mp hl with m | m
        · exact gls l m
        · rw [List.mem_singleton.mp m]
          decide +kernel
      · rw [List.length_append]
        show _ + 1 ≤ 1000
        omega
    have mm := fun (tk : Bool) (pr : Nat) => made_more (kind := kind) hx hpk hkind tk pr
    have md2 := fun (k2 : Str) (h2 : k2 ∈ KINDL) (tk : Bool) (pr : Nat) => made_drawn (kind := k2) hx hpk h2 tk pr
    have tne := text_ne gls
    have tmo := text_more gls
    have gsum := good_sum gls (Nat.le_trans l36 (by decide))
    generalize linesOf x picks = ls at hp3 gls l36 md okt eln okm mm md2 tne tmo gsum
    have told : ∀ {H1 : Hp} {Q1 : VK} {E1 : XK} {r : Addr} {k : RK} {v : V} {tk : Value} (t : Str), RulesK RC H1 r k → Kd K H1 v tk → okT t → (∀ p H' pr, Same H1 H' → H1 p = none → H' p = some (.tup (toldV v t (codeM v t (decide (k.sty = "taken")) pr))) → Q1 (.ref p) H') → spTold K RC [v, .ref r, .str t] H1 Q1 E1 := fun t R kd ot q1 => by
      obtain ⟨x1, x2, R⟩ := R
      exact ⟨_, _, t, _, _, x1, x2, rfl, kd, ot, R, fun p H' s n e => q1 p H' _ s n e⟩
    have g2k := good_2k hsty true
    refine ⟨fun σ H4 => ∃ r, σ = [some (.ref a), some (.ref b), some (.ref lk), some (.ref lo), some (.str kind), some (.ref p), some (.str sty), some (.ref r), some (.str (Txt.join "\n" ls)), none, none, none, none, none, none] ∧ Same H3 H4 ∧ RulesK RC H4 r ⟨sty, "2 * k", "k", true⟩, ?_, ?_⟩
    · refine ⟨_, rfl, ?_⟩
      intro r dx nx nd ndx
      refine mk_rules (k := ⟨sty, "2 * k", "k", true⟩) g2k nx nd ndx fun H4 s4 R4 => ⟨rfl, ?_⟩
      exact ⟨⟨_, rfl⟩, _, rfl, "\n", p, ls, rfl, rfl, .inl (SqL.of (s4 _ _ hp3)), gsum, _, _, rfl, r, rfl, s4, R4⟩
    rintro σ H4 ⟨r, rfl, s4, R4⟩
    have hp4 := s4 _ _ hp3
    refine ⟨fun σ H5 => σ = [some (.ref a), some (.ref b), some (.ref lk), some (.ref lo), some (.str kind), some (.ref p), some (.str sty), some (.ref r), some (.str (Txt.join "\n" ls)), none, none, none, none, none, none] ∧ Same H4 H5, ?_, ?_⟩
    · refine ⟨_, rfl, _, rfl, _, rfl, ?_⟩
      dsimp only [tC, tCons, tNil]
      refine told _ R4 Kd.str okt fun p1 H5 pr s5 n1 e1 => ?_
      obtain ⟨rows, em⟩ := md (decide (sty = "taken")) pr
      rw [em] at e1
      refine ⟨_, rfl, _, rfl, _, rfl, p, ls.map V.str, rfl, .inl (SqL.of (s5 _ _ hp4)), by show 4 ≤ sizeLine; decide, fun p2 n2 => ?_⟩
      have s6 := same_new (o := .tup [.str "made", .str kind, .str (Txt.join "\n" ls), .int ((ls.map V.str).length : Nat)]) n2
      have e2 : H5 p1 = some (.tup [.str "made", .str kind, .str (Txt.join "\n" ls), .int ((ls.map V.str).length : Nat)]) := by
        rw [e1]
        unfold toldV
        rw [eln, List.length_map]
      exact .inr ⟨p1, p2, _, rfl, rfl, SqT.of (s6 _ _ e2), SqT.of upd_same, flat_all rfl, false, rfl, ff ⟨rfl, s5.trans s6⟩⟩
    rintro σ H5 ⟨rfl, s5⟩
    have R5 := R4.same s5
    refine ⟨fun σ H6 => ∃ cd, σ = [some (.ref a), some (.ref b), some (.ref lk), some (.ref lo), some (.str kind), some (.ref p), some (.str sty), some (.ref r), some (.str (Txt.join "\n" ls)), some (.ref cd), none, none, none, none, none] ∧ Same H5 H6 ∧ CodeK C RC H6 cd kind (Txt.join "\n" ls) r ⟨sty, "2 * k", "k", true⟩, ?_, ?_⟩
    · refine ⟨_, rfl, _, rfl, _, rfl, ?_⟩
      intro cd dx nx nd ndx
      exact mk_code okt R5 (fun pr => md _ pr) nx nd ndx fun H6 s6 C6 => ⟨rfl, cd, rfl, s6, C6⟩
    rintro σ H6 ⟨cd, rfl, s6, C6⟩
    have hp6 := s6 _ _ (s5 _ _ hp4)
    refine ⟨fun σ H7 => ∃ v10, σ = [some (.ref a), some (.ref b), some (.ref lk), some (.ref lo), some (.str kind), some (.ref p), some (.str sty), some (.ref r), some (.str (Txt.join "\n" ls)), some (.ref cd), v10, none, none, none, none] ∧ Same H6 H7, ?_, ?_⟩
    · have z0 : ∀ i : Nat, (0 : Int) + (i : Int) = (i : Int) := fun i => Int.zero_add _
      have hlen : (((ls.map V.str).length : Nat) : Int).toNat = ls.length := by
        rw [List.length_map]
        rfl
      refine ⟨_, rfl, p, ls.map V.str, rfl, .inl (SqL.of hp6), ((ls.map V.str).length : Nat), rfl, by omega, ?_, for_range (lo := 0) (n := (((ls.map V.str).length : Nat) : Int).toNat) (fun i σ H' => ∃ v10, σ = [some (.ref a), some (.ref b), some (.ref lk), some (.ref lo), some (.str kind), some (.ref p), some (.str sty), some (.ref r), some (.str (Txt.join "\n" ls)), some (.ref cd), v10, none, none, none, none] ∧ Same H6 H') ?_ ?_ ?_⟩
      · rw [List.length_map]
        omega
      · exact ⟨_, rfl, Same.refl _⟩
      · rintro i σ H' hi ⟨v10, rfl, s7⟩
        rw [hlen] at hi
        have hg : ls[i]? = some ls[i] := List.getElem?_eq_getElem hi
        have C7 := C6.same s7
        obtain ⟨_, rows, dx, l1, ra, tb, rr, fr, Z⟩ := id C7
        rw [z0]
        refine ⟨_, rfl, _, rfl, _, _, rfl, rfl, cd, dx, _, rfl, Z.h, cd, r, kind, _, _, i, ls[i], rfl, C7, by rw [eln]; exact hg, ?_⟩
        refine ⟨_, rfl, _, rfl, p, ls.map V.str, (i : Int), .str ls[i], rfl, rfl, SqL.of (s7 _ _ hp6), atI_nat (by rw [List.getElem?_map, hg]; rfl), rfl, ?_⟩
        refine ⟨false, ?_, ff ⟨_, rfl, s7⟩⟩
        rw [decide_eq_true rfl]
        rfl
      · rintro σ H' ⟨v10, rfl, s7⟩
        exact ⟨_, rfl, s7⟩
    rintro σ H7 ⟨v10, rfl, s7⟩
    have C7 := C6.same s7
    have R7 := (R5.same s6).same s7
    have hp7 := s7 _ _ hp6
    refine ⟨fun σ H8 => σ = [some (.ref a), some (.ref b), some (.ref lk), some (.ref lo), some (.str kind), some (.ref p), some (.str sty), some (.ref r), some (.str (Txt.join "\n" ls)), some (.ref cd), v10, none, none, none, none] ∧ Same H7 H8, ?_, ?_⟩
    · obtain ⟨_, rows, dx, l1, ra, tb, rr, fr, Z⟩ := id C7
      refine ⟨_, rfl, cd, C, dx, _, .ref r, rfl, Z.h, CC.cls, CC.no _ (by simp), rfl, _, rfl, ?_⟩
      refine ne_rules RR IR R7 R7 g2k g2k nfR fun H8 s8 => ?_
      refine ⟨false, by rw [decide_eq_true rfl]; rfl, ff ?_⟩
      refine ⟨_, rfl, _, rfl, eq_text nfS (C7.same s8) ⟨false, rfl, ff ?_⟩⟩
      refine ⟨_, rfl, _, rfl, _, rfl, ?_⟩
      intro r2 dx2 nx nd ndx
      refine mk_rules (k := ⟨sty, "2 * k", "k", true⟩) g2k nx nd ndx fun H9 s9 R9 => ⟨rfl, ?_⟩
      refine ⟨⟨_, rfl⟩, _, rfl, p, ls.map V.str, rfl, .inl (SqL.of (s9 _ _ (s8 _ _ hp7))), fun l2 n2 => ?_⟩
      have sA := same_new (o := .lst (ls.map V.str)) n2
      refine ⟨"\n", l2, ls, rfl, rfl, .inl (SqL.of upd_same), gsum, ?_⟩
      intro c2 dx3 nx3 nd3 ndx3
      refine mk_code okt (R9.same sA) (fun pr => md _ pr) nx3 nd3 ndx3 fun HB sB CB => ⟨rfl, ?_⟩
      refine ne_codes CC IC nfC ((C7.same s8).same (s9.trans (sA.trans sB))) CB hkind hkind okt okt g2k g2k fun HC sC => ?_
      refine ⟨false, by rw [decide_eq_true ⟨rfl, rfl, rfl⟩]; rfl, ff ⟨rfl, s8.trans (s9.trans (sA.trans (sB.trans sC)))⟩⟩
    rintro σ H8 ⟨rfl, s8⟩
    have C8 := C7.same s8
    have R8 := R7.same s8
    have hk8 : H8 lk = some (.lst [.str "over", .str "under"]) := s8 _ _ (s7 _ _ (s6 _ _ (s5 _ _ (s4 _ _ (k3 _ _ (fun z => by rw [z, b2] at hk2; cases hk2) hk2)))))
    refine ⟨fun σ H9 => σ = [some (.ref a), some (.ref b), some (.ref lk), some (.ref lo), some (.str kind), some (.ref p), some (.str sty), some (.ref r), some (.str (Txt.join "\n" ls)), some (.ref cd), v10, none, none, none, none] ∧ Same H8 H9, ?_, ?_⟩
    · obtain ⟨j, kind2, hj, hkind2, hat2, hne, hz, hmj⟩ : ∃ (j : Nat) (kind2 : Str), [V.str "over", .str "under"][j]? = some (.str kind) ∧ kind2 ∈ KINDL ∧ atI [V.str "over", .str "under"] (1 - (j : Int)) = some (.str kind2) ∧ kind ≠ kind2 ∧ eqV (.str kind) (.str kind) = true ∧ ∀ (m : Nat) (z' : V), m < j → [V.str "over", .str "under"][m]? = some z' → eqV z' (.str kind) = false := by
        rcases List.mem_cons.mp hkind with rfl | hkind
        · exact ⟨0, "under", rfl, by decide, rfl, by decide +kernel, by decide +kernel, fun m z' hm => by omega⟩
        · rw [List.mem_singleton.mp hkind]
          refine ⟨1, "over", rfl, by decide, rfl, by decide +kernel, by decide +kernel, fun m z' hm e => ?_⟩
          obtain rfl : m = 0 := by omega
          cases e
          decide +kernel
      have g3k := good_3k hsty true
      refine ⟨_, rfl, _, rfl, _, rfl, .inl ⟨rfl, _, SqL.of hk8⟩, _, rfl, lk, _, .str kind, j, .str kind, rfl, rfl, SqL.of hk8, rfl, rfl, hj, hz, hmj, ?_⟩
      refine ⟨_, _, rfl, rfl, lk, _, _, .str kind2, rfl, rfl, SqL.of hk8, hat2, ?_⟩
      refine ⟨_, rfl, _, rfl, ?_⟩
      intro c2 dx3 nx3 nd3 ndx3
      refine mk_code okt R8 (fun pr => md2 _ hkind2 _ pr) nx3 nd3 ndx3 fun H9 s9 C9 => ⟨rfl, ?_⟩
      refine eq_codes CC IC nfC (C8.same s9) C9 hkind hkind2 okt okt g2k g2k fun HA sA => ?_
      refine ⟨false, by rw [decide_eq_false (fun z => hne z.1)], ff ?_⟩
      refine ⟨_, rfl, _, rfl, _, rfl, ?_⟩
      intro r2 dx2 nx nd ndx
      refine mk_rules (k := ⟨sty, "3 * k", "k", true⟩) g3k nx nd ndx fun HB sB RB => ⟨rfl, ?_⟩
      refine ⟨_, rfl, ?_⟩
      intro c3 dx4 nx4 nd4 ndx4
      refine mk_code okt RB (fun pr => md _ pr) nx4 nd4 ndx4 fun HC sC CC2 => ⟨rfl, ?_⟩
      refine eq_codes CC IC nfC (C8.same (s9.trans (sA.trans (sB.trans sC)))) CC2 hkind hkind okt okt g2k g3k fun HD sD => ?_
      refine ⟨false, by rw [decide_eq_false (fun z => absurd (congrArg RK.cap z.2.2) (show ("2 * k" : Str) ≠ "3 * k" from by decide +kernel))], ff ⟨rfl, s9.trans (sA.trans (sB.trans (sC.trans sD)))⟩⟩
    rintro σ H9 ⟨rfl, s9⟩
    have C9 := C8.same s9
    have R9 := R8.same s9
    refine ⟨fun σ HA => σ = [some (.ref a), some (.ref b), some (.ref lk), some (.ref lo), some (.str kind), some (.ref p), some (.str sty), some (.ref r), some (.str (Txt.join "\n" ls)), some (.ref cd), v10, none, none, none, none] ∧ Same H9 HA, ?_, ?_⟩
    · refine ⟨_, rfl, _, rfl, _, rfl, _, rfl, ?_⟩
      have l1 : ∀ b : Bool, (if b = true then ("\nquit" : Str) else Str.empty).length ≤ 5 := by
        intro b
        cases b <;> decide +kernel
      have l2 : ∀ b : Bool, (if b = true then ("quit" : Str) else Str.empty).length ≤ 5 := by
        intro b
        cases b <;> decide +kernel
      have ladd : ∀ x y : Str, (x ++ y).length = x.length + y.length := fun x y => by
        rw [TL.len_tl, TL.tl_append, List.length_append, ← TL.len_tl, ← TL.len_tl]
      have lt := okt.1
      refine ⟨_, rfl, rfl, .inr ⟨_, rfl, "\nquit", _, rfl, rfl, _, _, rfl, rfl, ?_, ?_⟩⟩
      · have := l1 (!decide (V.str (Txt.join "\n" ls) = V.str ""))
        exact Nat.le_trans (Nat.add_le_add lt this) (by decide)
      refine ⟨_, rfl, rfl, .inr ⟨_, rfl, "quit", _, rfl, rfl, _, _, rfl, rfl, ?_, ?_⟩⟩
      · have := l1 (!decide (V.str (Txt.join "\n" ls) = V.str ""))
        have := l2 (decide (V.str (Txt.join "\n" ls) = V.str ""))
        rw [ladd]
        refine Nat.le_trans (Nat.add_le_add (Nat.add_le_add lt (l1 _)) (l2 _)) (by decide)
      rw [tmo]
      intro c2 dx3 nx3 nd3 ndx3
      refine mk_code okm R9 (fun pr => mm _ pr) nx3 nd3 ndx3 fun HA sA CA => ⟨rfl, ?_⟩
      refine eq_codes CC IC nfC (C9.same sA) CA hkind hkind okt okm g2k g2k fun HB sB => ?_
      exact ⟨false, by rw [decide_eq_false (fun z => tne z.2.1)], ff ⟨rfl, sA.trans sB⟩⟩
    rintro σ HA ⟨rfl, sA⟩
    have CA := C9.same sA
    have RA := R9.same sA
    refine ⟨fun σ HB => σ = [some (.ref a), some (.ref b), some (.ref lk), some (.ref lo), some (.str kind), some (.ref p), some (.str sty), some (.ref r), some (.str (Txt.join "\n" ls)), some (.ref cd), v10, none, none, none, none] ∧ Same HA HB, ?_, ?_⟩
    · refine ⟨_, rfl, _, rfl, _, rfl, ?_⟩
      intro r2 dx2 nx nd ndx
      have g2f := good_2k hsty false
      refine mk_rules (k := ⟨sty, "2 * k", "k", false⟩) g2f nx nd ndx fun HB sB RB => ⟨rfl, ?_⟩
      refine ⟨_, rfl, ?_⟩
      intro c2 dx3 nx3 nd3 ndx3
      refine mk_code okt RB (fun pr => md _ pr) nx3 nd3 ndx3 fun HC sC CC2 => ⟨rfl, ?_⟩
      refine eq_codes CC IC nfC (CA.same (sB.trans sC)) CC2 hkind hkind okt okt g2k g2f fun HD sD => ?_
      refine ⟨false, by rw [decide_eq_false (fun z => by cases z.2.2)], ff ?_⟩
      refine ⟨_, rfl, _, rfl, ?_⟩
      intro c4 dx5 nx5 nd5 ndx5
      have rD := RA.same (sB.trans (sC.trans sD))
      refine mk_code okN rD (fun pr => made_none hkind _ pr) nx5 nd5 ndx5 fun HE sE CE => ⟨rfl, ?_⟩
      obtain ⟨_, rows, dx, l1, ra, tb, rr, fr, Z⟩ := id CE
      refine ⟨c4, dx, _, rfl, Z.h, c4, r, kind, "", _, rfl, CE, (linesM "").length, rfl, by decide +kernel, ?_⟩
      refine ⟨rfl, false, ?_, ff ⟨rfl, sB.trans (sC.trans (sD.trans sE))⟩⟩
      rw [show (linesM "").length = 0 from by decide +kernel]
      rfl
    rintro σ HB ⟨rfl, sB⟩
    have RB := RA.same sB
    have kB : KeepB b H2 HB := k3.trans (s4.trans (s5.trans (s6.trans (s7.trans (s8.trans (s9.trans (sA.trans sB))))))).keepB
    have sH : Same H3 HB := s4.trans (s5.trans (s6.trans (s7.trans (s8.trans (s9.trans (sA.trans sB))))))
    have bB3 := sH _ _ b3
    have notB : ∀ {u : Addr} {ob : HO}, H2 u = some ob → (∀ kvs, ob ≠ .dK kvs) → u ≠ b := fun e ne z => by
      rw [z, b2] at e
      exact ne _ (Option.some.inj e).symm
    have oB := kB _ _ (notB ho2 (fun _ z => by cases z)) ho2
    have lB := kB _ _ (notB hl2 (fun _ z => by cases z)) hl2
    have tB := kB _ _ (notB ht2 (fun _ z => by cases z)) ht2
    have dB := kB _ _ db hd2
    have cB := kB _ _ (notB c2 (fun _ z => by cases z)) c2
    have cb : c ≠ b := notB c2 (fun _ z => by cases z)
    have lob : lo ≠ b := notB ho2 (fun _ z => by cases z)
    have lb : l ≠ b := notB hl2 (fun _ z => by cases z)
    have tb' : t ≠ b := notB ht2 (fun _ z => by cases z)
    refine ⟨fun σ HC => ∃ (v : V) (tk : Value) (m : Nat), σ = [some (.ref a), some (.ref b), some (.ref lk), some (.ref lo), some (.str kind), some (.ref p), some (.str sty), some (.ref r), some (.str (Txt.join "\n" ls)), some (.ref cd), v10, some v, some (.int (m : Nat)), none, none] ∧ RulesK RC HC r ⟨sty, "2 * k", "k", true⟩ ∧ Kd K HC v tk ∧ kindV v = none ∧ SameIt v ∧ 39 ≤ m ∧ m ≤ 42, ?_, ?_⟩
    · obtain ⟨kvB, rfl⟩ := B3.dict
      refine ⟨_, rfl, _, rfl, b, c, ns, 9, n, _, rfl, by decide, by decide, bB3, B3, by omega, cB, fun a12 o12 a120 a121 B12 => ?_⟩
      obtain ⟨kv12, rfl⟩ := B12.dict
      have k12 : KeepB b HB (upd HB b (.dK kv12)) := KeepB.upd
      have b12 := at_upd (H := HB) (a := b) (o := .dK kv12)
      generalize upd HB b (.dK kv12) = HC at k12 b12 ⊢
      obtain ⟨v, tk, hat, _, hkv, hsm⟩ := kod_at (K := K) lB tB dB a120 a121
      refine ⟨lo, _, _, v, rfl, rfl, SqL.of (k12 _ _ lob oB), hat, ?_⟩
      refine ⟨_, rfl, b, c, ns, 4, n + 1, _, rfl, by decide, by decide, b12, B12, by omega, k12 _ _ cb cB, fun a13 o13 a130 a131 B13 => ?_⟩
      obtain ⟨kv13, rfl⟩ := B13.dict
      have k13 : KeepB b HC (upd HC b (.dK kv13)) := KeepB.upd
      generalize upd HC b (.dK kv13) = HD at k13 ⊢
      have kk := k12.trans k13
      obtain ⟨v', tk', hat', kd, _, _⟩ := kod_at (K := K) (kk _ _ lb lB) (kk _ _ tb' tB) (kk _ _ db dB) a120 a121
      rw [hat] at hat'
      obtain rfl : v = v' := Option.some.inj hat'
      obtain ⟨m, rfl⟩ := Int.eq_ofNat_of_zero_le a130
      refine ⟨_, _, rfl, rfl, _, _, rfl, v, tk', 39 + m, ?_, RB.keepD bB3 kk, kd, hkv, hsm, by omega, by omega⟩
      rfl
    rintro σ HC ⟨v, tk, m, rfl, RC', kdC, hkv, hsm, m1, m2⟩
    refine ⟨fun σ HD => σ = [some (.ref a), some (.ref b), some (.ref lk), some (.ref lo), some (.str kind), some (.ref p), some (.str sty), some (.ref r), some (.str (Txt.join "\n" ls)), some (.ref cd), v10, some v, some (.int (m : Nat)), some (.str (Txt.join "\n" (List.replicate m ("quit" : Str)))), none] ∧ Same HC HD, ?_, ?_⟩
    · refine ⟨⟨_, rfl⟩, by show 1 ≤ sizeLine; decide, fun b1 n1 => ⟨_, rfl, b1, (m : Int), [.str "quit"], rfl, rfl, upd_same, by omega, by omega, ?_, fun b2 n2 => ?_⟩⟩
      · show 1 * (m : Int).toNat ≤ sizeLine
        exact Nat.le_trans (show 1 * (m : Int).toNat ≤ 42 by omega) (by decide)
      have k1 := same_new (o := .lst [.str "quit"]) n1
      have k2 := k1.step (o := .lst (List.replicate (m : Int).toNat [V.str "quit"]).flatten) n2
      refine ⟨"\n", b2, List.replicate m ("quit" : Str), rfl, rfl, .inl (SqL.of ?_), ?_, rfl, k2⟩
      · rw [upd_same, rep_one, List.map_replicate]
      · exact sum_quit m2
    rintro σ HD ⟨rfl, sD⟩
    have hQ := quit_good m
    have okq : okT (Txt.join "\n" (List.replicate m ("quit" : Str))) := okT_join hQ (by rw [List.length_replicate]; omega)
    have told_q : ∀ (tk : Bool) (pr : Nat), toldV (.str kind) (Txt.join "\n" (List.replicate m ("quit" : Str))) (codeM (.str kind) (Txt.join "\n" (List.replicate m ("quit" : Str))) tk pr) = dueV kind m := fun tk pr => told_quit hkind tk pr
    have okq' := okq
    refine ⟨fun σ HE => ∃ pd, σ = [some (.ref a), some (.ref b), some (.ref lk), some (.ref lo), some (.str kind), some (.ref p), some (.str sty), some (.ref r), some (.str (Txt.join "\n" ls)), some (.ref cd), v10, some v, some (.int (m : Nat)), some (.str (Txt.join "\n" (List.replicate m ("quit" : Str)))), some (.ref pd)] ∧ Same HD HE ∧ HE pd = some (.tup (dueV kind m)), ?_, ?_⟩
    · refine ⟨_, rfl, _, _, rfl, rfl, _, rfl, ite2 (fun e => ?_) fun e => ?_⟩
      · have h : m > 40 := by
          have := of_decide_eq_true e
          omega
        refine ⟨_, rfl, by show 4 ≤ sizeLine; decide, fun pd nd => ⟨pd, rfl, same_new nd, ?_⟩⟩
        unfold dueV
        rw [if_pos h]
        exact upd_same
      · have h : ¬ m > 40 := fun z => e (decide_eq_true (by omega))
        refine ⟨_, rfl, _, rfl, _, rfl, by show 4 ≤ sizeLine; decide, fun pd nd => ⟨pd, rfl, same_new nd, ?_⟩⟩
        unfold dueV
        rw [if_neg h]
        exact upd_same
    rintro σ HE ⟨pd, rfl, sE, due⟩
    have RE := (RC'.same sD).same sE
    have kdE := (kdC.mono sD).mono sE
    refine ⟨fun σ HF => σ = [some (.ref a), some (.ref b), some (.ref lk), some (.ref lo), some (.str kind), some (.ref p), some (.str sty), some (.ref r), some (.str (Txt.join "\n" ls)), some (.ref cd), v10, some v, some (.int (m : Nat)), some (.str (Txt.join "\n" (List.replicate m ("quit" : Str)))), some (.ref pd)] ∧ Same HE HF, ?_, ?_⟩
    · refine ⟨_, rfl, _, rfl, _, rfl, ?_⟩
      dsimp only [tC, tCons, tNil]
      refine told _ RE Kd.str okq fun p1 HF pr sF n1 e1 => ?_
      rw [told_q] at e1
      refine ⟨_, rfl, .inr ⟨p1, pd, _, rfl, rfl, SqT.of e1, SqT.of (sF _ _ due), flat_all (due_flat _ _), false, rfl, ff ?_⟩⟩
      refine ⟨_, rfl, _, rfl, _, rfl, ?_⟩
      dsimp only [tC, tCons, tNil]
      refine told _ (RE.same sF) (kdE.mono sF) okq fun p2 HG pr sG n2 e2 => ?_
      rw [bad_kind hkv] at e2
      refine ⟨_, rfl, by show 2 ≤ sizeLine; decide, fun p3 n3 => ?_⟩
      have s3' := same_new (o := .tup [.str "kind", v]) n3
      have e2 : HG p2 = some (.tup [.str "kind", v]) := e2
      refine .inr ⟨p2, p3, _, rfl, rfl, SqT.of (s3' _ _ e2), SqT.of upd_same, fun x hx => ?_, false, rfl, ff ⟨rfl, sF.trans (sG.trans s3')⟩⟩; rcases List.mem_cons.mp hx with rfl | hx
      · exact .inl rfl
      · rw [List.mem_singleton.mp hx]
        exact hsm
    rintro σ HF ⟨rfl, sF⟩
    obtain ⟨x1, x2, RF⟩ := RE.same sF
    refine ⟨_, rfl, _, rfl, kind, r, _, x1, x2, rfl, hkind, RF, ?_, fun H' _ => q H'⟩
    obtain ⟨dx, os, p1, p2, cs, l1, h1, h2, h3, _⟩ := RF
    rw [shD_eq d2k h2, shD_eq d1k h3]
end
end Pk
namespace Pk
open L2 PyProof.Rows PySem.Spec PySem
section
variable {K : PySem.W.Frag} {P : Program} {w : World} {base : Heap} {mg : Str → Option Value} {C fI : Addr}
/-- rows within rows, as deep as asked -/
theorem ok_reader_rows {fS fP fW fD : Addr} {fdS fdP fdW fdD : FuncData} (FS : FunD K "read_rows" "Reader.read_rows" (defArgs sRows) (defBody sRows) (defScope sRows) [] [] fS fdS) (FW : FunD K "read_row" "Reader.read_row" (defArgs sRow) (defBody sRow) (defScope sRow) [] [] fW fdW) (RD : ReaderC K mg C fI)
    (FP : FunD K "read_parts" "Reader.read_parts" (defArgs sParts) (defBody sParts) (defScope sParts) [] [] fP fdP) (FD : FunD K "deed" "Reader.deed" (defArgs sDeed) (defBody sDeed) (defScope sDeed) [] [] fD fdD) (GP : FnOk P w K mg base (L2.CX P w) 5 fP fdP ["self", "words"] (spParts K C)) (GD : FnOk P w K mg base CX0 5 fD fdD ["self", "words"] (spDeed K C deedM))
    (mP : Meth K C "read_parts" fP) (mS : Meth K C "read_rows" fS) (mW : Meth K C "read_row" fW) (mD : Meth K C "deed" fD) (mLen : mg "len" = none) (ER : Errs P K mg) : ∀ n, FnOk P w K mg base (L2.CX P w) (6 + 2 * n) fS fdS ["self", "inner"] (spRows K C n) := by
  intro n
  induction n with
  | zero =>
    refine FS.ok sc_Reader_read_rows (fun vs H Q E h => ?_) (fun cdv A outer s H vs Q E hr h => ?_)
    · obtain ⟨r, dx, tl, all, line, ls, inner, rfl, _⟩ := h
      rfl
    · obtain ⟨r, dx, tl, all, line, ls, inner, rfl, _, hn, _⟩ := h
      exact absurd hn (Nat.not_lt_zero _)
  | succ n ih =>
    have a := ok_Reader_read_row n FW RD FP FS FD GP GD ih mP mS mD mLen ER
    have e : 6 + 2 * n + 1 = 7 + 2 * n := by omega
    rw [e] at a
    have b := ok_Reader_read_rows n FS RD FW a mW mLen ER
    have e2 : 7 + 2 * n + 1 = 6 + 2 * (n + 1) := by omega
    rw [e2] at b
    exact b
end
end Pk
namespace Hx
open PySem PySem.Spec PyProof.Rows L2 He
/-! ### written tuples; the code object and the table of one def -/
def tupB (x : Str) (vs : List V) (K : PySem.W.Frag) : Bool := eqO (PySem.W.nsIn K mainGlobals x) (some (some (.ref (ga K x)))) && (match K.lookup (ga K x) with
  | some ⟨.type t, _, .seq its _, _⟩ => decide (t = "tuple") && (decide (its.size ≤ 1000) && relAll vs its.toList)
  | _ => false)
theorem tupB_ok {x : Str} {vs : List V} {K : PySem.W.Frag} {h : Heap} {mg : Str → Option Value} (X : K.In h) (G : h.Ns mainGlobals mg) (b : tupB x vs K = true) : (∃ u, mg x = some u ∧ RelV (.ref (ga K x)) u) ∧ ∀ H, SqT K H (ga K x) vs := by
  obtain ⟨b1, b2⟩ := ba (show (eqO (PySem.W.nsIn K mainGlobals x) (some (some (.ref (ga K x)))) && _) = true from b)
  refine ⟨⟨_, PySem.W.mg_of X G (eqO_ok b1), rfl⟩, fun H => ?_⟩
  split at b2
  · rename_i t dd its n sl e
    obtain ⟨c1, c2⟩ := ba b2
    obtain ⟨c2, c3⟩ := ba c2
    have e1 := of_decide_eq_true c1
    subst e1
    exact .inr ⟨_, its, n, e, rfl, rfl, Nat.le_trans (of_decide_eq_true c2) (by decide), relAll_ok c3⟩
  · cases b2
theorem intG {x : Str} {i : Int} {K : PySem.W.Frag} {h : Heap} {mg : Str → Option Value} (X : K.In h) (G : h.Ns mainGlobals mg) (c : (Fa.int x i).ok K = true) : ∃ u, mg x = some u ∧ RelV (.int i) u := by
  obtain ⟨t, e⟩ := int_ok X G c
  exact ⟨_, e, t, rfl⟩
def cAd (K : PySem.W.Frag) (p : Str × Option Str) : Addr := match K.lookup (fAd K p) with
  | some ⟨_, _, .func fdt, _⟩ => (match fdt.code with
    | .ref c => c
    | _ => 0)
  | _ => 0
def tAd (K : PySem.W.Frag) (p : Str × Option Str) : Addr := match K.lookup (cAd K p) with
  | some ⟨_, _, .fields us, _⟩ => (match (us[11]? : Option Value) with
    | some (.ref P) => P
    | _ => 0)
  | _ => 0
def refB (v : Value) (c : Addr) : Bool := match v with
  | .ref a => decide (a = c)
  | _ => false
def tabB (K : PySem.W.Frag) (p : Str × Option Str) (P : Addr) : Bool := PySem.W.codeHdIn K (cAd K p) P && ((match K.lookup (fAd K p) with
  | some ⟨_, _, .func fd, _⟩ => refB fd.code (cAd K p)
  | _ => false) && (K.lookup P).isNone)
theorem tabB_ok {K : PySem.W.Frag} {p : Str × Option Str} {P : Addr} {h : Heap} (X : K.In h) (b : tabB K p P = true) : PySem.W.CodeHd h (cAd K p) P ∧ K.lookup P = none ∧
    ∀ {x qual : Str} {params : Arguments} {body : List Stmt} {scope : Scope} {dvs : List V} {kws : List (Str × V)} {fd : FuncData}, FunD K x qual params body scope dvs kws (fAd K p) fd → fd.code = .ref (cAd K p) := by
  obtain ⟨b1, b2⟩ := ba b
  obtain ⟨b2, b3⟩ := ba b2
  refine ⟨PySem.W.codeHd_of_K X b1, Option.isNone_iff_eq_none.mp b3, fun F => ?_⟩
  obtain ⟨oc, od, dV, kV, doc, pm, an, cdv, ct, osl, e, lk, _⟩ := F.ex
  rw [lk] at b2
  have b4 : refB _ (cAd K p) = true := b2
  unfold refB at b4
  split at b4
  · rename_i a e2
    rw [e2, of_decide_eq_true b4]
  · cases b4
def isTab (o : Option Obj) : Bool := match o with
  | some ⟨.none, none, .fields vs, sl⟩ => vs.isEmpty && sl.isEmpty
  | _ => false
theorem isTab_ok {o : Option Obj} (h : isTab o = true) : o = some { cls := .none, data := .fields #[] } := by
  unfold isTab at h
  split at h
  · rename_i vs sl
    obtain ⟨h1, h2⟩ := ba h
    have e1 : vs = #[] := by simpa using h1
    have e2 : sl = #[] := by simpa using h2
    rw [e1, e2]
  · cases h
/-! ### the Hook that tells one table apart -/
abbrev AlT : Type := Bool × AlX
def obsTG (n : Nat) (p : Str × Option Str) (fa : List Fa) (fb : List (PySem.W.Frag → Bool)) (fn : List DefE) (g : Addr → Option Obj) : AlT :=
  let as := asX g n
  let P := tAd (frG g as) p
  let K := frG g (as.filter fun a => a != P)
  (isTab (g P) && tabB K p P, obsX fa fb fn K)
def SaysT (p : Str × Option Str) (fa : List Fa) (fb : List (PySem.W.Frag → Bool)) (fn : List DefE) (K : PySem.W.Frag) (P : Addr) (h : Heap) : Prop :=
  K.In h ∧ h.get? P = some { cls := .none, data := .fields #[] } ∧ tabB K p P = true ∧ SaysX fa fb fn K
def hookT (n : Nat) (p : Str × Option Str) (fa : List Fa) (fb : List (PySem.W.Frag → Bool)) (fn : List DefE) : PySem.W.Hook where
  α := AlT
  obs := fun s => obsTG n p fa fb fn s.heap.get?
  val := fun _ => (true, valX fn)
  says := fun _ h => ∃ K P, SaysT p fa fb fn K P h
  of := fun _ s e => by
    have e1 := congrArg (fun z : AlT => z.1) e
    have e2 := congrArg (fun z : AlT => z.2) e
    obtain ⟨a, b⟩ := ba (show (isTab (s.heap.get? (tAd (frG s.heap.get? (asX s.heap.get? n)) p)) && tabB (frG s.heap.get? ((asX s.heap.get? n).filter fun a => a != tAd (frG s.heap.get? (asX s.heap.get? n)) p)) p (tAd (frG s.heap.get? (asX s.heap.get? n)) p)) = true from e1)
    exact ⟨_, _, frG_in, isTab_ok a, b, e2⟩
  keeps := fun _ _ _ ⟨K, P, hK, hP, b, c⟩ k => ⟨K, P, PySem.W.Frag.In.keeps hK k, k _ _ hP, b, c⟩
theorem obsTG_eq {n : Nat} {p : Str × Option Str} {fa : List Fa} {fb : List (PySem.W.Frag → Bool)} {fn : List DefE} {g : Addr → Option Obj} {s : Shared} (h : ∀ a, g a = s.heap.get? a) : obsTG n p fa fb fn g = (hookT n p fa fb fn).obs s := by
  have e : g = s.heap.get? := funext h; rw [e] <;> rfl
end Hx
namespace Pk
open L2 PyProof.Rows PySem.Spec PySem
/-! ### facts of the classes -/
def insB (x : Str) (K : PySem.W.Frag) : Bool := He.eqO (PySem.W.findIn K (.ref (He.ga K x)) "__class__") (some (some (.builtin "object.__class__"))) && (He.eqO (PySem.W.specialIn K (.builtin "object.__class__") "__get__") (some (some (.builtin "getset_descriptor.__get__"))) && (decide (PySem.W.takesIn K (.builtin "object.__class__") = some true) &&
  (decide (PySem.W.mroIn K (He.ga K x) (.type "object") = some true) && (decide (PySem.W.kitOne K (.ref (He.ga K x)) (.ref (He.ga K x)) = some true) && decide (PySem.W.kitOne K (.type "tuple") (.ref (He.ga K x)) = some false)))))
theorem insB_ok {x : Str} {K : PySem.W.Frag} (h : insB x K = true) : InsIs K (He.ga K x) := by
  unfold insB at h
  obtain ⟨h1, h⟩ := He.ba h
  obtain ⟨h2, h⟩ := He.ba h
  obtain ⟨h3, h⟩ := He.ba h
  obtain ⟨h4, h⟩ := He.ba h
  obtain ⟨h5, h6⟩ := He.ba h
  exact ⟨He.eqO_ok h1, He.eqO_ok h2, of_decide_eq_true h3, of_decide_eq_true h4, of_decide_eq_true h5, of_decide_eq_true h6⟩
def insCB (x : Str) (K : PySem.W.Frag) : Bool := He.eqO (PySem.W.findIn K (.ref (He.ga K x)) "__class__") (some (some (.builtin "object.__class__"))) && (He.eqO (PySem.W.specialIn K (.builtin "object.__class__") "__get__") (some (some (.builtin "getset_descriptor.__get__"))) && (decide (PySem.W.takesIn K (.builtin "object.__class__") = some true) &&
  (decide (PySem.W.mroIn K (He.ga K x) (.type "object") = some true) && (decide (PySem.W.kitOne K (.ref (He.ga K x)) (.ref (He.ga K x)) = some true) && decide (PySem.W.kitOne K (.type "str") (.ref (He.ga K x)) = some false)))))
theorem insCB_ok {x : Str} {K : PySem.W.Frag} (h : insCB x K = true) : InsC K (He.ga K x) := by
  unfold insCB at h
  obtain ⟨h1, h⟩ := He.ba h
  obtain ⟨h2, h⟩ := He.ba h
  obtain ⟨h3, h⟩ := He.ba h
  obtain ⟨h4, h⟩ := He.ba h
  obtain ⟨h5, h6⟩ := He.ba h
  exact ⟨He.eqO_ok h1, He.eqO_ok h2, of_decide_eq_true h3, of_decide_eq_true h4, of_decide_eq_true h5, of_decide_eq_true h6⟩
def eqB (x : Str) (K : PySem.W.Frag) : Bool := He.eqO (PySem.W.findIn K (.ref (He.ga K x)) "__eq__") (some (some (.ref (He.ma K (He.ga K x) "__eq__")))) && (PySem.W.isFn K (.ref (He.ma K (He.ga K x) "__eq__")) && (He.eqO (PySem.W.findIn K (.ref (He.ga K x)) "__ne__") (some (some (.builtin "object.__ne__"))) &&
  decide (PySem.W.subIn K (.ref (He.ga K x)) (.type "object") = some true)))
theorem eqB_ok {x : Str} {K : PySem.W.Frag} (h : eqB x K = true) : EqC K (He.ga K x) (He.ma K (He.ga K x) "__eq__") := by
  unfold eqB at h
  obtain ⟨h1, h⟩ := He.ba h
  obtain ⟨h2, h⟩ := He.ba h
  obtain ⟨h3, h4⟩ := He.ba h
  exact ⟨He.eqO_ok h1, h2, He.eqO_ok h3, of_decide_eq_true h4⟩
def tyFn : Option Value → Bool
  | some (.type t) => decide (t = "function")
  | _ => false
theorem tyFn_ok {o : Option Value} (h : tyFn o = true) : o = some (.type "function") := by
  unfold tyFn at h
  split at h
  · rw [of_decide_eq_true h]
  · cases h
def ownB (x m : Str) (K : PySem.W.Frag) : Bool := He.eqO (PySem.W.findIn K (.ref (He.ga K x)) m) (some (some (.ref (He.ma K (He.ga K x) m)))) && (tyFn (PySem.W.typeIn K (.ref (He.ma K (He.ga K x) m))) && PySem.W.fnIn K (He.ma K (He.ga K x) m))
theorem ownB_ok {x m : Str} {K : PySem.W.Frag} (h : ownB x m K = true) : OwnC K (He.ga K x) (He.ma K (He.ga K x) m) m := by
  unfold ownB at h
  obtain ⟨h1, h⟩ := He.ba h
  obtain ⟨h2, h3⟩ := He.ba h
  exact ⟨He.eqO_ok h1, tyFn_ok h2, h3⟩
def nf1B (x : Str) (K : PySem.W.Frag) : Bool := PySem.W.notFirst K (He.ga K x) (.ref (He.ga K x))
theorem nf1B_ok {x : Str} {K : PySem.W.Frag} (h : nf1B x K = true) : PySem.W.notFirst K (He.ga K x) (.ref (He.ga K x)) = true := h
def nfSB (x : Str) (K : PySem.W.Frag) : Bool := PySem.W.notFirst K (He.ga K x) (.ref (He.ga K x)) && PySem.W.notFirst K (He.ga K x) (.type "str")
theorem nfSB_ok {x : Str} {K : PySem.W.Frag} (h : nfSB x K = true) : PySem.W.notFirst K (He.ga K x) (.ref (He.ga K x)) = true ∧ PySem.W.notFirst K (He.ga K x) (.type "str") = true := He.ba h
def excB (K : PySem.W.Frag) (D : Addr) : Bool := He.eqO (PySem.W.findIn K (.ref D) "__getattribute__") (some (some (.builtin "BaseException.__getattribute__"))) && (He.eqO (PySem.W.findIn K (.ref D) "__getattr__") (some none) && (decide (PySem.W.subIn K (.ref D) (.type "BaseException") = some true) && (PySem.W.hasDictIn K D &&
  (He.eqO (PySem.W.findIn K (.ref D) "__class__") (some (some (.builtin "object.__class__"))) && (He.eqO (PySem.W.specialIn K (.builtin "object.__class__") "__get__") (some (some (.builtin "getset_descriptor.__get__"))) && (decide (PySem.W.takesIn K (.builtin "object.__class__") = some true) && decide (PySem.W.mroIn K D (.type "object") = some true)))))))
theorem excB_ok {K : PySem.W.Frag} {D : Addr} (h : excB K D = true) : ExcC K D := by
  unfold excB at h
  obtain ⟨h1, h⟩ := He.ba h
  obtain ⟨h2, h⟩ := He.ba h
  obtain ⟨h3, h⟩ := He.ba h
  obtain ⟨h4, h⟩ := He.ba h
  obtain ⟨h5, h⟩ := He.ba h
  obtain ⟨h6, h⟩ := He.ba h
  obtain ⟨h7, h8⟩ := He.ba h
  exact ⟨He.eqO_ok h1, He.eqO_ok h2, of_decide_eq_true h3, h4, He.eqO_ok h5, He.eqO_ok h6, of_decide_eq_true h7, of_decide_eq_true h8⟩
def toldB (K : PySem.W.Frag) : Bool := CN.all (fun x => decide (PySem.W.exmOne K (.ref (He.ga K x)) (.ref (He.ga K "PageError")) = some true)) && (CN.all (fun x => CN.all fun y => decide (PySem.W.kitOne K (.ref (He.ga K x)) (.ref (He.ga K y)) = some (decide (x = y)))) && CN.all fun x => excB K (He.ga K x))
theorem toldB_ok {K : PySem.W.Frag} (h : toldB K = true) : ToldF K := by
  unfold toldB at h
  obtain ⟨h1, h⟩ := He.ba h
  obtain ⟨h2, h3⟩ := He.ba h
  exact ⟨fun x hx => of_decide_eq_true (List.all_eq_true.mp h1 x hx), fun x hx y hy => of_decide_eq_true (List.all_eq_true.mp (List.all_eq_true.mp h2 x hx) y hy), fun x hx => excB_ok (List.all_eq_true.mp h3 x hx)⟩
def fnL : List Hx.DefE := [⟨("BadStyle", some "__init__"), "__init__", "BadStyle.__init__", sIBadStyle, ["__class__"], []⟩,
  ⟨("BadSum", some "__init__"), "__init__", "BadSum.__init__", sIBadSum, ["__class__"], []⟩,
  ⟨("BadKind", some "__init__"), "__init__", "BadKind.__init__", sIBadKind, ["__class__"], []⟩,
  ⟨("BadLine", some "__init__"), "__init__", "BadLine.__init__", sIBadLine, ["__class__"], []⟩,
  ⟨("Refused", some "__init__"), "__init__", "Refused.__init__", sIRefused, ["__class__"], []⟩,
  ⟨("TooMany", some "__init__"), "__init__", "TooMany.__init__", sITooMany, ["__class__"], []⟩,
  ⟨("_law_draw", none), "_law_draw", "_law_draw", sDraw, [], []⟩,
  ⟨("_law_bag", none), "_law_bag", "_law_bag", sBag, [], []⟩,
  ⟨("number_of", none), "number_of", "number_of", sNum, [], []⟩,
  ⟨("term_of", none), "term_of", "term_of", sTerm, [], []⟩,
  ⟨("sum_of", none), "sum_of", "sum_of", sSumOf, [], []⟩,
  ⟨("divided", none), "divided", "divided", sDiv, [], []⟩,
  ⟨("read_share", none), "read_share", "read_share", sShare, [], []⟩,
  ⟨("line_of", none), "line_of", "line_of", sLine, [], []⟩,
  ⟨("Rules", some "__init__"), "__init__", "Rules.__init__", sRI, [], [.bl true]⟩,
  ⟨("Rules", some "__eq__"), "__eq__", "Rules.__eq__", sEqR, [], []⟩,
  ⟨("side_of", none), "side_of", "side_of", sSide, [], []⟩,
  ⟨("Reader", some "moving"), "moving", "Reader.moving", sMoving, [], []⟩,
  ⟨("Reader", some "deed"), "deed", "Reader.deed", sDeed, [], []⟩,
  ⟨("Reader", some "part"), "part", "Reader.part", sPart, [], []⟩,
  ⟨("Reader", some "read_parts"), "read_parts", "Reader.read_parts", sParts, [], []⟩,
  ⟨("Reader", some "read_rows"), "read_rows", "Reader.read_rows", sRows, [], []⟩,
  ⟨("Reader", some "read_row"), "read_row", "Reader.read_row", sRow, [], []⟩,
  ⟨("Reader", some "__init__"), "__init__", "Reader.__init__", sRdI, [], []⟩,
  ⟨("read", none), "read", "read", sRead, [], []⟩,
  ⟨("count_ifs", none), "count_ifs", "count_ifs", sCount, [], []⟩,
  ⟨("marks_of", none), "marks_of", "marks_of", sMarks, [], []⟩,
  ⟨("ways_of", none), "ways_of", "ways_of", sWays, [], []⟩,
  ⟨("longer_ways", none), "longer_ways", "longer_ways", sLonger, [], []⟩,
  ⟨("too_much", none), "too_much", "too_much", sMuch, [], []⟩,
  ⟨("moves_of", none), "moves_of", "moves_of", sMoves, [], []⟩,
  ⟨("Rules", some "product"), "product", "Rules.product", sProduct, [], []⟩,
  ⟨("need_limits", none), "need_limits", "need_limits", sLimits, [], []⟩,
  ⟨("Code", some "__init__"), "__init__", "Code.__init__", sCodeI, [], []⟩,
  ⟨("Code", some "__len__"), "__len__", "Code.__len__", sCLen, [], []⟩,
  ⟨("Code", some "__getitem__"), "__getitem__", "Code.__getitem__", sCGet, [], []⟩,
  ⟨("Code", some "__eq__"), "__eq__", "Code.__eq__", sCEq, [], []⟩,
  ⟨("_law_told", none), "_law_told", "_law_told", sTold, [], []⟩,
  ⟨("_law_lines", none), "_law_lines", "_law_lines", sLines, [], []⟩,
  ⟨("_law_ifs_right", none), "_law_ifs_right", "_law_ifs_right", sIfs, [], []⟩,
  ⟨("law", none), "law", "law", sLaw, [], []⟩]
def faL : List He.Fa := [.free "int", .free "len", .free "list", .int "MOST_FIGURES" 30, .glo "number_of", .int "MOST_FACTOR" 12, .glo "term_of", .free "tuple", .int "MOST_TERMS" 4, .glo "sum_of", .glo "divided", .free "isinstance", .free "str", .free "any", .int "MOST_SHARE" 6, .free "sum", .glo "read_share", .glo "line_of", .meth "Reader" "moving", .glo "side_of", .meth "Reader" "part", .int "MOST_PARTS" 4, .meth "Reader" "read_parts", .meth "Reader" "read_rows", .meth "Reader" "read_row", .meth "Reader" "deed", .glo "count_ifs", .glo "marks_of", .glo "longer_ways", .glo "ways_of", .int "MOST_SETTINGS" 2, .int "MOST_DIVISIONS" 2, .int "MOST_PRODUCT" 144, .glo "too_much", .glo "moves_of", .meth "Rules" "product", .free "min", .int "MOST_IFS" 7, .int "MOST_MOVES" 3, .glo "read", .glo "need_limits", .int "MOST_LINES" 40, .glo "PageError", .glo "_law_draw", .free "range", .glo "_law_told", .glo "_law_bag", .glo "_law_lines", .glo "_law_ifs_right", .free "super", .cls "Rules", .mkr "Rules", .glo "Rules", .noat "Rules" "own_shares", .noat "Rules" "cap_share", .noat "Rules" "low_share", .noat "Rules" "style", .noat "Rules" "cap", .noat "Rules" "low", .noat "Rules" "root", .cls "Code", .mkr "Code", .glo "Code", .noat "Code" "kind", .noat "Code" "rules", .noat "Code" "text", .noat "Code" "own_lines", .noat "Code" "rows", .noat "Code" "own_tables", .cls "Reader", .mkr "Reader", .glo "Reader", .noat "Reader" "texts", .noat "Reader" "line", .glo "law"]
def fbL : List (PySem.W.Frag → Bool) := [fun K => Hx.supB progOf K "BadStyle" ["style"],
  fun K => Hx.supB progOf K "BadSum" ["text"],
  fun K => Hx.supB progOf K "BadKind" ["kind"],
  fun K => Hx.supB progOf K "BadLine" ["line"],
  fun K => Hx.supB progOf K "Refused" ["line"],
  fun K => Hx.supB progOf K "TooMany" ["what", "many", "most"],
  insB "Rules",
  insCB "Code",
  eqB "Rules",
  eqB "Code",
  ownB "Code" "__len__",
  ownB "Code" "__getitem__",
  nf1B "Rules",
  nfSB "Code",
  toldB,
  Hx.tupB "ATOMS" (ATOMSL.map V.str),
  Hx.tupB "FACTORED" (FACTL.map V.str),
  Hx.tupB "STYLES" (STYL.map V.str),
  Hx.tupB "KINDS" (KINDL.map V.str),
  Hx.tupB "REGISTERS" (REGL.map V.str),
  Hx.tupB "PLAIN" PLAINV,
  Hx.tupB "PAGES" (PAGEL.map V.str)]
abbrev RR : PySem.W.OpenRow := PySem.W.OpenLaw.row PySem.Challenge.rw_pagecode_k01_codes_made_and_refused
abbrev hkk : PySem.W.Hook := Hx.hookX 5 faL fbL fnL
def ob (s : PySem.W.SharedT) : Hx.AlX := Hx.obsXG 5 faL fbL fnL (HandSHeadRun.getT s)
theorem ob_eq (s : PySem.W.SharedT) : ob s = hkk.obs s.abs := Hx.obsXG_eq (HandSHeadRun.getT_eq s)
abbrev loA : List Str := ["_wall", "PageError", "BadStyle", "BadSum", "BadKind", "BadLine", "Refused", "TooMany", "count_ifs", "ways_of", "longer_ways", "marks_of", "too_much", "moves_of", "need_limits", "number_of", "term_of", "sum_of", "side_of", "divided", "Reader", "read", "Code", "read_share", "line_of", "share_at", "Rules", "_law_bag", "_law_draw", "_law_told"]
abbrev loB : List Str := ["_law_lines", "_law_ifs_right", "MOST_IFS", "MOST_DIVISIONS", "MOST_SETTINGS", "MOST_PRODUCT", "MOST_MOVES", "PLAIN", "PAGES", "REGISTERS", "FACTORED", "ATOMS", "MOST_TERMS", "MOST_FIGURES", "MOST_FACTOR", "MOST_PARTS", "KINDS", "MOST_LINES", "STYLES", "MOST_SHARE"]
abbrev looseL : List Str := loA ++ loB
theorem run_top (w : World) : HandSHeadRun.RunEq RR (PySem.W.view RR.prog [56]) hkk ob 20000 looseL w := by
  intro os
  kernel_rfl
end Pk
namespace Pk
open L2 PyProof.Rows PySem.Spec PySem
theorem facts {w : World} {K : PySem.W.Frag} {h : Heap} {mg : Str → Option Value} {f : Addr} (X : K.In h) (G : h.Ns mainGlobals mg) (hfa : mg ("law" : Str) = some (.ref f)) (c : Hx.SaysX faL fbL fnL K) :
    ∃ fd : FuncData, (∀ (s : Shared) (v : Value), BindsTo s fd ⟨[v], []⟩ [("_law_script", v)]) ∧ ∀ base : Heap, K.In base → base.Ns mainGlobals mg → FnOk progOf w K mg base CX0 94 f fd ["_law_script"] (spLaw1 K) := by
  obtain ⟨fd_law_draw, F_law_draw⟩ := c.def_ 6 (x := "_law_draw") (p := ("_law_draw", none)) (qual := "_law_draw") (st := sDraw) (dfl := [])
  obtain ⟨fd_law_bag, F_law_bag⟩ := c.def_ 7 (x := "_law_bag") (p := ("_law_bag", none)) (qual := "_law_bag") (st := sBag) (dfl := [])
  obtain ⟨fdnumber_of, Fnumber_of⟩ := c.def_ 8 (x := "number_of") (p := ("number_of", none)) (qual := "number_of") (st := sNum) (dfl := [])
  obtain ⟨fdterm_of, Fterm_of⟩ := c.def_ 9 (x := "term_of") (p := ("term_of", none)) (qual := "term_of") (st := sTerm) (dfl := [])
  obtain ⟨fdsum_of, Fsum_of⟩ := c.def_ 10 (x := "sum_of") (p := ("sum_of", none)) (qual := "sum_of") (st := sSumOf) (dfl := [])
  obtain ⟨fddivided, Fdivided⟩ := c.def_ 11 (x := "divided") (p := ("divided", none)) (qual := "divided") (st := sDiv) (dfl := [])
  obtain ⟨fdread_share, Fread_share⟩ := c.def_ 12 (x := "read_share") (p := ("read_share", none)) (qual := "read_share") (st := sShare) (dfl := [])
  obtain ⟨fdline_of, Fline_of⟩ := c.def_ 13 (x := "line_of") (p := ("line_of", none)) (qual := "line_of") (st := sLine) (dfl := [])
  obtain ⟨fdRulesU_initU, FRulesU_initU⟩ := c.def_ 14 (x := "__init__") (p := ("Rules", some "__init__")) (qual := "Rules.__init__") (st := sRI) (dfl := [.bl true])
  obtain ⟨fdRulesU_eqU, FRulesU_eqU⟩ := c.def_ 15 (x := "__eq__") (p := ("Rules", some "__eq__")) (qual := "Rules.__eq__") (st := sEqR) (dfl := [])
  obtain ⟨fdside_of, Fside_of⟩ := c.def_ 16 (x := "side_of") (p := ("side_of", none)) (qual := "side_of") (st := sSide) (dfl := [])
  obtain ⟨fdReader_moving, FReader_moving⟩ := c.def_ 17 (x := "moving") (p := ("Reader", some "moving")) (qual := "Reader.moving") (st := sMoving) (dfl := [])
  obtain ⟨fdReader_deed, FReader_deed⟩ := c.def_ 18 (x := "deed") (p := ("Reader", some "deed")) (qual := "Reader.deed") (st := sDeed) (dfl := [])
  obtain ⟨fdReader_part, FReader_part⟩ := c.def_ 19 (x := "part") (p := ("Reader", some "part")) (qual := "Reader.part") (st := sPart) (dfl := [])
  obtain ⟨fdReader_read_parts, FReader_read_parts⟩ := c.def_ 20 (x := "read_parts") (p := ("Reader", some "read_parts")) (qual := "Reader.read_parts") (st := sParts) (dfl := [])
  obtain ⟨fdReader_read_rows, FReader_read_rows⟩ := c.def_ 21 (x := "read_rows") (p := ("Reader", some "read_rows")) (qual := "Reader.read_rows") (st := sRows) (dfl := [])
  obtain ⟨fdReader_read_row, FReader_read_row⟩ := c.def_ 22 (x := "read_row") (p := ("Reader", some "read_row")) (qual := "Reader.read_row") (st := sRow) (dfl := [])
  obtain ⟨fdReaderU_initU, FReaderU_initU⟩ := c.def_ 23 (x := "__init__") (p := ("Reader", some "__init__")) (qual := "Reader.__init__") (st := sRdI) (dfl := [])
  obtain ⟨fdread, Fread⟩ := c.def_ 24 (x := "read") (p := ("read", none)) (qual := "read") (st := sRead) (dfl := [])
  obtain ⟨fdcount_ifs, Fcount_ifs⟩ := c.def_ 25 (x := "count_ifs") (p := ("count_ifs", none)) (qual := "count_ifs") (st := sCount) (dfl := [])
  obtain ⟨fdmarks_of, Fmarks_of⟩ := c.def_ 26 (x := "marks_of") (p := ("marks_of", none)) (qual := "marks_of") (st := sMarks) (dfl := [])
  obtain ⟨fdways_of, Fways_of⟩ := c.def_ 27 (x := "ways_of") (p := ("ways_of", none)) (qual := "ways_of") (st := sWays) (dfl := [])
  obtain ⟨fdlonger_ways, Flonger_ways⟩ := c.def_ 28 (x := "longer_ways") (p := ("longer_ways", none)) (qual := "longer_ways") (st := sLonger) (dfl := [])
  obtain ⟨fdtoo_much, Ftoo_much⟩ := c.def_ 29 (x := "too_much") (p := ("too_much", none)) (qual := "too_much") (st := sMuch) (dfl := [])
  obtain ⟨fdmoves_of, Fmoves_of⟩ := c.def_ 30 (x := "moves_of") (p := ("moves_of", none)) (qual := "moves_of") (st := sMoves) (dfl := [])
  obtain ⟨fdRules_product, FRules_product⟩ := c.def_ 31 (x := "product") (p := ("Rules", some "product")) (qual := "Rules.product") (st := sProduct) (dfl := [])
  obtain ⟨fdneed_limits, Fneed_limits⟩ := c.def_ 32 (x := "need_limits") (p := ("need_limits", none)) (qual := "need_limits") (st := sLimits) (dfl := [])
  obtain ⟨fdCodeU_initU, FCodeU_initU⟩ := c.def_ 33 (x := "__init__") (p := ("Code", some "__init__")) (qual := "Code.__init__") (st := sCodeI) (dfl := [])
  obtain ⟨fdCodeU_lenU, FCodeU_lenU⟩ := c.def_ 34 (x := "__len__") (p := ("Code", some "__len__")) (qual := "Code.__len__") (st := sCLen) (dfl := [])
  obtain ⟨fdCodeU_getitemU, FCodeU_getitemU⟩ := c.def_ 35 (x := "__getitem__") (p := ("Code", some "__getitem__")) (qual := "Code.__getitem__") (st := sCGet) (dfl := [])
  obtain ⟨fdCodeU_eqU, FCodeU_eqU⟩ := c.def_ 36 (x := "__eq__") (p := ("Code", some "__eq__")) (qual := "Code.__eq__") (st := sCEq) (dfl := [])
  obtain ⟨fd_law_told, F_law_told⟩ := c.def_ 37 (x := "_law_told") (p := ("_law_told", none)) (qual := "_law_told") (st := sTold) (dfl := [])
  obtain ⟨fd_law_lines, F_law_lines⟩ := c.def_ 38 (x := "_law_lines") (p := ("_law_lines", none)) (qual := "_law_lines") (st := sLines) (dfl := [])
  obtain ⟨fd_law_ifs_right, F_law_ifs_right⟩ := c.def_ 39 (x := "_law_ifs_right") (p := ("_law_ifs_right", none)) (qual := "_law_ifs_right") (st := sIfs) (dfl := [])
  obtain ⟨fdlaw, Flaw⟩ := c.def_ 40 (x := "law") (p := ("law", none)) (qual := "law") (st := sLaw) (dfl := [])
  have ER : Errs progOf K mg := {
      iBadStyle := c.init X G 0 0
      iBadSum := c.init X G 1 1
      iBadKind := c.init X G 2 2
      iBadLine := c.init X G 3 3
      iRefused := c.init X G 4 4
      iTooMany := c.init X G 5 5
      mS := (He.free_ok X G (c.fact 49 (f := .free "super") rfl))
      hP := rfl }
  have RC : RulesC K mg (He.ga K "Rules") (He.ma K (He.ga K "Rules") "__init__") := ⟨(He.cls_ok (c.fact 50 (f := .cls "Rules") rfl)), (He.mkr_ok (c.fact 51 (f := .mkr "Rules") rfl)), (He.glo_ok X G (c.fact 52 (f := .glo "Rules") rfl)), (by
    intro f hf
    simp only [List.mem_cons, List.not_mem_nil, or_false] at hf
    rcases hf with rfl | rfl | rfl | rfl | rfl | rfl | rfl
    · exact (He.noat_ok (c.fact 53 (f := .noat "Rules" "own_shares") rfl))
    · exact (He.noat_ok (c.fact 54 (f := .noat "Rules" "cap_share") rfl))
    · exact (He.noat_ok (c.fact 55 (f := .noat "Rules" "low_share") rfl))
    · exact (He.noat_ok (c.fact 56 (f := .noat "Rules" "style") rfl))
    · exact (He.noat_ok (c.fact 57 (f := .noat "Rules" "cap") rfl))
    · exact (He.noat_ok (c.fact 58 (f := .noat "Rules" "low") rfl))
    · exact (He.noat_ok (c.fact 59 (f := .noat "Rules" "root") rfl)))⟩
  have CC : CodeC K mg (He.ga K "Code") (He.ma K (He.ga K "Code") "__init__") := ⟨(He.cls_ok (c.fact 60 (f := .cls "Code") rfl)), (He.mkr_ok (c.fact 61 (f := .mkr "Code") rfl)), (He.glo_ok X G (c.fact 62 (f := .glo "Code") rfl)), (by
    intro f hf
    simp only [List.mem_cons, List.not_mem_nil, or_false] at hf
    rcases hf with rfl | rfl | rfl | rfl | rfl | rfl
    · exact (He.noat_ok (c.fact 63 (f := .noat "Code" "kind") rfl))
    · exact (He.noat_ok (c.fact 64 (f := .noat "Code" "rules") rfl))
    · exact (He.noat_ok (c.fact 65 (f := .noat "Code" "text") rfl))
    · exact (He.noat_ok (c.fact 66 (f := .noat "Code" "own_lines") rfl))
    · exact (He.noat_ok (c.fact 67 (f := .noat "Code" "rows") rfl))
    · exact (He.noat_ok (c.fact 68 (f := .noat "Code" "own_tables") rfl)))⟩
  have RD : ReaderC K mg (He.ga K "Reader") (He.ma K (He.ga K "Reader") "__init__") := ⟨(He.cls_ok (c.fact 69 (f := .cls "Reader") rfl)), (He.mkr_ok (c.fact 70 (f := .mkr "Reader") rfl)), (He.glo_ok X G (c.fact 71 (f := .glo "Reader") rfl)), (by
    intro f hf
    simp only [List.mem_cons, List.not_mem_nil, or_false] at hf
    rcases hf with rfl | rfl
    · exact (He.noat_ok (c.fact 72 (f := .noat "Reader" "texts") rfl))
    · exact (He.noat_ok (c.fact 73 (f := .noat "Reader" "line") rfl)))⟩
  have II : InsIs K (He.ga K "Rules") := insB_ok (c.own 6 (f := insB "Rules"))
  have IC : InsC K (He.ga K "Code") := insCB_ok (c.own 7 (f := insCB "Code"))
  have EC : EqC K (He.ga K "Rules") (He.ma K (He.ga K "Rules") "__eq__") := eqB_ok (c.own 8 (f := eqB "Rules"))
  have ECC : EqC K (He.ga K "Code") (He.ma K (He.ga K "Code") "__eq__") := eqB_ok (c.own 9 (f := eqB "Code"))
  have OL : OwnC K (He.ga K "Code") (He.ma K (He.ga K "Code") "__len__") "__len__" := ownB_ok (c.own 10 (f := ownB "Code" "__len__"))
  have OG : OwnC K (He.ga K "Code") (He.ma K (He.ga K "Code") "__getitem__") "__getitem__" := ownB_ok (c.own 11 (f := ownB "Code" "__getitem__"))
  have nf := nf1B_ok (c.own 12 (f := nf1B "Rules"))
  obtain ⟨nfC, nfS⟩ := nfSB_ok (c.own 13 (f := nfSB "Code"))
  have TF : ToldF K := toldB_ok (c.own 14 (f := toldB))
  obtain ⟨ds0, vd0, bI⟩ := FunD.binds1 (ps := ["self", "style", "cap", "low", "root"]) FRulesU_initU 5 1 (by simp) rfl fun T kV doc pm an cdv ct us its hl hi => match us, its, hl, hi with | [_, _, _, _, _], [_], _, _ => ⟨_, rfl, rfl⟩
  cases vd0
  obtain ⟨ds3, dI, bI3⟩ := FunD.binds1 (ps := ["self", "style", "cap", "low", "root"]) FRulesU_initU 4 0 (by simp) rfl fun T kV doc pm an cdv ct us its hl hi => match us, its, hl, hi with | [_, _, _, _], [_], _, _ => ⟨_, rfl, rfl⟩
  have bE := FunD.bindsN (ps := ["self", "other"]) FRulesU_eqU fun _ _ _ _ _ _ us hl => match us, hl with | [_, _], _ => rfl
  have bQ := FunD.bindsN (ps := ["self", "other"]) FCodeU_eqU fun _ _ _ _ _ _ us hl => match us, hl with | [_, _], _ => rfl
  have bG := FunD.bindsN (ps := ["self", "k"]) FCodeU_getitemU fun _ _ _ _ _ _ us hl => match us, hl with | [_, _], _ => rfl
  have bL0 := FunD.bindsN (ps := ["self"]) FCodeU_lenU fun _ _ _ _ _ _ us hl => match us, hl with | [_], _ => rfl
  have bC := FunD.bindsN (ps := ["self", "kind", "rules", "text"]) FCodeU_initU fun _ _ _ _ _ _ us hl => match us, hl with | [_, _, _, _], _ => rfl
  have TATOMS := Hx.tupB_ok (x := "ATOMS") (vs := (ATOMSL.map V.str)) X G (c.own 15 (f := Hx.tupB "ATOMS" (ATOMSL.map V.str)))
  have TFACTORED := Hx.tupB_ok (x := "FACTORED") (vs := (FACTL.map V.str)) X G (c.own 16 (f := Hx.tupB "FACTORED" (FACTL.map V.str)))
  have TSTYLES := Hx.tupB_ok (x := "STYLES") (vs := (STYL.map V.str)) X G (c.own 17 (f := Hx.tupB "STYLES" (STYL.map V.str)))
  have TKINDS := Hx.tupB_ok (x := "KINDS") (vs := (KINDL.map V.str)) X G (c.own 18 (f := Hx.tupB "KINDS" (KINDL.map V.str)))
  have TREGISTERS := Hx.tupB_ok (x := "REGISTERS") (vs := (REGL.map V.str)) X G (c.own 19 (f := Hx.tupB "REGISTERS" (REGL.map V.str)))
  have TPLAIN := Hx.tupB_ok (x := "PLAIN") (vs := PLAINV) X G (c.own 20 (f := Hx.tupB "PLAIN" PLAINV))
  have TPAGES := Hx.tupB_ok (x := "PAGES") (vs := (PAGEL.map V.str)) X G (c.own 21 (f := Hx.tupB "PAGES" (PAGEL.map V.str)))
  have e := hfa.symm.trans (He.glo_ok X G (c.fact 74 (f := .glo "law") rfl))
  cases e
  have b := FunD.bindsA (ps := ["_law_script"]) Flaw fun _ _ _ _ _ _ us hl => match us, hl with | [_], _ => rfl
  refine ⟨fdlaw, fun s v => b s [v] rfl, fun base _ _ => ?_⟩
  have G_law_draw := ok_draw (P := progOf) (w := w) (K := K) (mg := mg) (base := base) (F := F_law_draw) (mInt := (He.free_ok X G (c.fact 0 (f := .free "int") rfl))) (mLen := (He.free_ok X G (c.fact 1 (f := .free "len") rfl)))
  have G_law_bag := ok_bag (P := progOf) (w := w) (K := K) (mg := mg) (base := base) (F := F_law_bag) (mInt := (He.free_ok X G (c.fact 0 (f := .free "int") rfl))) (mList := (He.free_ok X G (c.fact 2 (f := .free "list") rfl)))
  have Gnumber_of := ok_number_of (P := progOf) (w := w) (K := K) (mg := mg) (base := base) (F := Fnumber_of) (mLen := (He.free_ok X G (c.fact 1 (f := .free "len") rfl))) (mInt := (He.free_ok X G (c.fact 0 (f := .free "int") rfl))) (gMF := (Hx.intG X G (c.fact 3 (f := .int "MOST_FIGURES" 30) rfl)))
  have Gterm_of := ok_term_of (P := progOf) (w := w) (K := K) (mg := mg) (base := base) (F := Fterm_of) (FN := Fnumber_of) (GN := Gnumber_of) (gN := (He.glo_ok X G (c.fact 4 (f := .glo "number_of") rfl))) (mLen := (He.free_ok X G (c.fact 1 (f := .free "len") rfl))) (gMF := (Hx.intG X G (c.fact 5 (f := .int "MOST_FACTOR" 12) rfl))) (gA := TATOMS.1) (gF := TFACTORED.1) (tA := TATOMS.2) (tF := TFACTORED.2)
  have Gsum_of := ok_sum_of (P := progOf) (w := w) (K := K) (mg := mg) (base := base) (F := Fsum_of) (FT := Fterm_of) (GT := Gterm_of) (gT := (He.glo_ok X G (c.fact 6 (f := .glo "term_of") rfl))) (mLen := (He.free_ok X G (c.fact 1 (f := .free "len") rfl))) (mTuple := (He.free_ok X G (c.fact 7 (f := .free "tuple") rfl))) (gMT := (Hx.intG X G (c.fact 8 (f := .int "MOST_TERMS" 4) rfl)))
  have Gdivided := ok_divided (P := progOf) (w := w) (K := K) (mg := mg) (base := base) (F := Fdivided) (FN := Fnumber_of) (FS := Fsum_of) (GN := Gnumber_of) (GS := Gsum_of) (gN := (He.glo_ok X G (c.fact 4 (f := .glo "number_of") rfl))) (gS := (He.glo_ok X G (c.fact 9 (f := .glo "sum_of") rfl))) (mLen := (He.free_ok X G (c.fact 1 (f := .free "len") rfl)))
  have Gread_share := ok_read_share (P := progOf) (w := w) (K := K) (mg := mg) (base := base) (F := Fread_share) (FD := Fdivided) (GD := Gdivided) (gD := (He.glo_ok X G (c.fact 10 (f := .glo "divided") rfl))) (ER := ER) (mIsi := (He.free_ok X G (c.fact 11 (f := .free "isinstance") rfl))) (mStr := (He.free_ok X G (c.fact 12 (f := .free "str") rfl))) (mAny := (He.free_ok X G (c.fact 13 (f := .free "any") rfl))) (gMS := (Hx.intG X G (c.fact 14 (f := .int "MOST_SHARE" 6) rfl)))
  have Gline_of := ok_line_of (P := progOf) (w := w) (K := K) (mg := mg) (base := base) (F := Fline_of) (mSum := (He.free_ok X G (c.fact 15 (f := .free "sum") rfl)))
  have GRulesU_initU := ok_Rules_init (P := progOf) (w := w) (K := K) (mg := mg) (base := base) (F := FRulesU_initU) (RC := RC) (FS := Fread_share) (FL := Fline_of) (GS := Gread_share) (GL := Gline_of) (gRS := (He.glo_ok X G (c.fact 16 (f := .glo "read_share") rfl))) (gL := (He.glo_ok X G (c.fact 17 (f := .glo "line_of") rfl))) (ER := ER) (mIsi := (He.free_ok X G (c.fact 11 (f := .free "isinstance") rfl))) (mStr := (He.free_ok X G (c.fact 12 (f := .free "str") rfl))) (gS := TSTYLES.1) (tS := TSTYLES.2)
  have GRulesU_eqU := ok_Rules_eq (P := progOf) (w := w) (K := K) (mg := mg) (base := base) (F := FRulesU_eqU) (RC := RC) (II := II) (mIsi := (He.free_ok X G (c.fact 11 (f := .free "isinstance") rfl)))
  have Gside_of := ok_side_of (P := progOf) (w := w) (K := K) (mg := mg) (base := base) (F := Fside_of) (FT := Fterm_of) (GT := Gterm_of) (gT := (He.glo_ok X G (c.fact 6 (f := .glo "term_of") rfl)))
  have GReader_moving := ok_Reader_moving (P := progOf) (w := w) (K := K) (mg := mg) (base := base) (F := FReader_moving) (RD := RD) (FS := Fsum_of) (GS := Gsum_of) (gS := (He.glo_ok X G (c.fact 9 (f := .glo "sum_of") rfl))) (mLen := (He.free_ok X G (c.fact 1 (f := .free "len") rfl))) (gPG := TPAGES.1) (tP := TPAGES.2)
  have GReader_deed := ok_Reader_deed (P := progOf) (w := w) (K := K) (mg := mg) (base := base) (F := FReader_deed) (RD := RD) (FD := Fdivided) (FM := FReader_moving) (GD := Gdivided) (GM := GReader_moving) (gD := (He.glo_ok X G (c.fact 10 (f := .glo "divided") rfl))) (mM := (He.meth_ok (c.fact 18 (f := .meth "Reader" "moving") rfl))) (mLen := (He.free_ok X G (c.fact 1 (f := .free "len") rfl))) (gMF := (Hx.intG X G (c.fact 5 (f := .int "MOST_FACTOR" 12) rfl))) (gPG := TPAGES.1) (tP := TPAGES.2) (gRG := TREGISTERS.1) (tR := TREGISTERS.2)
  have GReader_part := ok_Reader_part (P := progOf) (w := w) (K := K) (mg := mg) (base := base) (F := FReader_part) (RD := RD) (FS := Fside_of) (GS := Gside_of) (gS := (He.glo_ok X G (c.fact 19 (f := .glo "side_of") rfl))) (mLen := (He.free_ok X G (c.fact 1 (f := .free "len") rfl))) (ER := ER) (gPG := TPAGES.1) (tP := TPAGES.2)
  have GReader_read_parts := ok_Reader_read_parts (P := progOf) (w := w) (K := K) (mg := mg) (base := base) (F := FReader_read_parts) (RD := RD) (FP := FReader_part) (GP := GReader_part) (mP := (He.meth_ok (c.fact 20 (f := .meth "Reader" "part") rfl))) (mLen := (He.free_ok X G (c.fact 1 (f := .free "len") rfl))) (mTuple := (He.free_ok X G (c.fact 7 (f := .free "tuple") rfl))) (ER := ER) (gMP := (Hx.intG X G (c.fact 21 (f := .int "MOST_PARTS" 4) rfl)))
  have GReader_read_rows := ok_reader_rows (P := progOf) (w := w) (K := K) (mg := mg) (base := base) (FS := FReader_read_rows) (FW := FReader_read_row) (RD := RD) (FP := FReader_read_parts) (FD := FReader_deed) (GP := GReader_read_parts) (GD := GReader_deed) (mP := (He.meth_ok (c.fact 22 (f := .meth "Reader" "read_parts") rfl))) (mS := (He.meth_ok (c.fact 23 (f := .meth "Reader" "read_rows") rfl))) (mW := (He.meth_ok (c.fact 24 (f := .meth "Reader" "read_row") rfl))) (mD := (He.meth_ok (c.fact 25 (f := .meth "Reader" "deed") rfl))) (mLen := (He.free_ok X G (c.fact 1 (f := .free "len") rfl))) (ER := ER)
  have GReaderU_initU := ok_Reader_init (P := progOf) (w := w) (K := K) (mg := mg) (base := base) (F := FReaderU_initU) (RD := RD)
  have Gread := ok_read (P := progOf) (w := w) (K := K) (mg := mg) (base := base) (F := Fread) (RD := RD) (FI := FReaderU_initU) (FR := FReader_read_rows) (GI := GReaderU_initU) (GR := (GReader_read_rows 41)) (mR := (He.meth_ok (c.fact 23 (f := .meth "Reader" "read_rows") rfl)))
  have Gcount_ifs := ok_count_ifs (P := progOf) (w := w) (K := K) (mg := mg) (base := base) (FC := Fcount_ifs) (gC := (He.glo_ok X G (c.fact 26 (f := .glo "count_ifs") rfl))) (mSum := (He.free_ok X G (c.fact 15 (f := .free "sum") rfl)))
  have Gmarks_of := ok_marks_of (P := progOf) (w := w) (K := K) (mg := mg) (base := base) (FC := Fmarks_of) (gC := (He.glo_ok X G (c.fact 27 (f := .glo "marks_of") rfl)))
  have Gways_of := ok_ways_of (P := progOf) (w := w) (K := K) (mg := mg) (base := base) (F := Fways_of) (FL := Flonger_ways) (gL := (He.glo_ok X G (c.fact 28 (f := .glo "longer_ways") rfl))) (gW := (He.glo_ok X G (c.fact 29 (f := .glo "ways_of") rfl)))
  have Gtoo_much := ok_too_much (P := progOf) (w := w) (K := K) (mg := mg) (base := base) (F := Ftoo_much) (gMS := (Hx.intG X G (c.fact 30 (f := .int "MOST_SETTINGS" 2) rfl))) (gMD := (Hx.intG X G (c.fact 31 (f := .int "MOST_DIVISIONS" 2) rfl))) (gMP := (Hx.intG X G (c.fact 32 (f := .int "MOST_PRODUCT" 144) rfl)))
  have Gmoves_of := ok_moves_of (P := progOf) (w := w) (K := K) (mg := mg) (base := base) (F := Fmoves_of) (mAny := (He.free_ok X G (c.fact 13 (f := .free "any") rfl))) (gPL := TPLAIN.1) (tN := TPLAIN.2)
  have GRules_product := ok_Rules_product (P := progOf) (w := w) (K := K) (mg := mg) (base := base) (F := FRules_product) (RC := RC)
  have Gneed_limits := ok_need_limits (P := progOf) (w := w) (K := K) (mg := mg) (base := base) (F := Fneed_limits) (RC := RC) (ER := ER) (FC := Fcount_ifs) (GC := (Gcount_ifs 42)) (gC := (He.glo_ok X G (c.fact 26 (f := .glo "count_ifs") rfl))) (FK := Fmarks_of) (GK := (Gmarks_of 42)) (gK := (He.glo_ok X G (c.fact 27 (f := .glo "marks_of") rfl))) (FW := Fways_of) (GW := (Gways_of 42)) (gW := (He.glo_ok X G (c.fact 29 (f := .glo "ways_of") rfl))) (FT := Ftoo_much) (GT := Gtoo_much) (gT := (He.glo_ok X G (c.fact 33 (f := .glo "too_much") rfl))) (FM := Fmoves_of) (GM := Gmoves_of) (gM := (He.glo_ok X G (c.fact 34 (f := .glo "moves_of") rfl))) (FP := FRules_product) (GP := GRules_product) (mP := (He.meth_ok (c.fact 35 (f := .meth "Rules" "product") rfl))) (mLen := (He.free_ok X G (c.fact 1 (f := .free "len") rfl))) (mInt := (He.free_ok X G (c.fact 0 (f := .free "int") rfl))) (mMin := (He.free_ok X G (c.fact 36 (f := .free "min") rfl))) (gMI := (Hx.intG X G (c.fact 37 (f := .int "MOST_IFS" 7) rfl))) (gMM := (Hx.intG X G (c.fact 38 (f := .int "MOST_MOVES" 3) rfl)))
  have GCodeU_initU := ok_Code_init (RC := (He.ga K "Rules")) (P := progOf) (w := w) (K := K) (mg := mg) (base := base) (F := FCodeU_initU) (CC := CC) (ER := ER) (FR := Fread) (GR := Gread) (gR := (He.glo_ok X G (c.fact 39 (f := .glo "read") rfl))) (FL := Fneed_limits) (GL := Gneed_limits) (gL := (He.glo_ok X G (c.fact 40 (f := .glo "need_limits") rfl))) (mIsi := (He.free_ok X G (c.fact 11 (f := .free "isinstance") rfl))) (mStr := (He.free_ok X G (c.fact 12 (f := .free "str") rfl))) (mLen := (He.free_ok X G (c.fact 1 (f := .free "len") rfl))) (gML := (Hx.intG X G (c.fact 41 (f := .int "MOST_LINES" 40) rfl))) (gK := TKINDS.1) (tK := TKINDS.2)
  have GCodeU_lenU := ok_Code_len (RC := (He.ga K "Rules")) (P := progOf) (w := w) (K := K) (mg := mg) (base := base) (F := FCodeU_lenU) (CC := CC) (mLen := (He.free_ok X G (c.fact 1 (f := .free "len") rfl)))
  have GCodeU_getitemU := ok_Code_getitem (RC := (He.ga K "Rules")) (P := progOf) (w := w) (K := K) (mg := mg) (base := base) (F := FCodeU_getitemU) (CC := CC)
  have GCodeU_eqU := ok_Code_eq (P := progOf) (w := w) (K := K) (mg := mg) (base := base) (F := FCodeU_eqU) (CC := CC) (II := IC) (EC := EC) (GE := GRulesU_eqU) (bE := bE) (nf := nf) (RCc := RC) (IR := II) (mIsi := (He.free_ok X G (c.fact 11 (f := .free "isinstance") rfl)))
  have G_law_told := ok_law_told (P := progOf) (w := w) (K := K) (mg := mg) (base := base) (F := F_law_told) (CC := CC) (GI := GCodeU_initU) (bI := bC) (OL := OL) (GL := GCodeU_lenU) (bL := bL0) (ER := ER) (TF := TF) (gPE := (He.glo_ok X G (c.fact 42 (f := .glo "PageError") rfl))) (mIsi := (He.free_ok X G (c.fact 11 (f := .free "isinstance") rfl))) (mLen := (He.free_ok X G (c.fact 1 (f := .free "len") rfl)))
  have G_law_lines := ok_law_lines (P := progOf) (w := w) (K := K) (mg := mg) (base := base) (F := F_law_lines) (FD := F_law_draw) (GD := G_law_draw) (gD := (He.glo_ok X G (c.fact 43 (f := .glo "_law_draw") rfl))) (mRange := (He.free_ok X G (c.fact 44 (f := .free "range") rfl))) (mStr := (He.free_ok X G (c.fact 12 (f := .free "str") rfl)))
  have G_law_ifs_right := ok_law_ifs_right (RC := (He.ga K "Rules")) (P := progOf) (w := w) (K := K) (mg := mg) (base := base) (F := F_law_ifs_right) (FT := F_law_told) (GT := G_law_told) (gT := (He.glo_ok X G (c.fact 45 (f := .glo "_law_told") rfl)))
  exact ok_law (P := progOf) (w := w) (K := K) (mg := mg) (base := base) (F := Flaw) (FB := F_law_bag) (FD := F_law_draw) (FL := F_law_lines) (FT := F_law_told) (FF := F_law_ifs_right) (GB := G_law_bag) (GD := G_law_draw) (GL := G_law_lines) (GT := G_law_told) (GF := G_law_ifs_right) (gB := (He.glo_ok X G (c.fact 46 (f := .glo "_law_bag") rfl))) (gD := (He.glo_ok X G (c.fact 43 (f := .glo "_law_draw") rfl))) (gL := (He.glo_ok X G (c.fact 47 (f := .glo "_law_lines") rfl))) (gT := (He.glo_ok X G (c.fact 45 (f := .glo "_law_told") rfl))) (gF := (He.glo_ok X G (c.fact 48 (f := .glo "_law_ifs_right") rfl))) (RR := RC) (GI := GRulesU_initU) (bI := bI) (bI3 := bI3) (dI := dI) (CC := CC) (GC := GCodeU_initU) (bC := bC) (EQR := EC) (GE := GRulesU_eqU) (bE := bE) (nfR := nf) (IR := II) (EQC := ECC) (GQ := GCodeU_eqU) (bQ := bQ) (nfC := nfC) (nfS := nfS) (IC := IC) (OG := OG) (GG := GCodeU_getitemU) (bG := bG) (OL := OL) (GN := GCodeU_lenU) (bN := bL0) (mRange := (He.free_ok X G (c.fact 44 (f := .free "range") rfl))) (mLen := (He.free_ok X G (c.fact 1 (f := .free "len") rfl))) (mInt := (He.free_ok X G (c.fact 0 (f := .free "int") rfl))) (mList := (He.free_ok X G (c.fact 2 (f := .free "list") rfl)))
end Pk
open PyProof.Rows PySem.Calls PySem.W PySem
theorem PySem.Challenge.cw_pagecode_k01_codes_made_and_refused_holds : PySem.Challenge.rw_pagecode_k01_codes_made_and_refused.Holds := by
  w_on; o_law
  refine HandSHeadRun.head_any (r := OpenLaw.row PySem.Challenge.rw_pagecode_k01_codes_made_and_refused) (q := view (OpenLaw.row PySem.Challenge.rw_pagecode_k01_codes_made_and_refused).prog [56]) (H := Pk.hkk) (ob := Pk.ob) (M := 20000) (loose := Pk.looseL) (d := HandSHeadRun.topDef (OpenLaw.row PySem.Challenge.rw_pagecode_k01_codes_made_and_refused).prog 56) (kwd := []) Pk.ob_eq
    (by kernel_rfl) (fun s => by kernel_rfl) Pk.run_top (by kernel_rfl) (by kernel_rfl) (by kernel_rfl) (by rfl) (by first | assumption | decide +kernel) (by decide +kernel) ⟨rfl, rfl, rfl, rfl, rfl, by decide +kernel⟩ ?hw ?hc
  case hw => w_witness2
  case hc =>
    refine L2.walk_ofE (l := PySem.Challenge.rw_pagecode_k01_codes_made_and_refused) (n := 63) (k := 94) (x := "_law_script") (CX := L2.CX0) rfl (by decide) (by kernel_rfl) ⟨rfl, by decide, by decide⟩ ?F (fun _ _ _ _ z => z)
    intro w mg fa h Y G hmg0
    obtain ⟨K, KX, c⟩ := Y; have hmg : mg ("law" : PySem.Str) = some (.ref fa) := by
      have e : (HandSHeadRun.topDef (OpenLaw.row PySem.Challenge.rw_pagecode_k01_codes_made_and_refused).prog 56).name = ("law" : PySem.Str) := by kernel_rfl
      rw [← e]
      exact hmg0
    obtain ⟨fd, hb, hF⟩ := Pk.facts (w := w) KX G hmg c
    exact ⟨K, fd, Pk.spLaw1 K, KX, hb, fun H a ns hl _ hS => ⟨a, ns, rfl, hS, hl, fun _ => rfl⟩, hF⟩
