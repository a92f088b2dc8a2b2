import PyProof.Rows.All
import Wide.All
import OpenK.AllK
import Wide.FinOn
import KE.KExcSuper
import HandS.Base
import HandS.Call
import HandS.List
import HandS.Ends
import HandS.Exc
import HandS.ExcInit
import HandS.ExcField
import HandS.Defaults
import HandS.HeadHook1
import HandS.HeadHook2
import HandS.Words
import HandS.WordsExc
import HandS.ForMost
import HandS.Text
import HandS.EndTab
import HandS.HeadWalk
import KE.KNestM
import HandS.Wide
import HandS.ForExc
import PySem.Challenge.RW_pagecode_k06_cases_refused
import HandS.Codes
import HandS.Style
import HandS.Head0
import HandS.Head1
import HandS.Head2
import HandS.HeadEnd
import HandS.ExcIs
import HandS.TryMany
import HandS.DictComp
import HandS.CallSlots
import HandS.StrMore
import HandS.Star
import HandS.TupAny
import HandS.WordsDict
import HandS.IsInst
import HandS.Lambda
import HandS.Dict
import HandS.Comp
import HandS.AnyAll
import HandS.OwnEq
import PyProof.InstEq
import HandS.SortKw
import KE.DataMinMax
import KE.SortData
import HandS.NoneIn
import HandS.HotCalls
import HandS.NamedTupGet
import HandS.Zip
import HandS.More
import KE.KStateDown
set_option Elab.async false
set_option linter.all false
set_option maxRecDepth 100000
set_option maxHeartbeats 4200000
/-! Sup: own exception classes over ValueError (with own classes between) whose __init__ begins with super().__init__(text) and then stores its parameters. -/
namespace PySem
namespace Sx
open PyProof.Rows PySem.HandSPX PySem.W PySem.Calls
/-- what the written part says of such a class at C, of its __init__ at f, of the cell and the code object -/
structure SupAt (prog : Program) (K : Frag) (C f cc cda : Addr) : Prop where
  code : ∃ ccl cdd vs ccs file tf, K.lookup cda = some ⟨ccl, cdd, .fields vs, ccs⟩ ∧ vs[2]? = some (.str file tf) ∧ ((prog.main.file : Str) == file) = true
  cell : ∃ cl cld csl, K.lookup cc = some ⟨cl, cld, .cell (some (.ref C)), csl⟩
  sup : ks_superIn K C C "__init__" = some (some (.builtin "ValueError.__init__"))
  ve : subIn K (.ref C) (.type "ValueError") = some true
  self : (mroIn K C (.ref C)) = (some true)
  any : nsIn K cStatics "thirdparty.any" = some none
  cls : ∃ nm q ns bs bm sn sub ab col dd j0 j1 j2 j3 j5, K.lookup C = some (excClassObj nm q C ns bs bm true sn sub ab col dd j0 j1 j2 j3 j5 "ValueError.__new__") ∧ refsVE bm = true
section
variable {prog : Program} {w : World} {A : Around} {E : Value → Shared → Prop} {s : Shared} {K : Frag} {mg mb m : Str → Option Value} {C f cc cda x t0 L : Addr}
variable {q : Str} {scope : Scope} {body : List Stmt} {fd : FuncData} {oc : Value} {od : Option Addr} {osl : Array (Option Value)} {ar : Arg}
/-- how the call super().__init__(text) is evaluated where its places are known -/
def SupEv (p0 p1 p2 p3 p4 : Pos) (j : Nat) (txt : Str) (q : Str) (scope : Scope) (pl : Sem Bool) : Prop := ∀ (L f : Addr) (cd : Value) (cc : Addr),
  eval (.Call (.Attribute (.Call (.Name "super" p0) [] [] p1) "__init__" p2) [.Constant (.str txt) j p3] [] p4) (ksEnv q scope L f cd cc) = (do
      let ov ← attributeBase (.Call (.Name "super" p0) [] [] p1) "__init__" (ksEnv q scope L f cd cc) (eval (.Call (.Name "super" p0) [] [] p1) (ksEnv q scope L f cd cc))
      standAt p2.atName
      let (fx, first) ← holding [ov] (getMethod ov "__init__" pl)
      callWith p4 fx first (backTo p4 (starEach [.Constant (.str txt) j p3] (ksEnv q scope L f cd cc))) [])
theorem first_stmt {p0 p1 p2 p3 p4 p5 : Pos} {j : Nat} {txt : Str} {Q : Flow → Shared → Prop}
    (X : K.In s.heap) (G : s.heap.Ns mainGlobals mg) (hmg : mg "super" = none) (B : s.heap.Ns builtinsNs mb) (hmb : mb "super" = some (.type "super"))
    (S : SupAt prog K C f cc cda) (hf : K.lookup f = some ⟨oc, od, .func fd, osl⟩) (hp : (fd.params.posonlyargs ++ fd.params.args).head? = some ar) (har : ar.arg = ("self" : Str))
    (hn : s.heap.Ns L m) (hv : m "self" = some (.ref x)) (hx : s.heap.get? x = some (excO C t0))
    (hks : scope.names.lookup ("super" : Str) = some .globalImplicit) (hkc : scope.names.lookup ("__class__" : Str) = some .free) (hka : scope.names.lookup ("self" : Str) = some .local) (hk : scope.kind = .function)
    (htop : (prog.main.scope.names.lookup ("super" : Str)).isSome = false) {pl : Sem Bool} (hev : SupEv p0 p1 p2 p3 p4 j txt q scope pl)
    (hq : ∀ h' tk t', (∀ b o, b ≠ x → s.heap.get? b = some o → h'.get? b = some o) → h'.get? x = some (excO C t') → Q .next { s with heap := h', toks := tk }) :
    _root_.PySem.wpAt (model prog w) A (.func body (ksEnv q scope L f (.ref cda) cc)) (exec (.Expr (.Call (.Attribute (.Call (.Name "super" p0) [] [] p1) "__init__" p2) [.Constant (.str txt) j p3] [] p4) p5) (ksEnv q scope L f (.ref cda) cc)) Q E s := by
  obtain ⟨ccl, cdd, vs, ccs, file, tf, hcode, hvs, hfile⟩ := S.code
  obtain ⟨cl, cld, csl, hcell⟩ := S.cell
  obtain ⟨nm, q', N, bs, bm, sn, sub, ab, col, dd, k0, k1, k2, k3, k5, hC, hbm⟩ := S.cls
  have hcl : clsIn K C = some { name := nm, bases := bs, mro := .ref C :: bm, ns := N, qualname := q', hasDict := true, slotNames := sn, subclasses := sub, abstract := ab, collection := col, hasDel := false } := by unfold clsIn; rw [hC] <;> rfl
  have I0 : InstAt s.heap x (excO C t0) C none := ⟨hx, rfl, rfl, trivial⟩
  have hne : x ≠ C := ks_ne X I0 hcl
  obtain ⟨hh, g, d, t, os⟩ := s
  refine ks_wpAt_Expr_any ?_ (by simp [interactive, hk])
  refine ks_wpAt_MethodCall ?_ (hev L f (.ref cda) cc)
  refine ks_wpAt_super_base (env := ksEnv q scope L f (.ref cda) cc) hks hkc (by decide) rfl (X _ _ hf) rfl hp rfl (X _ _ hcode) rfl hvs hfile htop ?_
  refine ks_loadName_global hk hks (loadGlobal_builtin (env := ksEnv q scope L f (.ref cda) cc) G hmg B hmb ⟨rfl, ?_⟩)
  refine wpAny_loadName_free hk hkc rfl ⟨_, X _ _ hcell, rfl⟩ ?_; rw [har]
  refine wpAny_loadName_local hk hka hn hv ?_
  have hD1 := X _ _ hC
  refine ks_wpAny_isType_cls hD1 rfl ⟨rfl, ?_⟩
  refine ks_wpAny_call_super hD1 rfl hx rfl (fun c e => by cases e) (looks_mroIn X S.self) (fun h1 e1 k1 => ?_)
  have X1 : K.In h1 := X.keeps k1
  have I1 : InstAt h1 x (excO C t0) C none := ⟨k1 _ _ hx, rfl, rfl, trivial⟩
  have hm := S.sup
  unfold ks_superIn at hm
  rw [hcl] at hm
  refine kxs_getMethod kxs_ValueError e1 (looks_opaque X1 S.any) (l₀ := .ref C :: bm) (fun A Q E s k q => wpAny_bind ((looks_clsIn X1 hcl) A _ E s k (wpAny_pure q))) rfl X1 hm (I1.type.andThen (looks_subIn X1 S.ve)) hne (by decide) ?_
  have he : starEach [Expr.Constant (.str txt) j p3] (ksEnv q scope L f (.ref cda) cc) = (false, eval (.Constant (.str txt) j p3) (ksEnv q scope L f (.ref cda) cc)) :: starEach [] (ksEnv q scope L f (.ref cda) cc) := by rfl
  rw [he]
  refine kxs_callWith (i := "ValueError.__init__") (x := x) (by rfl) (evalArgs_plain ?_)
  show wpAny _ _ (spliced ((false, eval (.Constant (.str txt) j p3) (ksEnv q scope L f (.ref cda) cc)) :: backTo p4 (starEach [] (ksEnv q scope L f (.ref cda) cc)))) _ _ _
  refine Calls.spliced_cons (Calls.Constant_str (Calls.spliced_nil ⟨Heap.get?_push_size _ rfl, ?_⟩))
  show wpAny _ _ (call (.ref h1.objs.size) [.str txt _]) _ _ _
  have k2 : ∀ b o, h1.get? b = some o → (h1.push (kxs_mw "ValueError.__init__" x)).get? b = some o := fun b o e => Heap.get?_push_of_some _ e
  have hx2 := k2 _ _ (k1 _ _ hx)
  have hC2 := k2 _ _ (k1 _ _ hD1)
  have hu : (h1.push (kxs_mw "ValueError.__init__" x)).get? h1.objs.size = some (kxs_mw "ValueError.__init__" x) := Heap.get?_push_size _ rfl
  refine wpAny_call (codeAny_of_tree ?_); show wpAny _ A.in1 (callAny (.ref h1.objs.size) ⟨[.str txt _], []⟩) _ _ _
  simp only [callAny]
  refine wpAny_bind (wpAny_load hu ?_); simp only [kxs_mw, show (Value.type "method-wrapper" == Value.type "method" || Value.type "method-wrapper" == Value.type "builtin_function_or_method" || Value.type "method-wrapper" == Value.type "method-wrapper") = true by decide, if_true]
  refine KFB.if_so (by decide) ?_; refine wpAny_bind (check_bound_init F.excBase_ValueError.toExcCallFacts hC2 hx2 rfl ?_)
  refine wpAny_bind (wpAny_pure (wpAny_pure ?_)); refine ⟨plainId_quiet F.excBase_ValueError.init.plain _, codeAny_builtin F.excBase_ValueError.initEntry ?_⟩
  rw [Around.under_plainId F.excBase_ValueError.init.plain _]
  refine exc_init_tree (cls := .ref C) (t0 := t0) (dv := none) (c2 := .none) (c3 := .none) (b4 := .bool false) hx2 (by rw [sizeLine_eq]; simp) (fun h3 k3 e3 _ => ?_)
  exact hq h3 _ _ (fun b o hb e => k3 b o hb (k2 b o (k1 b o e))) e3
end
end Sx
end PySem
namespace L2
open PyProof.Rows PySem.Spec PySem
/-- the scope of such an __init__ -/
structure FnScopeS (N P : List Str) (sc : Scope) : Prop where
  kind : sc.kind = .function
  co : sc.isCoroutine = false
  gen : sc.isGenerator = false
  nd : N.Nodup
  pre : N.take P.length = P
  par : ∀ x ∈ P, sc.names.lookup x = some .local
  nocell : ∀ nk ∈ sc.names, nk.2 ≠ .cell
  free : ∀ y ∈ sc.names, y.2 = .free → y.1 = ("__class__" : Str)
  ks : sc.names.lookup ("super" : Str) = some .globalImplicit
  kc : sc.names.lookup ("__class__" : Str) = some .free
abbrev envS (qual : Str) (scope : Scope) (L f : Addr) (cd : Value) (cc : Addr) : Env := PySem.W.ksEnv qual scope L f cd cc
/-- the context of its body behind the first statement -/
def cxOfS (CX : CXT) (P : Program) (w : World) (K : PySem.W.Frag) (mg : Str → Option Value) (base : Heap) (N : List Str) (qual : Str) (scope : Scope) (f : Addr) (cd : Value) (cc : Addr) (A : Around) (outer : List Env) (s : Shared) (H : Hp) (E : XK) : Cx where
  prog := P
  w := w
  K := K
  mg := mg
  base := base
  A := A.deeper (envS qual scope s.heap.objs.size f cd cc)
  N := N
  s_0 := s
  H_0 := H
  env := envS qual scope s.heap.objs.size f cd cc
  outer := outer
  stack := envS qual scope s.heap.objs.size f cd cc :: outer
  ex := []
  calm := true
  fn := fun x => !decide (x = ("__class__" : Str))
  pn := []
  xe := fun e s' => wpAny (model P w) (A.deeper (envS qual scope s.heap.objs.size f cd cc)) (leaving (envS qual scope s.heap.objs.size f cd cc) e) (fun _ s'' => CX outer H s E e s'') (fun e' s'' => CX outer H s E e' s'') s'
theorem lookup_sx {y : Str} {u : Value} : ∀ {l : List (Str × Value)}, (l.map (·.1)).Nodup → (y, u) ∈ l → l.lookup y = some u
  | [], _, h => by cases h
  | (n, v) :: r, nd, h => by
    rw [List.map_cons, List.nodup_cons] at nd; by_cases e : y = n
    · subst e
      rcases List.mem_cons.mp h with h | h
      · injection h with _ h2
        rw [h2]
        simp [List.lookup]
      · exact absurd (List.mem_map.mpr ⟨(y, u), h, rfl⟩) nd.1
    · rcases List.mem_cons.mp h with h | h
      · injection h with h1 _
        exact absurd h1 e
      · have q : (y == n) = false := by simpa using e
        simp only [List.lookup, q]
        exact lookup_sx nd.2 h
theorem fn_sup {CX : CXT} {P : Program} {w : World} {K : PySem.W.Frag} {mg : Str → Option Value} {base : Heap} {k : Nat} {f C cc cda : Addr} {name qual : Str} {params : Arguments} {rest : List Stmt} {scope : Scope} {dV kV doc pm ct oc : Value} {an od : Option Addr}
    {osl : Array (Option Value)} {N ps : List Str} {sp : Sp} {ar : Arg} {p0 p1 p2 p3 p4 p5 : Pos} {j : Nat} {txt : Str}
    (lk : K.lookup f = some ⟨oc, od, .func (PySem.W.ksFn name qual params (.Expr (.Call (.Attribute (.Call (.Name "super" p0) [] [] p1) "__init__" p2) [.Constant (.str txt) j p3] [] p4) p5 :: rest) scope dV kV doc pm an (.ref cda) ct cc), osl⟩)
    (hcd : PySem.W.codeIn K (.ref cda) qual = true) (S : FnScopeS N ps scope) (T : PySem.Sx.SupAt P K C f cc cda) (hmg : mg "super" = none)
    (hp : (params.posonlyargs ++ params.args).head? = some ar) (har : ar.arg = ("self" : Str)) (hps : ps.head? = some ("self" : Str)) (htop : (P.main.scope.names.lookup ("super" : Str)).isSome = false) {pl : Sem Bool} (hev : PySem.Sx.SupEv p0 p1 p2 p3 p4 j txt qual scope pl)
    (len : ∀ ws Hw Qw Ew, sp ws Hw Qw Ew → ws.length = ps.length)
    (hbody : ∀ (A : Around) (outer : List Env) (s : Shared) (H : Hp) (vs : List V) (Q : VK) (E : XK), Room k (A.deeper (envS qual scope s.heap.objs.size f (.ref cda) cc)) → sp vs H Q E →
      ∃ a ws t, vs = .ref a :: ws ∧ H a = some (exo a C none) ∧ PSs (cxOfS CX P w K mg base N qual scope f (.ref cda) cc A outer s H E) rest t ∧ t { nx := fun _ H' => Q .non H', rt := Q } (start N vs) H) :
    FnOk P w K mg base CX (k + 1) f (PySem.W.ksFn name qual params (.Expr (.Call (.Attribute (.Call (.Name "super" p0) [] [] p1) "__init__" p2) [.Constant (.str txt) j p3] [] p4) p5 :: rest) scope dV kV doc pm an (.ref cda) ct cc) ps sp := by
  refine ⟨len, fun A outer s H args us vs Q E hr e0 hb r hsp => ?_⟩; have hl := len _ _ _ _ hsp
  have KX : K.In s.heap := e0.mod.kin.keeps fun b o e => (e0.bs b o e).1; have lim : s.heap.NoLimit := e0.mod.nolimit.keeps fun b o e => (e0.bs b o e).1
  obtain ⟨a, ws, t, rfl, hHa, ht, hq⟩ := hbody A outer s H _ Q E (hr.deeper _) hsp
  obtain ⟨t0, hxa⟩ := exo_at e0.hok hHa
  have hps' : ∃ pr, ps = ("self" : Str) :: pr := by
    cases ps with
    | nil => cases hps
    | cons p pr => cases hps; exact ⟨pr, rfl⟩
  obtain ⟨pr, rfl⟩ := hps'
  cases r with
  | @cons _ u0 _ ur ra rw' =>
  obtain rfl : u0 = Value.ref a := ra; have hloc : ∀ y ∈ (("self" : Str) :: pr).zip (Value.ref a :: ur), scope.names.lookup y.1 = some .local := fun ⟨n, v⟩ hy => S.par n (List.of_mem_zip hy).1
  refine PySem.ks_codeAny_call_defAt (fd := PySem.W.ksFn name qual params (.Expr (.Call (.Attribute (.Call (.Name "super" p0) [] [] p1) "__init__" p2) [.Constant (.str txt) j p3] [] p4) p5 :: rest) scope dV kV doc pm an (.ref cda) ct cc)
    (body := .Expr (.Call (.Attribute (.Call (.Name "super" p0) [] [] p1) "__init__" p2) [.Constant (.str txt) j p3] [] p4) p5 :: rest) (binds := (("self" : Str) :: pr).zip (Value.ref a :: ur)) hr.depth (KX _ _ lk) rfl lim (PySem.W.codeRec_of KX hcd) rfl hb S.nocell hloc (fun h₁ hns hk₁ => ?_) S.co S.gen S.kind
  refine PySem.ks_wpAt_execs_cons ?_
  obtain ⟨mb, hB, hmb⟩ := e0.mod.blt
  have kb : ∀ b o, base.get? b = some o → h₁.get? b = some o := fun b o e => hk₁ b o ((e0.bs b o e).1)
  have ndP : (("self" : Str) :: pr).Nodup := by rw [← S.pre]; exact S.nd.sublist (List.take_sublist _ _)
  have hLa : s.heap.objs.size ≠ a := Nat.ne_of_gt (Heap.lt_size hxa)
  have hlu : (("self" : Str) :: pr).length = (Value.ref a :: ur).length := by
    have e1 := rw'.length
    have e2 : (V.ref a :: ws).length = (("self" : Str) :: pr).length := hl
    rw [← e2, List.length_cons, List.length_cons, e1]
  have hget : ∀ {i : Nat} {y : Str} {u : Value}, (("self" : Str) :: pr)[i]? = some y → (Value.ref a :: ur)[i]? = some u → ((("self" : Str) :: pr).zip (Value.ref a :: ur)).reverse.lookup y = some u := by
    intro i y u h1 h2
    have hm : (y, u) ∈ (("self" : Str) :: pr).zip (Value.ref a :: ur) := by
      refine List.mem_of_getElem? (i := i) ?_
      rw [List.getElem?_zip_eq_some]
      exact ⟨h1, h2⟩
    refine lookup_sx ?_ (List.mem_reverse.mpr hm)
    rw [List.map_reverse]
    refine (List.reverse_perm _).nodup_iff.mpr ?_
    rw [List.map_fst_zip (Nat.le_of_eq hlu)]
    exact ndP
  refine PySem.Sx.first_stmt (PySem.W.Frag.In.keeps KX hk₁) ((e0.mod.glob).keeps kb) hmg (hB.keeps kb) ((hmb _ (by decide)).trans (by first | boot_by_name | rfl | kernel_rfl)) T lk hp har hns (hget (i := 0) rfl rfl) (hk₁ _ _ hxa) S.ks S.kc (S.par _ List.mem_cons_self) S.kind htop hev (fun h' tk t' keep hx' => ?_)
  refine wpAt_of_wpAny ?_
  have ne_a : ∀ {b : Addr}, H b = none → b ≠ a := fun {b} n z => by rw [z, hHa] at n; cases n
  obtain ⟨clc, cld, csl, hcell⟩ := T.cell
  obtain ⟨oC, hbC⟩ : ∃ o, base.get? cc = some o := ⟨_, e0.mod.kin _ _ hcell⟩
  have ncc : H cc = none := (e0.bs _ _ hbC).2
  have hcc : h'.get? cc = some ⟨clc, cld, .cell (some (.ref C)), csl⟩ := keep _ _ (ne_a ncc) (hk₁ _ _ (KX _ _ hcell))
  have hLf : H s.heap.objs.size = none := e0.hok.fresh (Nat.le_refl _)
  have old : ∀ b o, b ≠ a → s.heap.get? b = some o → h'.get? b = some o := fun b o hb e => keep b o hb (hk₁ b o e)
  have hns' : h'.Ns s.heap.objs.size (fun x => ((("self" : Str) :: pr).zip (Value.ref a :: ur)).reverse.lookup x) := by
    obtain ⟨o, es, ep, ho, r⟩ := hns
    exact ⟨o, es, ep, keep _ _ hLa ho, r⟩
  have noA : ∀ b : Addr, b ∉ (cxOfS CX P w K mg base N qual scope f (.ref cda) cc A outer s H E).ex := fun b z => absurd (show b ∈ ([] : List Addr) from z) (by simp)
  have cellOnly : ∀ {y : Str} {c : Addr}, (cxOfS CX P w K mg base N qual scope f (.ref cda) cc A outer s H E).env.cells.lookup y = some c → y = ("__class__" : Str) ∧ c = cc := by
    intro y c h
    have h2 : List.lookup y [(("__class__" : Str), cc)] = some c := h
    by_cases e : y = ("__class__" : Str)
    · subst e
      simp [List.lookup] at h2
      exact ⟨rfl, h2.symm⟩
    · have q : (y == ("__class__" : Str)) = false := by simpa using e
      simp [List.lookup, q] at h2
  have hpl : (("self" : Str) :: pr).length ≤ N.length := by have := congrArg List.length S.pre; rw [List.length_take] at this; omega
  have ok : (cxOfS CX P w K mg base N qual scope f (.ref cda) cc A outer s H E).Ok := by
    refine ⟨e0.mod, S.kind, rfl, rfl, Nat.le_refl _, fun y z c h1 h2 => ?_, fun y hy => ?_, fun y c hf h => ?_, fun _ => hr.hd, Around.frames_deeper e0.frames, .inr ⟨rfl, rfl⟩, fun b z => absurd z (noA b), e0.bs, e0.bsz, fun b _ _ => noA b, fun b z => absurd z (noA b), e0.funs, e0.frf⟩
    · rw [(cellOnly h1).1, (cellOnly h2).1]
    · have hy : scope.names.lookup y = some .cell ∨ scope.names.lookup y = some .free := hy; rcases hy with hy | hy
      · exact (S.nocell _ (PySem.mem_of_lookup hy) rfl).elim
      · have e := S.free _ (PySem.mem_of_lookup hy) rfl
        refine ⟨cc, ?_⟩
        show List.lookup y [(("__class__" : Str), cc)] = some cc
        have e' : y = ("__class__" : Str) := e
        rw [e']
        simp [List.lookup]
    · have e := (cellOnly h).1
      have hf' : (!decide (y = ("__class__" : Str))) = true := hf
      rw [decide_eq_true e] at hf'
      cases hf'
  have I : Inv (cxOfS CX P w K mg base N qual scope f (.ref cda) cc A outer s H E) [] (start N (.ref a :: ws)) H ⟨h', s.gens, s.drawn, tk, s.os⟩ := by
    refine ⟨ok, rfl, e0.bare, ⟨fun b o q n _ _ => old b o (ne_a n) q, fun b o q n _ _ => ⟨o.slots, old b o (ne_a n) q⟩, fun _ _ _ n _ => n, fun b o q _ => ?_, fun _ _ q => q, fun _ _ _ q => q, fun b ps q => ⟨#[], ?_⟩⟩,
      ⟨_, hns', fun i y v h1 h2 h3 => ?_⟩, fun y c h => ?_, hLf, fun y c h => ?_, fun p hp => absurd (show p ∈ ([] : List (Addr × Obj)) from hp) (by simp), fun b u q => ?_, ?_⟩
    · by_cases hb : b = a
      · exact ⟨_, by rw [hb]; exact hx'⟩
      · exact ⟨o, old b o hb q⟩
    · have q' : H b = some (.tbl ps) := q
      show H b = some (.tbl (ps ++ #[]))
      rw [q']
      simp
    · have hi : i < (V.ref a :: ws).length := by
        unfold start at h2
        by_cases hi : i < (V.ref a :: ws).length
        · exact hi
        · rw [List.getElem?_append_right (by simpa using hi)] at h2; rw [List.getElem?_replicate] at h2
          split at h2 <;> cases h2
      have ha : (V.ref a :: ws)[i]? = some v := by
        unfold start at h2
        rw [List.getElem?_append_left (by simpa using hi), List.getElem?_map] at h2; cases e : (V.ref a :: ws)[i]? with
        | none => (rw [e] at h2; cases h2)
        | some b => rw [e] at h2; cases h2; rfl
      have rall : Vals (V.ref a :: ws) (Value.ref a :: ur) := Paired.cons (rfl : RelV (.ref a) (Value.ref a)) rw'
      obtain ⟨u, hu, rv⟩ := Vals.get rall ha
      have hpy : (("self" : Str) :: pr)[i]? = some y := by
        rw [← S.pre, List.getElem?_take_of_lt (by rw [hl] at hi; exact hi)]
        exact h1
      exact ⟨u, rv, .inl ⟨S.par y (List.mem_of_getElem? hpy), hget hpy hu⟩⟩
    · rw [(cellOnly h).2]
      exact ⟨_, _, hcc, rfl⟩
    · rw [(cellOnly h).2]
      exact ncc
    · by_cases hb : b = a
      · subst hb
        have q' : H b = some u := q
        rw [hHa] at q'
        cases q'
        exact exo_ok hx'
      · refine (e0.hok b u q).stay (fun c v hc z => old c v ?_ z) (fun _ z => z) fun _ _ z => z
        rcases hc with hc | hc
        · rw [hc]; exact hb
        · exact at_ne hHa hc exo_own
    · unfold start
      show _ = N.length
      rw [List.length_append, List.length_map, List.length_replicate]; have : (V.ref a :: ws).length = (("self" : Str) :: pr).length := hl
      omega
  refine wpAny_mono (ht.run [] _ (start N _) H _ I hq) (fun fl s' hs => ?_) fun e s' hs => hs
  have fin : ∀ {σ' : St} {H' : Hp} {v : V} {u : Value}, Inv (cxOfS CX P w K mg base N qual scope f (.ref cda) cc A outer s H E) [] σ' H' s' → RelV v u → Q v H' → CE outer P w H s Q u s' :=
    fun {_ Hz vz uz} J rz qz => ⟨vz, Hz, J.os, J.bare, J.base, J.hok, rz, qz⟩
  cases fl with
  | ret u =>
    obtain ⟨v, σ', H', J, rv, q⟩ := hs; exact fin J rv q
  | next =>
    obtain ⟨σ', H', J, q⟩ := hs; exact fin (v := V.non) (u := Value.none) J rfl q
  | brk =>
    obtain ⟨_, _, _, q⟩ := hs
    exact False.elim q
  | cont =>
    obtain ⟨_, _, _, q⟩ := hs
    exact False.elim q
end L2
namespace L2
open PyProof.Rows PySem.Spec PySem
/-! ### the end of C() without own fields -/
theorem mk_endN {X : Cx} {pins : List (Addr × Obj)} {σ : St} {H1 H2 : Hp} {Q : XK} {hp hp2 h2 : Heap} {g1 g2 : Array GenState} {d1 d2 : Drawn} {t1 t2 : Nat} {os1 os2 : OsState} {a C : Addr} (T : Raises X (.ref C)) (I1 : Inv X pins σ H1 ⟨hp, g1, d1, t1, os1⟩)
    (ha : hp.objs.size ≤ a) (k : ∀ x u, hp.get? x = some u → hp2.get? x = some u) (un : Un (frs X.stack) [] (upd H1 a (exo a C none)) H2 hp2 h2) (hok : HOk X.prog X.w H2 h2) (ho : os2 = os1) (hb : AllBare g2)
    (ea : H2 a = some (exo a C none)) (q : Q (.ref C) none (del H2 a)) : MkP X pins σ Q (.ref a) ⟨h2, g2, d2, t2, os2⟩ := by
  obtain ⟨t0, hoe⟩ := exo_at hok ea; have hn : H1 a = none := I1.hok.fresh ha
  obtain ⟨G, g1', g2'⟩ := restrict h2 fun b => decide (b ≠ a); have gk : ∀ b, b ≠ a → G.get? b = h2.get? b := fun b hb => g1' b (decide_eq_true hb)
  have ge : G.get? a = none := g2' a (by simp); have nha : ∀ {b : Addr} {o : Obj}, hp.get? b = some o → b ≠ a := fun {b o} z => Nat.ne_of_lt (Nat.lt_of_lt_of_le (Heap.lt_size z) ha); have up : ∀ {b : Addr}, b ≠ a → H1 b = none → upd H1 a (exo a C none) b = none := fun {b} hb n => by rw [upd_ne hb]; exact n
  have U : Un (frs X.stack) [] H1 (del H2 a) hp G := {
    keep := fun b o z n (hf) (hx) => by
      rw [gk b (nha z)]; exact un.keep b o (k b o z) (up (nha z) n) hf hx
    slot := fun b o z n (hf) (hx) => by
      rw [gk b (nha z)]; exact un.slot b o (k b o z) (up (nha z) n) hf hx
    free := fun b o z n hx => by
      rw [del_ne (nha z)]; exact un.free b o (k b o z) (up (nha z) n) hx
    there := fun b o z hx => by
      rw [gk b (nha z)]; exact un.there b o (k b o z) hx
    tups := fun b xs z => by
      rw [del_ne (ne_of_none z hn)]; exact un.tups b xs (by rw [upd_ne (ne_of_none z hn)]; exact z)
    frzs := fun b o v z => by
      rw [del_ne (ne_of_none z hn)]; exact un.frzs b o v (by rw [upd_ne (ne_of_none z hn)]; exact z)
    tbls := fun b ps z => by
      rw [del_ne (ne_of_none z hn)]; exact un.tbls b ps (by rw [upd_ne (ne_of_none z hn)]; exact z) }
  have hok3 : HOk X.prog X.w (del H2 a) G := fun b o z => by
    have hba : ¬ b = a := fun e => by
      rw [e, del_same] at z
      cases z
    rw [del_ne hba] at z
    have noa : ∀ {c : Addr}, H2 c = some (.own b) → c ≠ a := fun {c} hc => at_ne ea hc exo_own; exact (hok b o z).stay (fun c v hc y => by
        have hca : c ≠ a := by
          rcases hc with hc | hc
          · rw [hc]
            exact hba
          · exact noa hc
        rw [gk c hca]
        exact y)
      (fun c hc => by rw [del_ne (noa hc)]; exact hc) (fun c xs hc => by rw [del_ne (at_ne ea hc exo_tup)]; exact hc)
  have J : Inv X pins σ (del H2 a) ⟨G, g2, d2, t2, os2⟩ := I1.call' (ch := []) ho U hok3 hb (fun b z => absurd z (by simp))
  refine ⟨a, _, _, ⟨G, g2, d2, t2, os2⟩, _, .ref C, none, rfl, J, fun b o z => ?_, ge, hoe, ⟨rfl, rfl⟩, rfl, rfl, del_same, rfl, hb, T, q⟩
  by_cases hba : b = a
  · rw [hba, ge] at z
    cases z
  · exact ((gk b hba).symm).trans z
/-! ### promises of the __init__s -/
def spSup0 (C : Addr) : Sp := fun vs H Q _ => ∃ a, vs = [.ref a] ∧ H a = some (exo a C none) ∧ Q .non H
def spSup1 (C : Addr) (f : Str) : Sp := fun vs H Q _ => ∃ a v, vs = [.ref a, v] ∧ H a = some (exo a C none) ∧ ∀ d, H d = none → d ≠ a → Q .non (upd (upd H d (exd d [(f, v)])) a (exo a C (some d)))
def spSup3 (C : Addr) (f g h : Str) : Sp := fun vs H Q _ => ∃ a u v w, vs = [.ref a, u, v, w] ∧ H a = some (exo a C none) ∧
  ∀ d, H d = none → d ≠ a → Q .non (upd (upd (upd (upd H d (exd d [(f, u)])) a (exo a C (some d))) d (exd d [(g, v), (f, u)])) d (exd d [(h, w), (g, v), (f, u)]))
section
variable {X : Cx} {e : Expr} {es : List Expr} {te : TE} {ta : TA} {p pos : Pos}
theorem pe_mon (h : PE X e te) : PE X e (fun σ H Q => ∃ Q0 : VK, te σ H Q0 ∧ ∀ x H1, Q0 x H1 → Q x H1) :=
  ⟨fun pins s σ H Q I ⟨Q0, h0, hi⟩ => thn (h.run pins s σ H Q0 I h0) fun u s1 ⟨x, H1, I1, r1, q1⟩ => ⟨x, H1, I1, r1, hi x H1 q1⟩⟩
theorem pa_mon (h : PA X es ta) : PA X es (fun σ H Q => ∃ Q0 : List V → Hp → Prop, ta σ H Q0 ∧ ∀ x H1, Q0 x H1 → Q x H1) :=
  ⟨fun pos pins s σ H Q I ⟨Q0, h0, hi⟩ => thn (h.run pos pins s σ H Q0 I h0) fun u s1 ⟨x, H1, I1, r1, q1⟩ => ⟨x, H1, I1, r1, hi x H1 q1⟩⟩
theorem pmk_imp {t t' : St → Hp → XK → Prop} (h : PMk X e t) (hi : ∀ σ H Q, t' σ H Q → t σ H Q) : PMk X e t' := fun pins s σ H Q I q => h pins s σ H Q I (hi _ _ _ q)
/-- the facts of one error class of the program -/
structure SupC (K : PySem.W.Frag) (mg : Str → Option Value) (x : Str) (C fI : Addr) : Prop where
  oex : OexC K C
  iC : PySem.W.findIn K (.ref C) "__init__" = some (some (.ref fI))
  tI : PySem.W.typeIn K (.ref fI) = some (.type "function")
  gC : mg x = some (.ref C)
theorem del_upd2 {H : Hp} {a d : Addr} {o1 o2 : HO} {fs : List (Str × V)} (ha : H a = none) (hd : d ≠ a) : upd (del (upd (upd H d o1) a o2) a) d (.xd fs) = upd H d (.xd fs) := by
  funext b
  by_cases h1 : b = d
  · rw [h1, upd_same, upd_same]
  · rw [upd_ne h1, upd_ne h1]
    by_cases h2 : b = a
    · rw [h2, del_same, ha]
    · rw [del_ne h2, upd_ne h2, upd_ne h1]
/-- C(e) -/
theorem pmk_sup1 {CX : CXT} {x : Str} {C fI : Addr} {k : Nat} {fd : FuncData} {f pn : Str} (T : SupC X.K X.mg x C fI) (F1 : FnOk X.prog X.w X.K X.mg X.base CX k fI fd ["self", pn] (spSup1 C f)) (hr : Room (k + 1) X.A)
    (hb : Binds X.K fd ["self", pn] []) (hx : Passes CX X (fun _ _ _ => False)) (hg : Gl X x) (he : PE X e te) (hdb : (x == ("__debug__" : Str)) = false := by decide)
    (hs : starEach [e] X.env = (false, eval e X.env) :: starEach [] X.env := by rfl) (hpl : (backTo pos (starEach [] X.env)).any (·.1) = false := by rfl) :
    PMk X (.Call (.Name x p) [e] [] pos) (fun σ H Q => te σ H fun v H1 => ∀ d, H1 d = none → Q (.ref C) (some d) (upd H1 d (.xd [(f, v)]))) := by
  refine pmk_imp (pmk_oex T.oex T.iC T.tI F1 hr hb .nil hx hg T.gC (pa_cons (pe_mon he) pa_nil hs) hdb hs hpl) fun σ H Q q => ?_
  refine ⟨_, q, fun v H1 q1 => ⟨by simp, fun a ha => ?_⟩⟩
  refine ⟨a, v, rfl, upd_same, fun d hd hda => ⟨rfl, d, [(f, v)], upd_same, by rw [upd_ne hda]; exact upd_same, ?_, ?_⟩⟩
  · rw [upd_ne hda] at hd
    exact hd
  · have hd' : H1 d = none := by rw [upd_ne hda] at hd; exact hd
    have eq : upd (del (upd (upd (upd H1 a (exo a C none)) d (exd d [(f, v)])) a (exo a C (some d))) a) d (.xd [(f, v)]) = upd H1 d (.xd [(f, v)]) := by
      funext b
      by_cases h1 : b = d
      · rw [h1, upd_same, upd_same]
      · rw [upd_ne h1, upd_ne h1]
        by_cases h2 : b = a
        · rw [h2, del_same, ha]
        · rw [del_ne h2, upd_ne h2, upd_ne h1, upd_ne h2]
    rw [eq]
    exact q1 d hd'
/-- C(e1, e2, e3) -/
theorem pmk_sup3 {CX : CXT} {x : Str} {C fI : Addr} {k : Nat} {fd : FuncData} {f g h p1 p2 p3 : Str} {e2 e3 : Expr} {t2 t3 : TE} (T : SupC X.K X.mg x C fI) (F1 : FnOk X.prog X.w X.K X.mg X.base CX k fI fd ["self", p1, p2, p3] (spSup3 C f g h)) (hr : Room (k + 1) X.A)
    (hb : Binds X.K fd ["self", p1, p2, p3] []) (hx : Passes CX X (fun _ _ _ => False)) (hg : Gl X x) (he : PE X e te) (he2 : PE X e2 t2) (he3 : PE X e3 t3) (hdb : (x == ("__debug__" : Str)) = false := by decide)
    (hs : starEach [e, e2, e3] X.env = (false, eval e X.env) :: starEach [e2, e3] X.env := by rfl) (hpl : (backTo pos (starEach [e2, e3] X.env)).any (·.1) = false := by rfl)
    (hs2 : starEach [e2, e3] X.env = (false, eval e2 X.env) :: starEach [e3] X.env := by rfl) (hs3 : starEach [e3] X.env = (false, eval e3 X.env) :: starEach [] X.env := by rfl) :
    PMk X (.Call (.Name x p) [e, e2, e3] [] pos) (fun σ H Q => te σ H fun u H1 => t2 σ H1 fun v H2 => t3 σ H2 fun w H3 => ∀ d, H3 d = none → Q (.ref C) (some d) (upd H3 d (.xd [(h, w), (g, v), (f, u)]))) := by
  refine pmk_imp (pmk_oex T.oex T.iC T.tI F1 hr hb .nil hx hg T.gC (pa_cons (pe_mon he) (pa_cons (pe_mon he2) (pa_cons (pe_mon he3) pa_nil hs3) hs2) hs) hdb hs hpl) fun σ H Q q => ?_
  refine ⟨_, q, fun u H1 q1 => ⟨_, q1, fun v H2 q2 => ⟨_, q2, fun w H3 q3 => ⟨by simp, fun a ha => ?_⟩⟩⟩⟩
  refine ⟨a, u, v, w, rfl, upd_same, fun d hd hda => ⟨rfl, d, [(h, w), (g, v), (f, u)], ?_, upd_same, ?_, ?_⟩⟩
  · rw [upd_ne (Ne.symm hda), upd_ne (Ne.symm hda)]
    exact upd_same
  · rw [upd_ne hda] at hd
    exact hd
  · have hd' : H3 d = none := by rw [upd_ne hda] at hd; exact hd
    have eq : upd (del (upd (upd (upd (upd (upd H3 a (exo a C none)) d (exd d [(f, u)])) a (exo a C (some d))) d (exd d [(g, v), (f, u)])) d (exd d [(h, w), (g, v), (f, u)])) a) d (.xd [(h, w), (g, v), (f, u)]) = upd H3 d (.xd [(h, w), (g, v), (f, u)]) := by
      funext b
      by_cases h1 : b = d
      · rw [h1, upd_same, upd_same]
      · rw [upd_ne h1, upd_ne h1]
        by_cases h2 : b = a
        · rw [h2, del_same, ha]
        · rw [del_ne h2, upd_ne h1, upd_ne h1, upd_ne h2, upd_ne h1, upd_ne h2]
    rw [eq]
    exact q3 d hd'
/-- C() -/
theorem pmk_sup0 {CX : CXT} {x : Str} {C fI : Addr} {k : Nat} {fd : FuncData} (T : SupC X.K X.mg x C fI) (F1 : FnOk X.prog X.w X.K X.mg X.base CX k fI fd ["self"] (spSup0 C)) (hr : Room (k + 1) X.A)
    (hb : Binds X.K fd ["self"] []) (hx : Passes CX X (fun _ _ _ => False)) (hg : Gl X x) (hdb : (x == ("__debug__" : Str)) = false := by decide) :
    PMk X (.Call (.Name x p) [] [] pos) (fun σ H Q => Q (.ref C) none H) := by
  intro pins s σ H Q I h
  obtain ⟨nm, q, N, bs, bm, sn, sub, ab, col, dd, k0, k1, k2, k3, k5, hC, hbm⟩ := T.oex.cls
  refine wpAny_Call_Name_kw (ld_glob I hg T.gC ?_ hdb)
  refine PySem.W.callWith_K0 I.kIn T.oex.kC ?_
  obtain ⟨hp, g, dr, tk, os⟩ := s; have hsz : hp.objs.size ≤ hp.objs.size + 1 := Nat.le_succ _
  have hn : H (hp.objs.size + 1) = none := I.hok.fresh hsz
  have kk : ∀ b o, hp.get? b = some o → ((hp.push (PySem.W.kdv_tup [])).push (PySem.HandSPX.excO C hp.objs.size)).get? b = some o := fun b o e => Heap.get?_push_of_some _ (Heap.get?_push_of_some _ e)
  have hget : ((hp.push (PySem.W.kdv_tup [])).push (PySem.HandSPX.excO C hp.objs.size)).get? (hp.objs.size + 1) = some (PySem.HandSPX.excO C hp.objs.size) := by heap_get
  have I2 : Inv X pins σ (upd H (hp.objs.size + 1) (exo (hp.objs.size + 1) C none)) ⟨(hp.push (PySem.W.kdv_tup [])).push (PySem.HandSPX.excO C hp.objs.size), g, dr, tk, os⟩ :=
    I.laid (t' := tk) (a := hp.objs.size + 1) (o := exo (hp.objs.size + 1) C none) (h' := (hp.push (PySem.W.kdv_tup [])).push (PySem.HandSPX.excO C hp.objs.size)) kk hsz (exo_ok hget)
  have r2 : Vals [V.ref (hp.objs.size + 1)] [Value.ref (hp.objs.size + 1)] := .cons rfl .nil
  refine wpAny_call (PySem.HandSPX.call_own F.excBase_ValueError (fun Y => PySem.HandSPX.refsVE_contains Y bm hbm) (I.kIn _ _ hC) (PySem.W.looks_findIn I.kIn T.iC) (fun self => PySem.W.bind_fn I.kIn self T.tI) (by rw [sizeLine_eq]; simp)
    (codeAny_mono (F1.run _ X.stack _ _ ⟨[Value.ref (hp.objs.size + 1)], []⟩ [Value.ref (hp.objs.size + 1)] _ (fun v H2 => v = .non ∧ H2 (hp.objs.size + 1) = some (exo (hp.objs.size + 1) C none) ∧ Q (.ref C) none (del H2 (hp.objs.size + 1))) (fun _ _ _ => False) (hr.make C [] []) (I2.env0.make C [] []) (hb _ [Value.ref (hp.objs.size + 1)] I2.kIn rfl) r2
      ⟨hp.objs.size + 1, rfl, upd_same, rfl, upd_same, ?_⟩) fun r s' hq' => ?_))
  · have eq : del (upd H (hp.objs.size + 1) (exo (hp.objs.size + 1) C none)) (hp.objs.size + 1) = H := by
      funext b
      by_cases h1 : b = hp.objs.size + 1
      · rw [h1, del_same, hn]
      · rw [del_ne h1, upd_ne h1]
    rw [eq]
    exact h
  · cases r with
    | error er => exact (hx pins σ _ _ er s' I2 hq')
    | ok fl =>
      cases fl with
      | ret u =>
        obtain ⟨v, H2, os2, bare2, un2, hok2, rv, ev, ea, q2⟩ := hq'
        subst ev
        obtain ⟨h2, g2, d2, t2, os'⟩ := s'; exact ⟨rv, mk_endN (raises_own T.oex.exC T.oex.tyC) I hsz kk un2 hok2 os2 bare2 ea q2⟩
      | next => exact hq'.elim
      | brk => exact False.elim hq'
      | cont => exact hq'.elim
end
end L2
namespace Hx
open PySem PySem.Spec PyProof.Rows L2 He
/-! ### the head's facts: defs with the names of their closures, facts by names, facts of one's own -/
abbrev FnE : Type := Option (Str × Str × Arguments × FuncBody × Scope × Addr × List Str × Addr)
def fnE (K : PySem.W.Frag) (p : Str × Option Str) : FnE := match K.lookup (fAd K p) with
  | some ⟨_, _, .func fd, _⟩ => some (fd.name, fd.qualname, fd.params, fd.body, fd.scope, fd.globals, fd.closure.map (·.1), fd.builtins)
  | _ => none
structure DefE where
  at_ : Str × Option Str
  name : Str
  qual : Str
  st : Stmt
  cl : List Str := []
  dfl : List Dv := []
def DefE.val (d : DefE) : FnE := some (d.name, d.qual, defArgs d.st, .stmts (defBody d.st), defScope d.st, mainGlobals, d.cl, builtinsNs)
def DefE.dvs (K : PySem.W.Frag) (d : DefE) : List V := d.dfl.map (Dv.v K)
def DefE.ok (K : PySem.W.Frag) (d : DefE) : Bool := PySem.W.keepIn K (.ref (fAd K d.at_)) && (match K.lookup (fAd K d.at_) with
  | some ⟨_, _, .func fd, _⟩ => PySem.W.codeIn K fd.code d.qual && dflB K fd.defaults (d.dvs K)
  | _ => false)
/-- a def without closure -/
theorem DefE.funD {K : PySem.W.Frag} {d : DefE} (e : fnE K d.at_ = d.val) (c : d.ok K = true) (hc : d.cl = []) : ∃ fd, FunD K d.name d.qual (defArgs d.st) (defBody d.st) (defScope d.st) (d.dvs K) [] (fAd K d.at_) fd := by
  obtain ⟨kp, c2⟩ := ba c
  unfold fnE at e; cases q : K.lookup (fAd K d.at_) with
  | none =>
    rw [q] at c2
    cases c2
  | some o =>
    obtain ⟨oc, od, dt, osl⟩ := o
    rw [q] at c2 e
    cases dt with
    | func fd =>
      obtain ⟨n1, n2, n3, n4, n5, n6, n7, n8, n9, n10, n11, n12, n13, n14, n15⟩ := fd; have e2 : (some (n1, n2, n3, n4, n5, n6, n7.map (·.1), n15) : FnE) = some (d.name, d.qual, defArgs d.st, .stmts (defBody d.st), defScope d.st, mainGlobals, d.cl, builtinsNs) := e
      simp only [Option.some.injEq, Prod.mk.injEq] at e2; obtain ⟨h1, h2, h3, h4, h5, h6, h7, h8⟩ := e2
      rw [hc] at h7
      have h7' : n7 = [] := List.map_eq_nil_iff.mp h7
      subst h1 h2 h3 h4 h5 h6 h7' h8
      have c3 : (PySem.W.codeIn K n13 d.qual && dflB K n8 (d.dvs K)) = true := c2
      obtain ⟨k1, k3⟩ := ba c3
      exact ⟨_, ⟨oc, od, n8, n9, n10, n11, n12, n13, n14, osl, rfl, q, k1, dflB_ok k3, .inl rfl⟩, kp⟩
    | _ => cases c2
/-- an __init__ that says super() -/
theorem DefE.supD {K : PySem.W.Frag} {d : DefE} (e : fnE K d.at_ = d.val) (c : d.ok K = true) (hc : d.cl = [("__class__" : Str)]) :
    ∃ oc od osl dV kV doc pm an cdv ct cc, K.lookup (fAd K d.at_) = some ⟨oc, od, .func (PySem.W.ksFn d.name d.qual (defArgs d.st) (defBody d.st) (defScope d.st) dV kV doc pm an cdv ct cc), osl⟩ ∧ PySem.W.codeIn K cdv d.qual = true ∧ PySem.W.keepIn K (.ref (fAd K d.at_)) = true ∧ dflB K dV (d.dvs K) = true := by
  obtain ⟨kp, c2⟩ := ba c
  unfold fnE at e; cases q : K.lookup (fAd K d.at_) with
  | none =>
    rw [q] at c2
    cases c2
  | some o =>
    obtain ⟨oc, od, dt, osl⟩ := o
    rw [q] at c2 e
    cases dt with
    | func fd =>
      obtain ⟨n1, n2, n3, n4, n5, n6, n7, n8, n9, n10, n11, n12, n13, n14, n15⟩ := fd; have e2 : (some (n1, n2, n3, n4, n5, n6, n7.map (·.1), n15) : FnE) = some (d.name, d.qual, defArgs d.st, .stmts (defBody d.st), defScope d.st, mainGlobals, d.cl, builtinsNs) := e
      simp only [Option.some.injEq, Prod.mk.injEq] at e2; obtain ⟨h1, h2, h3, h4, h5, h6, h7, h8⟩ := e2
      rw [hc] at h7
      have h7' : ∃ cc, n7 = [(("__class__" : Str), cc)] := by
        cases n7 with
        | nil => cases h7
        | cons p r =>
          obtain ⟨x, cc⟩ := p
          cases r with
          | nil =>
            have h9 : [x] = [("__class__" : Str)] := h7
            injection h9 with h9 _
            exact ⟨cc, by rw [h9]⟩
          | cons _ _ => cases h7
      obtain ⟨cc, h7'⟩ := h7'
      subst h1 h2 h3 h4 h5 h6 h7' h8
      have c3 : (PySem.W.codeIn K n13 d.qual && dflB K n8 (d.dvs K)) = true := c2
      exact ⟨oc, od, osl, n8, n9, n10, n11, n12, n13, n14, cc, rfl, (ba c3).1, kp, (ba c3).2⟩
    | _ => cases c2
/-! ### the error classes -/
def clsB (K : PySem.W.Frag) (C : Addr) : Bool := match K.lookup C with
  | some ⟨.type t, _, .cls cd, sl⟩ => decide (t = "type") && ((match cd.mro with
    | .ref C' :: bm => decide (C' = C) && PySem.HandSPX.refsVE bm
    | _ => false) && (cd.hasDict && (!cd.hasDel && (match sl.toList with
    | [_, _, _, _, some (.builtin n), _] => decide (n = "ValueError.__new__")
    | _ => false))))
  | _ => false
theorem clsB_ok {K : PySem.W.Frag} {C : Addr} (h : clsB K C = true) : ∃ nm q N bs bm sn sub ab col dd k0 k1 k2 k3 k5, K.lookup C = some (excClassObj nm q C N bs bm true sn sub ab col dd k0 k1 k2 k3 k5 "ValueError.__new__") ∧ PySem.HandSPX.refsVE bm = true := by
  unfold clsB at h
  split at h
  · rename_i t dd cd sl e
    obtain ⟨h1, h⟩ := ba h
    obtain ⟨h2, h⟩ := ba h
    obtain ⟨h3, h⟩ := ba h
    obtain ⟨h4, h5⟩ := ba h
    obtain ⟨nm, bs, mro, ns, qn, hd, sn, sub, ab, col, del⟩ := cd; dsimp only at h2 h3 h4
    cases mro with
    | nil => cases h2
    | cons c0 bm =>
      cases c0 with
      | ref C' =>
        obtain ⟨h6, h7⟩ := ba (show (decide (C' = C) && PySem.HandSPX.refsVE bm) = true from h2)
        have e1 := of_decide_eq_true h6
        have e2 := of_decide_eq_true h1
        subst e1 e2
        have e3 : del = false := by simpa using h4
        subst h3 e3
        split at h5
        · rename_i k0 k1 k2 k3 n k5 e4
          have e5 := of_decide_eq_true h5; subst e5
          have e6 : sl = #[k0, k1, k2, k3, some (.builtin "ValueError.__new__"), k5] := by
            have : sl.toList.toArray = [k0, k1, k2, k3, some (.builtin "ValueError.__new__"), k5].toArray := by rw [e4]
            simpa using this
          subst e6
          exact ⟨nm, qn, ns, bs, bm, sn, sub, ab, col, dd, k0, k1, k2, k3, k5, e, h7⟩
        · cases h5
      | _ => cases h2
  · cases h
def cellB (K : PySem.W.Frag) (f C : Addr) : Bool := match K.lookup f with
  | some ⟨_, _, .func fd, _⟩ => (match fd.closure with
    | [(_, cc)] => (match K.lookup cc with
      | some ⟨_, _, .cell (some (.ref D)), _⟩ => decide (D = C)
      | _ => false)
    | _ => false)
  | _ => false
def fileB (P : Program) (K : PySem.W.Frag) (f : Addr) : Bool := match K.lookup f with
  | some ⟨_, _, .func fdt, _⟩ => (match fdt.code with
    | .ref cde => (match K.lookup cde with
      | some ⟨_, _, .fields vs, _⟩ => (match (vs[2]? : Option Value) with
        | some (Value.str file _) => ((P.main.file : Str) == file)
        | _ => false)
      | _ => false)
    | _ => false)
  | _ => false
/-- all that the written part must say of the error class x (its own fields: fs) -/
def supB (P : Program) (K : PySem.W.Frag) (x : Str) (fs : List Str) : Bool :=
  eqO (PySem.W.nsIn K mainGlobals x) (some (some (.ref (ga K x)))) && (clsB K (ga K x) && (cellB K (ma K (ga K x) "__init__") (ga K x) && (fileB P K (ma K (ga K x) "__init__") && (eqO (PySem.W.ks_superIn K (ga K x) (ga K x) "__init__") (some (some (.builtin "ValueError.__init__"))) &&
  (decide (PySem.W.subIn K (.ref (ga K x)) (.type "ValueError") = some true) && (decide (PySem.W.mroIn K (ga K x) (.ref (ga K x)) = some true) && (eqO (PySem.W.nsIn K PySem.cStatics "thirdparty.any") (some none) &&
  (eqO (PySem.W.findIn K (.ref (ga K x)) "__setattr__") (some (some (.builtin "object.__setattr__"))) && (decide (PySem.W.subIn K (.ref (ga K x)) (.type "BaseException") = some true) && (decide (PySem.W.typeIn K (.ref (ga K x)) = some (.type "type")) && (PySem.W.keepIn K (.ref (ga K x)) &&
  (eqO (PySem.W.findIn K (.ref (ga K x)) "__init__") (some (some (.ref (ma K (ga K x) "__init__")))) && (decide (PySem.W.typeIn K (.ref (ma K (ga K x) "__init__")) = some (.type "function")) && (xfB K (ga K x) && (fs.all fun f => eqO (PySem.W.findIn K (.ref (ga K x)) f) (some none))))))))))))))))
structure SupF (P : Program) (K : PySem.W.Frag) (x : Str) (fs : List Str) : Prop where
  glo : PySem.W.nsIn K mainGlobals x = some (some (.ref (ga K x)))
  cls : ∃ nm q N bs bm sn sub ab col dd k0 k1 k2 k3 k5, K.lookup (ga K x) = some (excClassObj nm q (ga K x) N bs bm true sn sub ab col dd k0 k1 k2 k3 k5 "ValueError.__new__") ∧ PySem.HandSPX.refsVE bm = true
  cell : cellB K (ma K (ga K x) "__init__") (ga K x) = true
  file : fileB P K (ma K (ga K x) "__init__") = true
  sup : PySem.W.ks_superIn K (ga K x) (ga K x) "__init__" = some (some (.builtin "ValueError.__init__"))
  ve : PySem.W.subIn K (.ref (ga K x)) (.type "ValueError") = some true
  self : PySem.W.mroIn K (ga K x) (.ref (ga K x)) = some true
  any : PySem.W.nsIn K PySem.cStatics "thirdparty.any" = some none
  sa : PySem.W.findIn K (.ref (ga K x)) "__setattr__" = some (some (.builtin "object.__setattr__"))
  exC : PySem.W.subIn K (.ref (ga K x)) (.type "BaseException") = some true
  tyC : PySem.W.typeIn K (.ref (ga K x)) = some (.type "type")
  kC : PySem.W.keepIn K (.ref (ga K x)) = true
  iC : PySem.W.findIn K (.ref (ga K x)) "__init__" = some (some (.ref (ma K (ga K x) "__init__")))
  tI : PySem.W.typeIn K (.ref (ma K (ga K x) "__init__")) = some (.type "function")
  xf : XfC K (ga K x)
  no : ∀ f ∈ fs, PySem.W.findIn K (.ref (ga K x)) f = some none
theorem supB_ok {P : Program} {K : PySem.W.Frag} {x : Str} {fs : List Str} (h : supB P K x fs = true) : SupF P K x fs := by
  unfold supB at h
  obtain ⟨h1, h⟩ := ba h
  obtain ⟨h2, h⟩ := ba h
  obtain ⟨h3, h⟩ := ba h
  obtain ⟨h4, h⟩ := ba h
  obtain ⟨h5, h⟩ := ba h
  obtain ⟨h6, h⟩ := ba h
  obtain ⟨h7, h⟩ := ba h
  obtain ⟨h8, h⟩ := ba h
  obtain ⟨h9, h⟩ := ba h
  obtain ⟨h10, h⟩ := ba h
  obtain ⟨h11, h⟩ := ba h
  obtain ⟨h12, h⟩ := ba h
  obtain ⟨h13, h⟩ := ba h
  obtain ⟨h14, h⟩ := ba h
  obtain ⟨h15, h16⟩ := ba h
  exact ⟨eqO_ok h1, clsB_ok h2, h3, h4, eqO_ok h5, of_decide_eq_true h6, of_decide_eq_true h7, eqO_ok h8, eqO_ok h9, of_decide_eq_true h10, of_decide_eq_true h11, h12, eqO_ok h13, of_decide_eq_true h14, xfB_ok h15, fun f hf => eqO_ok (List.all_eq_true.mp h16 f hf)⟩
theorem SupF.oex {P : Program} {K : PySem.W.Frag} {x : Str} {fs : List Str} (s : SupF P K x fs) : OexC K (ga K x) := ⟨s.cls, s.sa, s.exC, s.tyC, s.kC⟩
theorem SupF.supC {P : Program} {K : PySem.W.Frag} {h : Heap} {mg : Str → Option Value} {x : Str} {fs : List Str} (s : SupF P K x fs) (X : K.In h) (G : h.Ns mainGlobals mg) : SupC K mg x (ga K x) (ma K (ga K x) "__init__") :=
  ⟨s.oex, s.iC, s.tI, PySem.W.mg_of X G s.glo⟩
theorem SupF.at_ {P : Program} {K : PySem.W.Frag} {x : Str} {fs : List Str} (s : SupF P K x fs) {oc od osl} {name qual : Str} {params : Arguments} {body : List Stmt} {scope : Scope} {dV kV doc pm ct : Value} {an : Option Addr} {cc cda : Addr}
    (lk : K.lookup (ma K (ga K x) "__init__") = some ⟨oc, od, .func (PySem.W.ksFn name qual params body scope dV kV doc pm an (.ref cda) ct cc), osl⟩) : PySem.Sx.SupAt P K (ga K x) (ma K (ga K x) "__init__") cc cda := by
  have hc := s.cell
  have hf := s.file
  unfold cellB at hc
  unfold fileB at hf
  rw [lk] at hc hf
  dsimp only at hc hf
  refine ⟨?_, ?_, s.sup, s.ve, s.self, s.any, s.cls⟩
  · split at hf
    · rename_i a b vs c e
      split at hf
      · rename_i file tf e2
        exact ⟨_, _, _, _, _, _, e, e2, hf⟩
      · cases hf
    · cases hf
  · split at hc
    · rename_i a b D c e
      have e1 := of_decide_eq_true hc
      subst e1
      exact ⟨_, _, _, e⟩
    · cases hc
/-! ### the Hook -/
def asX (g : Addr → Option Obj) : Nat → List Addr
  | 0 => [mainGlobals, PySem.cStatics]
  | n + 1 => growD g (asX g n)
abbrev AlX : Type := Bool × List FnE
def obsX (fa : List Fa) (fb : List (PySem.W.Frag → Bool)) (fn : List DefE) (K : PySem.W.Frag) : AlX := ((fa.all fun f => f.ok K) && ((fb.all fun f => f K) && fn.all fun d => d.ok K), fn.map fun d => fnE K d.at_)
def valX (fn : List DefE) : AlX := (true, fn.map DefE.val)
def SaysX (fa : List Fa) (fb : List (PySem.W.Frag → Bool)) (fn : List DefE) (K : PySem.W.Frag) : Prop := obsX fa fb fn K = valX fn
def obsXG (n : Nat) (fa : List Fa) (fb : List (PySem.W.Frag → Bool)) (fn : List DefE) (g : Addr → Option Obj) : AlX := obsX fa fb fn (frG g (asX g n))
def hookX (n : Nat) (fa : List Fa) (fb : List (PySem.W.Frag → Bool)) (fn : List DefE) : PySem.W.Hook where
  α := AlX
  obs := fun s => obsXG n fa fb fn s.heap.get?
  val := fun _ => valX fn
  says := fun _ h => ∃ K : PySem.W.Frag, K.In h ∧ SaysX fa fb fn K
  of := fun _ _ eq => ⟨_, frG_in, eq⟩
  keeps := fun _ _ _ ⟨K, inK, say⟩ kp => ⟨K, PySem.W.Frag.In.keeps inK kp, say⟩
theorem obsXG_eq {n : Nat} {fa : List Fa} {fb : List (PySem.W.Frag → Bool)} {fn : List DefE} {g : Addr → Option Obj} {s : Shared} (h : ∀ a, g a = s.heap.get? a) : obsXG n fa fb fn g = (hookX n fa fb fn).obs s := by
  have e : g = s.heap.get? := funext h; rw [e] <;> rfl
section
variable {fa : List Fa} {fb : List (PySem.W.Frag → Bool)} {fn : List DefE} {K : PySem.W.Frag}
theorem SaysX.fact (c : SaysX fa fb fn K) (i : Nat) {f : Fa} (h : fa[i]? = some f := by rfl) : f.ok K = true := by
  have c1 := (ba (show ((fa.all fun f => f.ok K) && ((fb.all fun f => f K) && fn.all fun d => d.ok K)) = true from congrArg (fun z : AlX => z.1) c)).1; exact List.all_eq_true.mp c1 f (List.mem_of_getElem? h)
theorem SaysX.own (c : SaysX fa fb fn K) (i : Nat) {f : PySem.W.Frag → Bool} (h : fb[i]? = some f := by rfl) : f K = true := by
  have c1 := (ba (ba (show ((fa.all fun f => f.ok K) && ((fb.all fun f => f K) && fn.all fun d => d.ok K)) = true from congrArg (fun z : AlX => z.1) c)).2).1; exact List.all_eq_true.mp c1 f (List.mem_of_getElem? h)
theorem SaysX.okD (c : SaysX fa fb fn K) (i : Nat) {d : DefE} (h : fn[i]? = some d := by rfl) : fnE K d.at_ = d.val ∧ d.ok K = true := by
  have c2 := (ba (ba (show ((fa.all fun f => f.ok K) && ((fb.all fun f => f K) && fn.all fun d => d.ok K)) = true from congrArg (fun z : AlX => z.1) c)).2).2
  have e : fn.map (fun d => fnE K d.at_) = fn.map DefE.val := congrArg (fun z : AlX => z.2) c
  have e2 : (fn.map fun d => fnE K d.at_)[i]? = (fn.map DefE.val)[i]? := by rw [e]
  rw [List.getElem?_map, List.getElem?_map, h] at e2; exact ⟨Option.some.inj e2, List.all_eq_true.mp c2 d (List.mem_of_getElem? h)⟩
end
end Hx
namespace L2
open PyProof.Rows PySem.Spec PySem
/-! ### deep data that stand still -/
/-- what is tracked but at b is as it was -/
def KeepB (b : Addr) (H H' : Hp) : Prop := ∀ a o, a ≠ b → H a = some o → H' a = some o
theorem KeepB.refl {b : Addr} {H : Hp} : KeepB b H H := fun _ _ _ h => h
theorem KeepB.trans {b : Addr} {H H1 H2 : Hp} (x : KeepB b H H1) (y : KeepB b H1 H2) : KeepB b H H2 := fun a o n h => y a o n (x a o n h)
theorem KeepB.upd {b : Addr} {H : Hp} {o : HO} : KeepB b H (L2.upd H b o) := fun a u n h => by rw [upd_ne n]; exact h
theorem Same.keepB {b : Addr} {H H' : Hp} (h : Same H H') : KeepB b H H' := fun a o _ e => h a o e
theorem same_new {H : Hp} {p : Addr} {o : HO} (h : H p = none) : Same H (upd H p o) := fun b u e => by rw [upd_ne (ne_of_none e h)]; exact e
/-- a list or a tuple is tracked as it was -/
def Stands (H H' : Hp) : Prop := ∀ a xs, (Rd H a (.lst xs) → Rd H' a (.lst xs)) ∧ (Rd H a (.tup xs) → Rd H' a (.tup xs))
theorem Same.stands {H H' : Hp} (h : Same H H') : Stands H H' := fun a xs => ⟨fun r => r.elim (fun e => .inl (h _ _ e)) (fun ⟨o, e⟩ => .inr ⟨o, h _ _ e⟩), fun r => r.elim (fun e => .inl (h _ _ e)) (fun ⟨o, e⟩ => .inr ⟨o, h _ _ e⟩)⟩
theorem KeepB.stands {b : Addr} {H H' : Hp} {kvs : List (Key × V)} (h : KeepB b H H') (hb : H b = some (.dK kvs)) : Stands H H' := by
  intro a xs
  refine ⟨fun r => ?_, fun r => ?_⟩
  · rcases r with e | ⟨o, e⟩
    · exact .inl (h _ _ (ne_of e hb (by intro z; cases z)) e)
    · exact .inr ⟨o, h _ _ (ne_of e hb (by intro z; cases z)) e⟩
  · rcases r with e | ⟨o, e⟩
    · exact .inl (h _ _ (ne_of e hb (by intro z; cases z)) e)
    · exact .inr ⟨o, h _ _ (ne_of e hb (by intro z; cases z)) e⟩
theorem Stands.l {K : PySem.W.Frag} {H H' : Hp} {a : Addr} {xs : List V} (s : Stands H H') (h : SqL K H a xs) : SqL K H' a xs := h.elim (fun r => .inl ((s a xs).1 r)) .inr
theorem Stands.t {K : PySem.W.Frag} {H H' : Hp} {a : Addr} {xs : List V} (s : Stands H H') (h : SqT K H a xs) : SqT K H' a xs := h.elim (fun r => .inl ((s a xs).2 r)) .inr
mutual
theorem Dp.mono {K : PySem.W.Frag} {H H' : Hp} (s : Stands H H') : ∀ {v : V} {d : PyData}, Dp K H v d → Dp K H' v d
  | _, _, .non => .non
  | _, _, .bl b => .bl b
  | _, _, .int i => .int i
  | _, _, .str x => .str x
  | _, _, .lst h r => .lst (s.l h) (DpAll.mono s r)
  | _, _, .tup h r => .tup (s.t h) (DpAll.mono s r)
theorem DpAll.mono {K : PySem.W.Frag} {H H' : Hp} (s : Stands H H') : ∀ {vs : List V} {ds : List PyData}, DpAll K H vs ds → DpAll K H' vs ds
  | _, _, .nil => .nil
  | _, _, .cons h r => .cons (Dp.mono s h) (DpAll.mono s r)
end
mutual
theorem eqv_self : ∀ d : PyData, d.canLay0 = true → PyData.eqv d d = true
  | .none, _ => (by simp [PyData.eqv])
  | .bool _, _ => (by simp [PyData.eqv])
  | .int _, _ => (by simp [PyData.eqv])
  | .str _, _ => (by simp [PyData.eqv])
  | .list xs, h => by simp only [PyData.eqv]; exact eqvAll_self xs (by simpa [PyData.canLay0] using h)
  | .tuple xs, h => by simp only [PyData.eqv]; exact eqvAll_self xs (by simpa [PyData.canLay0] using h)
  | .dict _, h => by simp [PyData.canLay0] at h
theorem eqvAll_self : ∀ ds : List PyData, PyData.canLayAll0 ds = true → PyData.eqvAll ds ds = true
  | [], _ => (by simp [PyData.eqvAll])
  | d :: ds, h => by
    have h' : (d.canLay0 && PyData.canLayAll0 ds) = true := by simpa [PyData.canLayAll0] using h
    simp only [PyData.eqvAll, eqv_self d (Bool.and_eq_true_iff.mp h').1, eqvAll_self ds (Bool.and_eq_true_iff.mp h').2, Bool.and_self]
end
end L2
namespace Pk
open L2 PyProof.Rows PySem.Spec PySem
/-! ### the reader's numbers, terms, sums, as plain functions -/
def okNum (w : Str) : Bool := Txt.isascii w && (Txt.isdigit w && (decide (w.length ≤ 30) && !(decide (1 < w.length) && decide (w.cps.toList[0]? = some 48))))
def numM (w : Str) : Option Nat := if okNum w = true then some (NumText.digitsVal w.cps.toList) else none
theorem ascii_digit : ∀ c : Nat, c < 128 → Unicode.isDigit c = true → 48 ≤ c ∧ c ≤ 57 := by decide +kernel
theorem okNum_parts {w : Str} (h : okNum w = true) : NumText.AllDigits w.cps.toList ∧ w.cps.toList ≠ [] ∧ w.length ≤ 30 := by
  unfold okNum at h
  simp only [Bool.and_eq_true] at h; obtain ⟨h1, h2, h3, _⟩ := h
  unfold Txt.isascii at h1
  unfold Txt.isdigit at h2
  simp only [Bool.and_eq_true] at h2
  refine ⟨fun c hc => ?_, fun e => ?_, of_decide_eq_true h3⟩
  · have a1 := Array.all_eq_true_iff_forall_mem.mp h1 c (Array.mem_toList_iff.mp hc)
    have a2 := Array.all_eq_true_iff_forall_mem.mp h2.2 c (Array.mem_toList_iff.mp hc)
    exact ascii_digit c (of_decide_eq_true a1) a2
  · have q := of_decide_eq_true h2.1
    have e2 : w.length = w.cps.toList.length := by simp [Str.length]
    rw [e2, e] at q
    cases q
theorem numM_int {w : Str} {n : Nat} (h : numM w = some n) : intText? w = some (n : Int) ∧ w.length ≤ 30 := by
  unfold numM at h
  by_cases k : okNum w = true
  · rw [if_pos k] at h
    cases h
    obtain ⟨a, b, c⟩ := okNum_parts k
    exact ⟨intText_digits a b (by omega), c⟩
  · rw [if_neg k] at h
    cases h
theorem digits_lt : ∀ (l : List Nat) (a : Nat), NumText.AllDigits l → l.foldl (fun acc c => acc * 10 + (c - 48)) a < (a + 1) * 10 ^ l.length
  | [], a, _ => by simp
  | c :: l, a, h => by
    have q := digits_lt l (a * 10 + (c - 48)) h.tail
    have d := h.head
    rw [List.foldl_cons, List.length_cons]; refine Nat.lt_of_lt_of_le q ?_
    have e : (a + 1) * 10 ^ (l.length + 1) = ((a + 1) * 10) * 10 ^ l.length := by rw [Nat.pow_succ, Nat.mul_assoc, Nat.mul_comm (10 ^ l.length) 10]
    rw [e]; exact Nat.mul_le_mul_right _ (by omega)
theorem numM_lt {w : Str} {n : Nat} (h : numM w = some n) : n < 10 ^ 30 := by
  unfold numM at h
  by_cases k : okNum w = true
  · rw [if_pos k] at h
    cases h
    obtain ⟨a, b, c⟩ := okNum_parts k
    have q := digits_lt w.cps.toList 0 a
    have e2 : w.length = w.cps.toList.length := by simp [Str.length]
    rw [← e2, Nat.zero_add, Nat.one_mul] at q
    exact Nat.lt_of_lt_of_le q (Nat.pow_le_pow_right (by decide) c)
  · rw [if_neg k] at h
    cases h
def ATOMSL : List Str := ["k", "cap", "low", "left", "own", "right", "new", "more", "a", "b", "c"]
def FACTL : List Str := ["k", "cap", "low"]
abbrev Term := Int × Option Str
def termM (ws : List Str) : Option (Nat × Option Str) := match ws with
  | [w] => if w ∈ ATOMSL then some (1, some w) else (numM w).map fun n => (n, none)
  | [w, m, f] => if m = "*" ∧ f ∈ FACTL then (match numM w with
    | some n => if 2 ≤ n ∧ n ≤ 12 then some (n, some f) else none
    | none => none) else none
  | _ => none
theorem termM_lt {ws : List Str} {n : Nat} {f : Option Str} (h : termM ws = some (n, f)) : n < 10 ^ 30 := by
  unfold termM at h
  split at h
  · split at h
    · cases h
      decide
    · rename_i w _
      cases e : numM w with
      | none => (rw [e] at h; cases h)
      | some m =>
        rw [e] at h
        cases h
        exact numM_lt e
  · split at h
    · split at h
      · split at h
        · rename_i q
          cases h
          exact Nat.lt_of_le_of_lt q.2 (by decide)
        · cases h
      · cases h
    · cases h
  · cases h
theorem termM_1 (w : Str) : termM [w] = if w ∈ ATOMSL then some (1, some w) else (numM w).map fun n => (n, none) := rfl
theorem termM_3 (w m f : Str) : termM [w, m, f] = if m = "*" ∧ f ∈ FACTL then (match numM w with
    | some n => if 2 ≤ n ∧ n ≤ 12 then some (n, some f) else none
    | none => none) else none := rfl
theorem termM_x {ws : List Str} (h1 : ws.length ≠ 1) (h3 : ws.length ≠ 3) : termM ws = none := by
  rcases ws with _ | ⟨a, _ | ⟨b, _ | ⟨c, _ | ⟨d, r⟩⟩⟩⟩
  · rfl
  · exact absurd rfl h1
  · rfl
  · exact absurd rfl h3
  · rfl
def sumGo : List Str → List Term → List Str → Int → Option (List Term)
  | [], found, _, _ => some found
  | w :: ws, found, term, sign => if w = "+" ∨ w = "-" then (match termM term with
    | none => none
    | some (n, f) => sumGo ws (found ++ [(sign * n, f)]) [] (if w = "+" then 1 else -1)) else sumGo ws found (term ++ [w]) sign
def namesT (ts : List Term) : List Str := ts.filterMap (·.2)
def sumOk (ts : List Term) : Bool := decide (ts.length ≤ 4) && decide ((namesT ts).Nodup)
def sumM (ws : List Str) : Option (List Term) := match sumGo (ws ++ [("+" : Str)]) [] [] 1 with
  | none => none
  | some ts => if sumOk ts = true then some ts else none
def divM (ws : List Str) (most : Nat) : Option (List Term × Option Nat) :=
  if 2 < ws.length ∧ ws[ws.length - 2]? = some ("//" : Str) then (match sumM (ws.take (ws.length - 2)), numM (ws.getD (ws.length - 1) "") with
    | some ts, some m => if 2 ≤ m ∧ m ≤ most then some (ts, some m) else none
    | _, _ => none) else (sumM ws).map fun ts => (ts, none)
def addS (ks : List Str) (s : Str) : List Str := if s ∈ ks then ks else ks ++ [s]
theorem addS_len : ∀ (ns ks : List Str), (ns.foldl addS ks).length ≤ ks.length + ns.length ∧ ((ns.foldl addS ks).length = ks.length + ns.length ↔ (ns.Nodup ∧ ∀ s ∈ ns, s ∉ ks))
  | [], ks => by simp
  | n :: ns, ks => by
    obtain ⟨h1, h2⟩ := addS_len ns (addS ks n)
    rw [List.foldl_cons, List.length_cons]; by_cases hn : n ∈ ks
    · have e : addS ks n = ks := if_pos hn
      rw [e] at h1 h2 ⊢
      refine ⟨by omega, ⟨fun z => by omega, fun z => absurd hn (z.2 n (by simp))⟩⟩
    · have e : addS ks n = ks ++ [n] := if_neg hn
      rw [e] at h1 h2 ⊢
      rw [List.length_append, List.length_singleton] at h1 h2
      refine ⟨by omega, ?_⟩
      have a : (ns.foldl addS (ks ++ [n])).length = ks.length + (ns.length + 1) ↔ (ns.foldl addS (ks ++ [n])).length = ks.length + 1 + ns.length := by omega
      rw [a, h2, List.nodup_cons]
      constructor
      · rintro ⟨z1, z2⟩
        refine ⟨⟨fun y => z2 n y (by simp), z1⟩, fun s hs hk => ?_⟩
        rcases List.mem_cons.mp hs with y | y
        · rw [y] at hk
          exact hn hk
        · exact z2 s y (List.mem_append_left _ hk)
      · rintro ⟨⟨z1, z2⟩, z3⟩
        refine ⟨z2, fun s hs hk => ?_⟩
        rcases List.mem_append.mp hk with y | y
        · exact z3 s (List.mem_cons_of_mem _ hs) y
        · rw [List.mem_singleton.mp y] at hs
          exact z1 hs
theorem nodup_len (ns : List Str) : (ns.foldl addS []).length = ns.length ↔ ns.Nodup := by
  have q := (addS_len ns []).2
  rw [List.length_nil, Nat.zero_add] at q
  rw [q]
  exact ⟨fun z => z.1, fun z => ⟨z, fun _ _ h => by cases h⟩⟩
def kOnly (ts : List Term) : Bool := ts.all fun t => decide (t.2 = none) || decide (t.2 = some ("k" : Str))
def shareM (s : Str) : Option (List Term × Option Nat) := match divM (Txt.split s " ") 6 with
  | none => none
  | some (ts, m) => if kOnly ts = true then some (ts, m) else none
/-! ### a share as numbers -/
def slopeT (ts : List Term) : Int := (ts.filterMap fun t => if t.2 = some ("k" : Str) then some t.1 else none).sum
def constT (ts : List Term) : Int := (ts.filterMap fun t => if t.2 = none then some t.1 else none).sum
structure Line where
  s : Int
  c : Int
  d : Nat
def lineM (p : List Term × Option Nat) : Line := ⟨slopeT p.1, constT p.1, p.2.getD 1⟩
def Line.at_ (l : Line) (k : Int) : Int := (l.s * k + l.c) / (l.d : Int)
/-! ### how long the parts of a text are -/
theorem spl_few (S : List Nat) : ∀ (l : List Nat) (k : Nat) (acc : List Nat), (TL.spl S k acc l).length ≤ l.length + 1 ∧ ∀ p ∈ TL.spl S k acc l, p.length ≤ acc.length + l.length
  | [], k, acc => by
    rw [TL.spl_nil]
    exact ⟨Nat.le_refl _, fun p hp => by rw [List.mem_singleton.mp hp]; exact Nat.le_refl _⟩
  | c :: r, 0, acc => by
    by_cases h : TL.pre S (c :: r) = true
    · rw [TL.spl_hit h]
      obtain ⟨h1, h2⟩ := spl_few S r (S.length - 1) []
      refine ⟨Nat.succ_le_succ h1, fun p hp => ?_⟩; rcases List.mem_cons.mp hp with e | e
      · rw [e]
        exact Nat.le_add_right _ _
      · have q := h2 p e
        rw [List.length_nil, Nat.zero_add] at q
        rw [List.length_cons]
        omega
    · rw [TL.spl_miss (by simpa using h)]
      obtain ⟨h1, h2⟩ := spl_few S r 0 (acc ++ [c])
      refine ⟨Nat.le_succ_of_le h1, fun p hp => ?_⟩
      have q := h2 p hp
      rw [List.length_append, List.length_singleton] at q
      rw [List.length_cons]
      omega
  | c :: r, k + 1, acc => by
    obtain ⟨h1, h2⟩ := spl_few S r k acc
    refine ⟨Nat.le_succ_of_le h1, fun p hp => ?_⟩
    have q := h2 p hp
    rw [List.length_cons]
    omega
theorem split_few (s : Str) : (Txt.split s " ").length ≤ s.length + 1 ∧ ∀ w ∈ Txt.split s " ", w.length ≤ s.length := by
  have e := TL.split_spl s " " (by decide) (TL.kind_ok (by decide +kernel))
  obtain ⟨h1, h2⟩ := spl_few (TL.tl " ") (TL.tl s) 0 []
  rw [← e] at h1 h2
  rw [List.length_map] at h1
  rw [TL.len_tl s]
  refine ⟨h1, fun w hw => ?_⟩
  have q := h2 (TL.tl w) (List.mem_map_of_mem hw)
  rw [List.length_nil, Nat.zero_add] at q
  rw [TL.len_tl w]
  exact q
end Pk
namespace Pk
open L2 PyProof.Rows PySem.Spec PySem
/-! ### the lines of codes, read: plain functions -/
def PAGEL : List Str := ["left", "own", "right", "new", "more"]
def REGL : List Str := ["a", "b", "c"]
inductive Part where
  | there (x : Str) (w : Bool)
  | less (a b : Term) (s w : Bool)
  | same (a b : Term) (w : Bool)
deriving DecidableEq
inductive Row where
  | set (line : Nat) (r : Str) (ts : List Term) (d : Option Nat)
  | cut (line : Nat) (x : Str) (ts : List Term) (y : Str)
  | join (line : Nat) (x y : Str)
  | shift (line : Nat) (ts : List Term) (x y : Str)
  | mark (line : Nat) (y : Str)
  | quit (line : Nat)
  | ifr (line : Nat) (ps : List Part) (rows others : List Row)
def at_ (ws : List Str) (i : Nat) : Str := ws.getD i ""
def sideM (w : Str) : Option Term := (termM [w]).map fun p => ((p.1 : Int), p.2)
def movingM (line : Nat) (ws : List Str) : Option Row :=
  if ws.length < 6 ∨ at_ ws (ws.length - 1) ∉ PAGEL then none
  else if at_ ws 0 = "cut" ∧ at_ ws 1 ∈ PAGEL ∧ at_ ws 2 = "at" ∧ at_ ws (ws.length - 2) = "into" then (match sumM ((ws.take (ws.length - 2)).drop 3) with
    | some ts => if at_ ws 1 ≠ at_ ws (ws.length - 1) then some (.cut line (at_ ws 1) ts (at_ ws (ws.length - 1))) else none
    | none => none)
  else if at_ ws 0 ≠ "shift" ∨ at_ ws (ws.length - 4) ≠ "from" ∨ at_ ws (ws.length - 3) ∉ PAGEL ∨ at_ ws (ws.length - 2) ≠ "to" then none
  else (match sumM ((ws.take (ws.length - 4)).drop 1) with
    | some ts => if at_ ws (ws.length - 3) ≠ at_ ws (ws.length - 1) then some (.shift line ts (at_ ws (ws.length - 3)) (at_ ws (ws.length - 1))) else none
    | none => none)
def deedM (line : Nat) (ws : List Str) : Option Row :=
  if ws = [("quit" : Str)] then some (.quit line)
  else if 2 < ws.length ∧ at_ ws 0 ∈ REGL ∧ at_ ws 1 = "=" then (divM (ws.drop 2) 12).map fun x => .set line (at_ ws 0) x.1 x.2
  else if ws.length = 2 ∧ at_ ws 0 = "mark" ∧ at_ ws 1 ∈ PAGEL then some (.mark line (at_ ws 1))
  else if ws.length = 3 ∧ at_ ws 0 = "join" ∧ at_ ws 1 ∈ PAGEL ∧ at_ ws 2 ∈ PAGEL then (if at_ ws 1 ≠ at_ ws 2 then some (.join line (at_ ws 1) (at_ ws 2)) else none)
  else movingM line ws
def wantedM (ws : List Str) : Bool := !decide (ws.take 1 = [("not" : Str)])
def restM (ws : List Str) : List Str := if wantedM ws = true then ws else ws.drop 1
def partM (ws : List Str) : Option Part :=
  if (restM ws).length = 3 ∧ (restM ws).take 2 = [("there" : Str), ("is" : Str)] ∧ at_ (restM ws) 2 ∈ PAGEL then some (.there (at_ (restM ws) 2) (wantedM ws))
  else if (restM ws).length = 3 ∧ at_ (restM ws) 0 ≠ at_ (restM ws) 2 then (match sideM (at_ (restM ws) 0), sideM (at_ (restM ws) 2) with
    | some a, some b => if at_ (restM ws) 1 = "<" ∨ at_ (restM ws) 1 = "<=" then some (.less a b (decide (at_ (restM ws) 1 = "<")) (wantedM ws)) else if at_ (restM ws) 1 = "is" then some (.same a b (wantedM ws)) else none
    | _, _ => none)
  else none
def partsGo : List Str → List Part → List Str → Option (List Part)
  | [], found, _ => some found
  | w :: ws, found, part => if w = "and" then (match partM part with
    | none => none
    | some p => partsGo ws (found ++ [p]) []) else partsGo ws found (part ++ [w])
def partsM (ws : List Str) : Option (List Part) := match partsGo (ws ++ [("and" : Str)]) [] [] with
  | none => none
  | some ps => if ps.length ≤ 4 then some ps else none
/-- rows, the word that ended them, the number of lines taken, the lines left; or the number of the first line that is none -/
abbrev RowsR := Except Nat (List Row × Option Str × Nat × List Str)
abbrev RowR := Except Nat (Row × Nat × List Str)
def rowM (rec_ : Bool → Nat → List Str → RowsR) (line : Nat) (ws : List Str) (r : List Str) : RowR :=
  if at_ ws 0 = "if" ∧ 1 < ws.length then (match partsM (ws.drop 1) with
    | none => .error line
    | some ps => match rec_ true line r with
      | .error e => .error e
      | .ok (rows, last, l2, r2) => if last = some ("else" : Str) then (match rec_ true l2 r2 with
        | .error e => .error e
        | .ok (others, last2, l3, r3) => if last2 = some ("end" : Str) then .ok (.ifr line ps rows others, l3, r3) else .error l3)
        else if last = some ("end" : Str) then .ok (.ifr line ps rows [], l2, r2) else .error l2)
  else (match deedM line ws with
    | none => .error line
    | some row => .ok (row, line, r))
def rowsM : Nat → Bool → Nat → List Str → RowsR
  | 0, _, _, _ => .error 0
  | n + 1, inner, line, ls => match ls with
    | [] => if inner = true then .error (line + 1) else .ok ([], none, line, [])
    | t :: r => if inner = true ∧ (t = "end" ∨ t = "else") then .ok ([], some t, line + 1, r)
      else (match rowM (rowsM n) (line + 1) (Txt.split t " ") r with
        | .error e => .error e
        | .ok (row, l2, r2) => match rowsM n inner l2 r2 with
          | .error e => .error e
          | .ok (rows, last, l3, r3) => .ok (row :: rows, last, l3, r3))
section
variable {rec_ : Bool → Nat → List Str → RowsR} {line x l2 l3 : Nat} {ws r r2 r3 : List Str} {ps : List Part} {rows others : List Row} {last last2 : Option Str}
theorem rowM_p0 (c : at_ ws 0 = "if" ∧ 1 < ws.length) (e : partsM (ws.drop 1) = none) : rowM rec_ line ws r = .error line := by
  unfold rowM
  rw [if_pos c, e]
theorem rowM_r1 (c : at_ ws 0 = "if" ∧ 1 < ws.length) (e : partsM (ws.drop 1) = some ps) (e1 : rec_ true line r = .error x) : rowM rec_ line ws r = .error x := by
  unfold rowM
  rw [if_pos c, e]
  dsimp only
  rw [e1]
theorem rowM_r2 (c : at_ ws 0 = "if" ∧ 1 < ws.length) (e : partsM (ws.drop 1) = some ps) (e1 : rec_ true line r = .ok (rows, last, l2, r2)) (h : last = some ("else" : Str)) (e2 : rec_ true l2 r2 = .error x) : rowM rec_ line ws r = .error x := by
  unfold rowM
  rw [if_pos c, e]
  dsimp only
  rw [e1]
  dsimp only
  rw [if_pos h, e2]
theorem rowM_r3 (c : at_ ws 0 = "if" ∧ 1 < ws.length) (e : partsM (ws.drop 1) = some ps) (e1 : rec_ true line r = .ok (rows, last, l2, r2)) (h : last = some ("else" : Str)) (e2 : rec_ true l2 r2 = .ok (others, last2, l3, r3)) (h2 : last2 = some ("end" : Str)) : rowM rec_ line ws r = .ok (.ifr line ps rows others, l3, r3) := by
  unfold rowM
  rw [if_pos c, e]
  dsimp only
  rw [e1]
  dsimp only
  rw [if_pos h, e2]
  dsimp only
  rw [if_pos h2]
theorem rowM_r4 (c : at_ ws 0 = "if" ∧ 1 < ws.length) (e : partsM (ws.drop 1) = some ps) (e1 : rec_ true line r = .ok (rows, last, l2, r2)) (h : last = some ("else" : Str)) (e2 : rec_ true l2 r2 = .ok (others, last2, l3, r3)) (h2 : ¬ last2 = some ("end" : Str)) : rowM rec_ line ws r = .error l3 := by
  unfold rowM
  rw [if_pos c, e]
  dsimp only
  rw [e1]
  dsimp only
  rw [if_pos h, e2]
  dsimp only
  rw [if_neg h2]
theorem rowM_r5 (c : at_ ws 0 = "if" ∧ 1 < ws.length) (e : partsM (ws.drop 1) = some ps) (e1 : rec_ true line r = .ok (rows, last, l2, r2)) (h : ¬ last = some ("else" : Str)) (h2 : last = some ("end" : Str)) : rowM rec_ line ws r = .ok (.ifr line ps rows [], l2, r2) := by
  unfold rowM
  rw [if_pos c, e]
  dsimp only
  rw [e1]
  dsimp only
  rw [if_neg h, if_pos h2]
theorem rowM_r6 (c : at_ ws 0 = "if" ∧ 1 < ws.length) (e : partsM (ws.drop 1) = some ps) (e1 : rec_ true line r = .ok (rows, last, l2, r2)) (h : ¬ last = some ("else" : Str)) (h2 : ¬ last = some ("end" : Str)) : rowM rec_ line ws r = .error l2 := by
  unfold rowM
  rw [if_pos c, e]
  dsimp only
  rw [e1]
  dsimp only
  rw [if_neg h, if_neg h2]
end
def linesM (text : Str) : List Str := if text = "" then [] else Txt.split text "\n"
def readM (text : Str) : Except Nat (List Row) := match rowsM ((linesM text).length + 1) false 0 (linesM text) with
  | .error e => .error e
  | .ok x => .ok x.1
/-! ### the lines left are an end of the lines, their numbers go on -/
structure Left (line : Nat) (ls : List Str) (l2 : Nat) (r2 : List Str) : Prop where
  sum : l2 + r2.length = line + ls.length
  suf : ∃ pre, ls = pre ++ r2 ∧ l2 = line + pre.length
theorem Left.refl {line : Nat} {ls : List Str} : Left line ls line ls := ⟨rfl, [], rfl, rfl⟩
theorem Left.trans {l1 l2 l3 : Nat} {r1 r2 r3 : List Str} (a : Left l1 r1 l2 r2) (b : Left l2 r2 l3 r3) : Left l1 r1 l3 r3 := by
  obtain ⟨p, e1, e2⟩ := a.suf
  obtain ⟨q, e3, e4⟩ := b.suf
  refine ⟨b.sum.trans a.sum, p ++ q, ?_, ?_⟩
  · rw [List.append_assoc, ← e3]
    exact e1
  · rw [List.length_append]
    omega
theorem Left.cons {line : Nat} {t : Str} {r : List Str} : Left line (t :: r) (line + 1) r := ⟨by rw [List.length_cons]; omega, [t], rfl, rfl⟩
theorem Left.le {l1 l2 : Nat} {r1 r2 : List Str} (a : Left l1 r1 l2 r2) : r2.length ≤ r1.length := by
  obtain ⟨p, e1, e2⟩ := a.suf
  rw [e1, List.length_append]
  omega
theorem rowM_left {rec_ : Bool → Nat → List Str → RowsR} (hr : ∀ i l ls rows last l2 r2, rec_ i l ls = .ok (rows, last, l2, r2) → Left l ls l2 r2) {line : Nat} {ws r : List Str} {row : Row} {l2 : Nat} {r2 : List Str} (h : rowM rec_ line ws r = .ok (row, l2, r2)) : Left line r l2 r2 := by
  unfold rowM at h
  split at h
  · split at h
    · cases h
    · split at h
      · cases h
      · rename_i e
        have a := hr _ _ _ _ _ _ _ e
        split at h
        · split at h
          · cases h
          · rename_i e2
            have b := hr _ _ _ _ _ _ _ e2
            split at h
            · cases h
              exact a.trans b
            · cases h
        · split at h
          · cases h
            exact a
          · cases h
  · split at h
    · cases h
    · cases h
      exact Left.refl
theorem rowsM_left : ∀ (n : Nat) (i : Bool) (l : Nat) (ls : List Str) (rows : List Row) (last : Option Str) (l2 : Nat) (r2 : List Str), rowsM n i l ls = .ok (rows, last, l2, r2) → Left l ls l2 r2
  | 0, _, _, _, _, _, _, _, h => by cases h
  | n + 1, i, l, ls, rows, last, l2, r2, h => by
    unfold rowsM at h
    split at h
    · split at h
      · cases h
      · cases h
        exact Left.refl
    · split at h
      · cases h
        exact Left.cons
      · split at h
        · cases h
        · rename_i e
          have a := rowM_left (rowsM_left n) e
          split at h
          · cases h
          · rename_i e2
            have b := rowsM_left n _ _ _ _ _ _ _ e2
            cases h
            exact Left.cons.trans (a.trans b)
/-! ### enough steps are enough -/
theorem rowM_eq {f g : Bool → Nat → List Str → RowsR} {m : Nat} (hl : ∀ i l ls rows last l2 r2, f i l ls = .ok (rows, last, l2, r2) → Left l ls l2 r2) (h : ∀ i l ls, ls.length ≤ m → f i l ls = g i l ls) {line : Nat} {ws r : List Str} (hr : r.length ≤ m) : rowM f line ws r = rowM g line ws r := by
  unfold rowM
  rw [← h true line r hr]
  split
  · split
    · rfl
    · split
      · rfl
      · rename_i e
        have a := (hl _ _ _ _ _ _ _ e).le
        rw [← h true _ _ (Nat.le_trans a hr)]
  · rfl
theorem rowsM_step : ∀ (n : Nat) (i : Bool) (l : Nat) (ls : List Str), ls.length < n → rowsM n i l ls = rowsM (n + 1) i l ls
  | 0, _, _, _, h => absurd h (Nat.not_lt_zero _)
  | n + 1, i, l, ls, h => by
    have ih := rowsM_step n
    cases ls with
    | nil => rfl
    | cons t r =>
      have hr : r.length < n := by
        rw [List.length_cons] at h
        omega
      have e : rowM (rowsM n) (l + 1) (Txt.split t " ") r = rowM (rowsM (n + 1)) (l + 1) (Txt.split t " ") r := by
        cases n with
        | zero => exact absurd hr (Nat.not_lt_zero _)
        | succ k => exact rowM_eq (m := k) (rowsM_left _) (fun i l ls q => ih i l ls (by omega)) (by omega)
      rw [rowsM, rowsM, ← e]
      split
      · rfl
      · split
        · rfl
        · rename_i e2
          have a := (rowM_left (rowsM_left n) e2).le
          rw [ih _ _ _ (by omega)]
theorem rowsM_more (n m : Nat) (i : Bool) (l : Nat) (ls : List Str) (h : ls.length < n) : rowsM n i l ls = rowsM (n + m) i l ls := by
  induction m with
  | zero => rfl
  | succ m ih => rw [ih, ← Nat.add_assoc, rowsM_step (n + m) i l ls (by omega)]
/-- a row ahead -/
def prep (row : Row) : RowsR → RowsR
  | .error e => .error e
  | .ok (rows, last, l, r) => .ok (row :: rows, last, l, r)
def preps (done : List Row) : RowsR → RowsR
  | .error e => .error e
  | .ok (rows, last, l, r) => .ok (done ++ rows, last, l, r)
theorem preps_nil (x : RowsR) : preps [] x = x := by
  cases x with
  | error e => rfl
  | ok y => rfl
theorem preps_prep (done : List Row) (row : Row) (x : RowsR) : preps done (prep row x) = preps (done ++ [row]) x := by
  cases x with
  | error e => rfl
  | ok y =>
    show Except.ok (done ++ row :: y.1, y.2) = Except.ok ((done ++ [row]) ++ y.1, y.2)
    rw [List.append_assoc]
    rfl
theorem rowsM_row {n : Nat} {i : Bool} {l : Nat} {t : Str} {r : List Str} {row : Row} {l2 : Nat} {r2 : List Str} (hi : ¬ (i = true ∧ (t = "end" ∨ t = "else"))) (e : rowM (rowsM n) (l + 1) (Txt.split t " ") r = .ok (row, l2, r2)) (h : r.length < n) : rowsM (n + 1) i l (t :: r) = prep row (rowsM (n + 1) i l2 r2) := by
  have a := (rowM_left (rowsM_left n) e).le
  rw [rowsM, if_neg hi, e]
  dsimp only
  rw [rowsM_step n i l2 r2 (by omega)]
  cases rowsM (n + 1) i l2 r2 with
  | error e => rfl
  | ok y => rfl
end Pk
namespace Hx
open PySem PySem.Spec PyProof.Rows L2 He
/-- an error class of the program with its __init__, as the top has left them -/
structure InitF (P : Program) (K : PySem.W.Frag) (mg : Str → Option Value) (x qual : Str) (st : Stmt) (fs : List Str) (C fI : Addr) (fd : FuncData) : Prop where
  sup : SupC K mg x C fI
  xf : XfC K C
  no : ∀ f ∈ fs, PySem.W.findIn K (.ref C) f = some none
  fn : ∃ oc od osl kV doc pm an cda ct cc, fd = PySem.W.ksFn "__init__" qual (defArgs st) (defBody st) (defScope st) .none kV doc pm an (.ref cda) ct cc ∧ K.lookup fI = some ⟨oc, od, .func fd, osl⟩ ∧ PySem.W.codeIn K (.ref cda) qual = true ∧ PySem.Sx.SupAt P K C fI cc cda
theorem codeIn_refX {K : PySem.W.Frag} {cd : Value} {q : Str} (h : PySem.W.codeIn K cd q = true) : ∃ c, cd = .ref c := by
  cases cd with
  | ref c => exact ⟨c, rfl⟩
  | _ => cases h
section
variable {P : Program} {K : PySem.W.Frag} {h : Heap} {mg : Str → Option Value} {fa : List Fa} {fb : List (PySem.W.Frag → Bool)} {fn : List DefE}
theorem SaysX.init (c : SaysX fa fb fn K) (X : K.In h) (G : h.Ns mainGlobals mg) (i j : Nat) {x qual : Str} {st : Stmt} {fs : List Str} (hd : fn[i]? = some ⟨(x, some "__init__"), "__init__", qual, st, [("__class__" : Str)], []⟩ := by rfl)
    (hb : fb[j]? = some (fun K => supB P K x fs) := by rfl) : ∃ fd, InitF P K mg x qual st fs (ga K x) (ma K (ga K x) "__init__") fd := by
  obtain ⟨e, ok⟩ := c.okD i hd
  have s : SupF P K x fs := supB_ok (c.own j hb)
  obtain ⟨oc, od, osl, dV, kV, doc, pm, an, cdv, ct, cc, lk, hcd, _, hdf⟩ := DefE.supD e ok rfl
  obtain ⟨cda, rfl⟩ := codeIn_refX hcd
  have hdV : dV = .none := by
    cases dV with
    | none => rfl
    | _ => cases hdf
  subst hdV
  exact ⟨_, s.supC X G, s.xf, s.no, oc, od, osl, kV, doc, pm, an, cda, ct, cc, rfl, lk, hcd, s.at_ lk⟩
theorem SaysX.def_ (c : SaysX fa fb fn K) (i : Nat) {x : Str} {p : Str × Option Str} {qual : Str} {st : Stmt} {dfl : List Dv} (hd : fn[i]? = some ⟨p, x, qual, st, [], dfl⟩ := by rfl) : ∃ fd, FunD K x qual (defArgs st) (defBody st) (defScope st) (dfl.map (Dv.v K)) [] (fAd K p) fd := by
  obtain ⟨e, ok⟩ := c.okD i hd
  exact DefE.funD e ok rfl
end
end Hx
namespace Hx
open PySem PySem.Spec PyProof.Rows L2 He
/-! ### written tuples; the code object and the table of one def -/
def tupB (x : Str) (vs : List V) (K : PySem.W.Frag) : Bool := eqO (PySem.W.nsIn K mainGlobals x) (some (some (.ref (ga K x)))) && (match K.lookup (ga K x) with
  | some ⟨.type t, _, .seq its _, _⟩ => decide (t = "tuple") && (decide (its.size ≤ 1000) && relAll vs its.toList)
  | _ => false)
theorem tupB_ok {x : Str} {vs : List V} {K : PySem.W.Frag} {h : Heap} {mg : Str → Option Value} (X : K.In h) (G : h.Ns mainGlobals mg) (b : tupB x vs K = true) : (∃ u, mg x = some u ∧ RelV (.ref (ga K x)) u) ∧ ∀ H, SqT K H (ga K x) vs := by
  obtain ⟨b1, b2⟩ := ba (show (eqO (PySem.W.nsIn K mainGlobals x) (some (some (.ref (ga K x)))) && _) = true from b)
  refine ⟨⟨_, PySem.W.mg_of X G (eqO_ok b1), rfl⟩, fun H => ?_⟩
  split at b2
  · rename_i t dd its n sl e
    obtain ⟨c1, c2⟩ := ba b2
    obtain ⟨c2, c3⟩ := ba c2
    have e1 := of_decide_eq_true c1
    subst e1
    exact .inr ⟨_, its, n, e, rfl, rfl, Nat.le_trans (of_decide_eq_true c2) (by decide), relAll_ok c3⟩
  · cases b2
theorem intG {x : Str} {i : Int} {K : PySem.W.Frag} {h : Heap} {mg : Str → Option Value} (X : K.In h) (G : h.Ns mainGlobals mg) (c : (Fa.int x i).ok K = true) : ∃ u, mg x = some u ∧ RelV (.int i) u := by
  obtain ⟨t, e⟩ := int_ok X G c
  exact ⟨_, e, t, rfl⟩
def cAd (K : PySem.W.Frag) (p : Str × Option Str) : Addr := match K.lookup (fAd K p) with
  | some ⟨_, _, .func fdt, _⟩ => (match fdt.code with
    | .ref c => c
    | _ => 0)
  | _ => 0
def tAd (K : PySem.W.Frag) (p : Str × Option Str) : Addr := match K.lookup (cAd K p) with
  | some ⟨_, _, .fields us, _⟩ => (match (us[11]? : Option Value) with
    | some (.ref P) => P
    | _ => 0)
  | _ => 0
def refB (v : Value) (c : Addr) : Bool := match v with
  | .ref a => decide (a = c)
  | _ => false
def tabB (K : PySem.W.Frag) (p : Str × Option Str) (P : Addr) : Bool := PySem.W.codeHdIn K (cAd K p) P && ((match K.lookup (fAd K p) with
  | some ⟨_, _, .func fd, _⟩ => refB fd.code (cAd K p)
  | _ => false) && (K.lookup P).isNone)
theorem tabB_ok {K : PySem.W.Frag} {p : Str × Option Str} {P : Addr} {h : Heap} (X : K.In h) (b : tabB K p P = true) : PySem.W.CodeHd h (cAd K p) P ∧ K.lookup P = none ∧
    ∀ {x qual : Str} {params : Arguments} {body : List Stmt} {scope : Scope} {dvs : List V} {kws : List (Str × V)} {fd : FuncData}, FunD K x qual params body scope dvs kws (fAd K p) fd → fd.code = .ref (cAd K p) := by
  obtain ⟨b1, b2⟩ := ba b
  obtain ⟨b2, b3⟩ := ba b2
  refine ⟨PySem.W.codeHd_of_K X b1, Option.isNone_iff_eq_none.mp b3, fun F => ?_⟩
  obtain ⟨oc, od, dV, kV, doc, pm, an, cdv, ct, osl, e, lk, _⟩ := F.ex
  rw [lk] at b2
  have b4 : refB _ (cAd K p) = true := b2
  unfold refB at b4
  split at b4
  · rename_i a e2
    rw [e2, of_decide_eq_true b4]
  · cases b4
def isTab (o : Option Obj) : Bool := match o with
  | some ⟨.none, none, .fields vs, sl⟩ => vs.isEmpty && sl.isEmpty
  | _ => false
theorem isTab_ok {o : Option Obj} (h : isTab o = true) : o = some { cls := .none, data := .fields #[] } := by
  unfold isTab at h
  split at h
  · rename_i vs sl
    obtain ⟨h1, h2⟩ := ba h
    have e1 : vs = #[] := by simpa using h1
    have e2 : sl = #[] := by simpa using h2
    rw [e1, e2]
  · cases h
/-! ### the Hook that tells one table apart -/
abbrev AlT : Type := Bool × AlX
def obsTG (n : Nat) (p : Str × Option Str) (fa : List Fa) (fb : List (PySem.W.Frag → Bool)) (fn : List DefE) (g : Addr → Option Obj) : AlT :=
  let as := asX g n
  let P := tAd (frG g as) p
  let K := frG g (as.filter fun a => a != P)
  (isTab (g P) && tabB K p P, obsX fa fb fn K)
def SaysT (p : Str × Option Str) (fa : List Fa) (fb : List (PySem.W.Frag → Bool)) (fn : List DefE) (K : PySem.W.Frag) (P : Addr) (h : Heap) : Prop :=
  K.In h ∧ h.get? P = some { cls := .none, data := .fields #[] } ∧ tabB K p P = true ∧ SaysX fa fb fn K
def hookT (n : Nat) (p : Str × Option Str) (fa : List Fa) (fb : List (PySem.W.Frag → Bool)) (fn : List DefE) : PySem.W.Hook where
  α := AlT
  obs := fun s => obsTG n p fa fb fn s.heap.get?
  val := fun _ => (true, valX fn)
  says := fun _ h => ∃ K P, SaysT p fa fb fn K P h
  of := fun _ s e => by
    have e1 := congrArg (fun z : AlT => z.1) e
    have e2 := congrArg (fun z : AlT => z.2) e
    obtain ⟨a, b⟩ := ba (show (isTab (s.heap.get? (tAd (frG s.heap.get? (asX s.heap.get? n)) p)) && tabB (frG s.heap.get? ((asX s.heap.get? n).filter fun a => a != tAd (frG s.heap.get? (asX s.heap.get? n)) p)) p (tAd (frG s.heap.get? (asX s.heap.get? n)) p)) = true from e1)
    exact ⟨_, _, frG_in, isTab_ok a, b, e2⟩
  keeps := fun _ _ _ ⟨K, P, hK, hP, b, c⟩ k => ⟨K, P, PySem.W.Frag.In.keeps hK k, k _ _ hP, b, c⟩
theorem obsTG_eq {n : Nat} {p : Str × Option Str} {fa : List Fa} {fb : List (PySem.W.Frag → Bool)} {fn : List DefE} {g : Addr → Option Obj} {s : Shared} (h : ∀ a, g a = s.heap.get? a) : obsTG n p fa fb fn g = (hookT n p fa fb fn).obs s := by
  have e : g = s.heap.get? := funext h; rw [e] <;> rfl
end Hx
namespace Pk
open L2 PyProof.Rows PySem.Spec PySem
def top (i : Nat) : Stmt := PySem.Challenge.pw_pagecode_k06_cases_refused.main.body.getD i (.Pass ⟨0, 0, 0, 0⟩)
abbrev sBag : Stmt := top 69
abbrev sDraw : Stmt := top 70
/-! ### the bag -/
def bagD (c : Addr) (i : Nat) (dg n f : Int) : List (Key × V) := [(.inr "cells", .ref c), (.inr "at", .int i), (.inr "digits", .int dg), (.inr "count", .int n), (.inr "fold", .int f)]
theorem bag_cells {c i dg n f} : valV (bagD c i dg n f) (.inr "cells") = some (.ref c) := by rfl
theorem bag_at {c i dg n f} : valV (bagD c i dg n f) (.inr "at") = some (.int (i : Nat)) := by rfl
theorem bag_digits {c i dg n f} : valV (bagD c i dg n f) (.inr "digits") = some (.int dg) := by rfl
theorem bag_count {c i dg n f} : valV (bagD c i dg n f) (.inr "count") = some (.int n) := by rfl
theorem bag_fold {c i dg n f} : valV (bagD c i dg n f) (.inr "fold") = some (.int f) := by rfl
theorem bag_put_at {c i dg n f} : putK (bagD c i dg n f) (.inr "at") (.int (i + 1)) = bagD c (i + 1) dg n f := by rfl
theorem bag_put_digits {c i dg n f} {z : Int} : putK (bagD c i dg n f) (.inr "digits") (.int z) = bagD c i z n f := by rfl
theorem bag_put_count {c i dg n f} {z : Int} : putK (bagD c i dg n f) (.inr "count") (.int z) = bagD c i dg z f := by rfl
theorem bag_put_fold {c i dg n f} {z : Int} : putK (bagD c i dg n f) (.inr "fold") (.int z) = bagD c i dg n z := by rfl
end Pk
namespace Pk
open L2 PyProof.Rows PySem.Spec PySem
abbrev progOf : Program := PySem.Challenge.pw_pagecode_k06_cases_refused
section
variable {K : PySem.W.Frag} {P : Program} {w : World} {base : Heap} {mg : Str → Option Value}
abbrev sIBadStyle : Stmt := inClass (top 3) 0
theorem scIBadStyle : FnScopeS ["self", "style"] ["self", "style"] (defScope sIBadStyle) := ⟨rfl, rfl, rfl, by decide +kernel, rfl, by decide +kernel, by decide +kernel, by decide +kernel, rfl, rfl⟩
theorem bIBadStyle {C fI : Addr} {fd : FuncData} (I : Hx.InitF P K mg "BadStyle" "BadStyle.__init__" sIBadStyle ["style"] C fI fd) : Binds K fd ["self", "style"] [] := by
  obtain ⟨oc, od, osl, kV, doc, pm, an, cda, ct, cc, rfl, lk, hcd, T⟩ := I.fn
  exact .all fun us hl => match us, hl with | [_, _], _ => rfl
theorem okIBadStyle {C fI : Addr} {fd : FuncData} (I : Hx.InitF P K mg "BadStyle" "BadStyle.__init__" sIBadStyle ["style"] C fI fd) (mS : mg "super" = none) (hP : P.main.scope = (progOf).main.scope) : FnOk P w K mg base CX0 1 fI fd ["self", "style"] (spSup1 C "style") := by
  obtain ⟨oc, od, osl, kV, doc, pm, an, cda, ct, cc, rfl, lk, hcd, T⟩ := I.fn
  refine fn_sup (ps := ["self", "style"]) (N := ["self", "style"]) (sp := spSup1 C "style") (CX := CX0) (k := 0) lk hcd scIBadStyle T mS rfl rfl rfl (by rw [hP]; rfl) (by intro _ _ _ _; rfl) ?_ ?_
  · rintro vs H Q E ⟨a, v, rfl, _⟩
    rfl
  · rintro A outer s H vs Q E hr ⟨a, v, rfl, ha, q⟩
    exact ⟨a, [v], _, rfl, ha, pss_one (ps_ost (pv 0) (pv 1)), ⟨_, rfl, _, rfl, a, C, rfl, I.sup.oex, I.no _ (by decide +kernel), .inl ⟨ha, fun d hd hda => q d hd hda⟩⟩⟩
abbrev sIBadSum : Stmt := inClass (top 4) 0
theorem scIBadSum : FnScopeS ["self", "text"] ["self", "text"] (defScope sIBadSum) := ⟨rfl, rfl, rfl, by decide +kernel, rfl, by decide +kernel, by decide +kernel, by decide +kernel, rfl, rfl⟩
theorem bIBadSum {C fI : Addr} {fd : FuncData} (I : Hx.InitF P K mg "BadSum" "BadSum.__init__" sIBadSum ["text"] C fI fd) : Binds K fd ["self", "text"] [] := by
  obtain ⟨oc, od, osl, kV, doc, pm, an, cda, ct, cc, rfl, lk, hcd, T⟩ := I.fn
  exact .all fun us hl => match us, hl with | [_, _], _ => rfl
theorem okIBadSum {C fI : Addr} {fd : FuncData} (I : Hx.InitF P K mg "BadSum" "BadSum.__init__" sIBadSum ["text"] C fI fd) (mS : mg "super" = none) (hP : P.main.scope = (progOf).main.scope) : FnOk P w K mg base CX0 1 fI fd ["self", "text"] (spSup1 C "text") := by
  obtain ⟨oc, od, osl, kV, doc, pm, an, cda, ct, cc, rfl, lk, hcd, T⟩ := I.fn
  refine fn_sup (ps := ["self", "text"]) (N := ["self", "text"]) (sp := spSup1 C "text") (CX := CX0) (k := 0) lk hcd scIBadSum T mS rfl rfl rfl (by rw [hP]; rfl) (by intro _ _ _ _; rfl) ?_ ?_
  · rintro vs H Q E ⟨a, v, rfl, _⟩
    rfl
  · rintro A outer s H vs Q E hr ⟨a, v, rfl, ha, q⟩
    exact ⟨a, [v], _, rfl, ha, pss_one (ps_ost (pv 0) (pv 1)), ⟨_, rfl, _, rfl, a, C, rfl, I.sup.oex, I.no _ (by decide +kernel), .inl ⟨ha, fun d hd hda => q d hd hda⟩⟩⟩
abbrev sIBadKind : Stmt := inClass (top 5) 0
theorem scIBadKind : FnScopeS ["self", "kind"] ["self", "kind"] (defScope sIBadKind) := ⟨rfl, rfl, rfl, by decide +kernel, rfl, by decide +kernel, by decide +kernel, by decide +kernel, rfl, rfl⟩
theorem bIBadKind {C fI : Addr} {fd : FuncData} (I : Hx.InitF P K mg "BadKind" "BadKind.__init__" sIBadKind ["kind"] C fI fd) : Binds K fd ["self", "kind"] [] := by
  obtain ⟨oc, od, osl, kV, doc, pm, an, cda, ct, cc, rfl, lk, hcd, T⟩ := I.fn
  exact .all fun us hl => match us, hl with | [_, _], _ => rfl
theorem okIBadKind {C fI : Addr} {fd : FuncData} (I : Hx.InitF P K mg "BadKind" "BadKind.__init__" sIBadKind ["kind"] C fI fd) (mS : mg "super" = none) (hP : P.main.scope = (progOf).main.scope) : FnOk P w K mg base CX0 1 fI fd ["self", "kind"] (spSup1 C "kind") := by
  obtain ⟨oc, od, osl, kV, doc, pm, an, cda, ct, cc, rfl, lk, hcd, T⟩ := I.fn
  refine fn_sup (ps := ["self", "kind"]) (N := ["self", "kind"]) (sp := spSup1 C "kind") (CX := CX0) (k := 0) lk hcd scIBadKind T mS rfl rfl rfl (by rw [hP]; rfl) (by intro _ _ _ _; rfl) ?_ ?_
  · rintro vs H Q E ⟨a, v, rfl, _⟩
    rfl
  · rintro A outer s H vs Q E hr ⟨a, v, rfl, ha, q⟩
    exact ⟨a, [v], _, rfl, ha, pss_one (ps_ost (pv 0) (pv 1)), ⟨_, rfl, _, rfl, a, C, rfl, I.sup.oex, I.no _ (by decide +kernel), .inl ⟨ha, fun d hd hda => q d hd hda⟩⟩⟩
abbrev sIBadLine : Stmt := inClass (top 6) 0
theorem scIBadLine : FnScopeS ["self", "line"] ["self", "line"] (defScope sIBadLine) := ⟨rfl, rfl, rfl, by decide +kernel, rfl, by decide +kernel, by decide +kernel, by decide +kernel, rfl, rfl⟩
theorem bIBadLine {C fI : Addr} {fd : FuncData} (I : Hx.InitF P K mg "BadLine" "BadLine.__init__" sIBadLine ["line"] C fI fd) : Binds K fd ["self", "line"] [] := by
  obtain ⟨oc, od, osl, kV, doc, pm, an, cda, ct, cc, rfl, lk, hcd, T⟩ := I.fn
  exact .all fun us hl => match us, hl with | [_, _], _ => rfl
theorem okIBadLine {C fI : Addr} {fd : FuncData} (I : Hx.InitF P K mg "BadLine" "BadLine.__init__" sIBadLine ["line"] C fI fd) (mS : mg "super" = none) (hP : P.main.scope = (progOf).main.scope) : FnOk P w K mg base CX0 1 fI fd ["self", "line"] (spSup1 C "line") := by
  obtain ⟨oc, od, osl, kV, doc, pm, an, cda, ct, cc, rfl, lk, hcd, T⟩ := I.fn
  refine fn_sup (ps := ["self", "line"]) (N := ["self", "line"]) (sp := spSup1 C "line") (CX := CX0) (k := 0) lk hcd scIBadLine T mS rfl rfl rfl (by rw [hP]; rfl) (by intro _ _ _ _; rfl) ?_ ?_
  · rintro vs H Q E ⟨a, v, rfl, _⟩
    rfl
  · rintro A outer s H vs Q E hr ⟨a, v, rfl, ha, q⟩
    exact ⟨a, [v], _, rfl, ha, pss_one (ps_ost (pv 0) (pv 1)), ⟨_, rfl, _, rfl, a, C, rfl, I.sup.oex, I.no _ (by decide +kernel), .inl ⟨ha, fun d hd hda => q d hd hda⟩⟩⟩
abbrev sIRefused : Stmt := inClass (top 7) 0
theorem scIRefused : FnScopeS ["self", "line"] ["self", "line"] (defScope sIRefused) := ⟨rfl, rfl, rfl, by decide +kernel, rfl, by decide +kernel, by decide +kernel, by decide +kernel, rfl, rfl⟩
theorem bIRefused {C fI : Addr} {fd : FuncData} (I : Hx.InitF P K mg "Refused" "Refused.__init__" sIRefused ["line"] C fI fd) : Binds K fd ["self", "line"] [] := by
  obtain ⟨oc, od, osl, kV, doc, pm, an, cda, ct, cc, rfl, lk, hcd, T⟩ := I.fn
  exact .all fun us hl => match us, hl with | [_, _], _ => rfl
theorem okIRefused {C fI : Addr} {fd : FuncData} (I : Hx.InitF P K mg "Refused" "Refused.__init__" sIRefused ["line"] C fI fd) (mS : mg "super" = none) (hP : P.main.scope = (progOf).main.scope) : FnOk P w K mg base CX0 1 fI fd ["self", "line"] (spSup1 C "line") := by
  obtain ⟨oc, od, osl, kV, doc, pm, an, cda, ct, cc, rfl, lk, hcd, T⟩ := I.fn
  refine fn_sup (ps := ["self", "line"]) (N := ["self", "line"]) (sp := spSup1 C "line") (CX := CX0) (k := 0) lk hcd scIRefused T mS rfl rfl rfl (by rw [hP]; rfl) (by intro _ _ _ _; rfl) ?_ ?_
  · rintro vs H Q E ⟨a, v, rfl, _⟩
    rfl
  · rintro A outer s H vs Q E hr ⟨a, v, rfl, ha, q⟩
    exact ⟨a, [v], _, rfl, ha, pss_one (ps_ost (pv 0) (pv 1)), ⟨_, rfl, _, rfl, a, C, rfl, I.sup.oex, I.no _ (by decide +kernel), .inl ⟨ha, fun d hd hda => q d hd hda⟩⟩⟩
abbrev sIBadCapacity : Stmt := inClass (top 8) 0
theorem scIBadCapacity : FnScopeS ["self", "k"] ["self", "k"] (defScope sIBadCapacity) := ⟨rfl, rfl, rfl, by decide +kernel, rfl, by decide +kernel, by decide +kernel, by decide +kernel, rfl, rfl⟩
theorem bIBadCapacity {C fI : Addr} {fd : FuncData} (I : Hx.InitF P K mg "BadCapacity" "BadCapacity.__init__" sIBadCapacity ["k"] C fI fd) : Binds K fd ["self", "k"] [] := by
  obtain ⟨oc, od, osl, kV, doc, pm, an, cda, ct, cc, rfl, lk, hcd, T⟩ := I.fn
  exact .all fun us hl => match us, hl with | [_, _], _ => rfl
theorem okIBadCapacity {C fI : Addr} {fd : FuncData} (I : Hx.InitF P K mg "BadCapacity" "BadCapacity.__init__" sIBadCapacity ["k"] C fI fd) (mS : mg "super" = none) (hP : P.main.scope = (progOf).main.scope) : FnOk P w K mg base CX0 1 fI fd ["self", "k"] (spSup1 C "k") := by
  obtain ⟨oc, od, osl, kV, doc, pm, an, cda, ct, cc, rfl, lk, hcd, T⟩ := I.fn
  refine fn_sup (ps := ["self", "k"]) (N := ["self", "k"]) (sp := spSup1 C "k") (CX := CX0) (k := 0) lk hcd scIBadCapacity T mS rfl rfl rfl (by rw [hP]; rfl) (by intro _ _ _ _; rfl) ?_ ?_
  · rintro vs H Q E ⟨a, v, rfl, _⟩
    rfl
  · rintro A outer s H vs Q E hr ⟨a, v, rfl, ha, q⟩
    exact ⟨a, [v], _, rfl, ha, pss_one (ps_ost (pv 0) (pv 1)), ⟨_, rfl, _, rfl, a, C, rfl, I.sup.oex, I.no _ (by decide +kernel), .inl ⟨ha, fun d hd hda => q d hd hda⟩⟩⟩
abbrev sIBadCase : Stmt := inClass (top 9) 0
theorem scIBadCase : FnScopeS ["self", "case"] ["self", "case"] (defScope sIBadCase) := ⟨rfl, rfl, rfl, by decide +kernel, rfl, by decide +kernel, by decide +kernel, by decide +kernel, rfl, rfl⟩
theorem bIBadCase {C fI : Addr} {fd : FuncData} (I : Hx.InitF P K mg "BadCase" "BadCase.__init__" sIBadCase ["case"] C fI fd) : Binds K fd ["self", "case"] [] := by
  obtain ⟨oc, od, osl, kV, doc, pm, an, cda, ct, cc, rfl, lk, hcd, T⟩ := I.fn
  exact .all fun us hl => match us, hl with | [_, _], _ => rfl
theorem okIBadCase {C fI : Addr} {fd : FuncData} (I : Hx.InitF P K mg "BadCase" "BadCase.__init__" sIBadCase ["case"] C fI fd) (mS : mg "super" = none) (hP : P.main.scope = (progOf).main.scope) : FnOk P w K mg base CX0 1 fI fd ["self", "case"] (spSup1 C "case") := by
  obtain ⟨oc, od, osl, kV, doc, pm, an, cda, ct, cc, rfl, lk, hcd, T⟩ := I.fn
  refine fn_sup (ps := ["self", "case"]) (N := ["self", "case"]) (sp := spSup1 C "case") (CX := CX0) (k := 0) lk hcd scIBadCase T mS rfl rfl rfl (by rw [hP]; rfl) (by intro _ _ _ _; rfl) ?_ ?_
  · rintro vs H Q E ⟨a, v, rfl, _⟩
    rfl
  · rintro A outer s H vs Q E hr ⟨a, v, rfl, ha, q⟩
    exact ⟨a, [v], _, rfl, ha, pss_one (ps_ost (pv 0) (pv 1)), ⟨_, rfl, _, rfl, a, C, rfl, I.sup.oex, I.no _ (by decide +kernel), .inl ⟨ha, fun d hd hda => q d hd hda⟩⟩⟩
abbrev sITooMany : Stmt := inClass (top 10) 0
theorem scITooMany : FnScopeS ["self", "what", "many", "most"] ["self", "what", "many", "most"] (defScope sITooMany) := ⟨rfl, rfl, rfl, by decide +kernel, rfl, by decide +kernel, by decide +kernel, by decide +kernel, rfl, rfl⟩
theorem bITooMany {C fI : Addr} {fd : FuncData} (I : Hx.InitF P K mg "TooMany" "TooMany.__init__" sITooMany ["what", "many", "most"] C fI fd) : Binds K fd ["self", "what", "many", "most"] [] := by
  obtain ⟨oc, od, osl, kV, doc, pm, an, cda, ct, cc, rfl, lk, hcd, T⟩ := I.fn
  exact .all fun us hl => match us, hl with | [_, _, _, _], _ => rfl
theorem okITooMany {C fI : Addr} {fd : FuncData} (I : Hx.InitF P K mg "TooMany" "TooMany.__init__" sITooMany ["what", "many", "most"] C fI fd) (mS : mg "super" = none) (hP : P.main.scope = (progOf).main.scope) : FnOk P w K mg base CX0 1 fI fd ["self", "what", "many", "most"] (spSup3 C "what" "many" "most") := by
  obtain ⟨oc, od, osl, kV, doc, pm, an, cda, ct, cc, rfl, lk, hcd, T⟩ := I.fn
  refine fn_sup (ps := ["self", "what", "many", "most"]) (N := ["self", "what", "many", "most"]) (sp := spSup3 C "what" "many" "most") (CX := CX0) (k := 0) lk hcd scITooMany T mS rfl rfl rfl (by rw [hP]; rfl) (by intro _ _ _ _; rfl) ?_ ?_
  · rintro vs H Q E ⟨a, u, v, x, rfl, _⟩
    rfl
  · rintro A outer s H vs Q E hr ⟨a, u, v, x, rfl, ha, q⟩
    refine ⟨a, [u, v, x], _, rfl, ha, pss_cons (ps_ost (pv 0) (pv 1)) (pss_cons (ps_ost (pv 0) (pv 2)) (pss_one (ps_ost (pv 0) (pv 3)))), ⟨_, rfl, _, rfl, a, C, rfl, I.sup.oex, I.no _ (by decide +kernel), .inl ⟨ha, fun d hd hda => ?_⟩⟩⟩
    refine ⟨_, rfl, _, rfl, a, C, rfl, I.sup.oex, I.no _ (by decide +kernel), .inr ⟨d, _, upd_same, by rw [upd_ne hda]; exact upd_same, by simp, ?_⟩⟩
    exact ⟨_, rfl, _, rfl, a, C, rfl, I.sup.oex, I.no _ (by decide +kernel), .inr ⟨d, _, by rw [upd_ne (Ne.symm hda)]; exact upd_same, upd_same, by simp, q d hd hda⟩⟩
end
structure Errs (P : Program) (K : PySem.W.Frag) (mg : Str → Option Value) : Prop where
  iBadStyle : ∃ fd, Hx.InitF P K mg "BadStyle" "BadStyle.__init__" sIBadStyle ["style"] (He.ga K "BadStyle") (He.ma K (He.ga K "BadStyle") "__init__") fd
  iBadSum : ∃ fd, Hx.InitF P K mg "BadSum" "BadSum.__init__" sIBadSum ["text"] (He.ga K "BadSum") (He.ma K (He.ga K "BadSum") "__init__") fd
  iBadKind : ∃ fd, Hx.InitF P K mg "BadKind" "BadKind.__init__" sIBadKind ["kind"] (He.ga K "BadKind") (He.ma K (He.ga K "BadKind") "__init__") fd
  iBadLine : ∃ fd, Hx.InitF P K mg "BadLine" "BadLine.__init__" sIBadLine ["line"] (He.ga K "BadLine") (He.ma K (He.ga K "BadLine") "__init__") fd
  iRefused : ∃ fd, Hx.InitF P K mg "Refused" "Refused.__init__" sIRefused ["line"] (He.ga K "Refused") (He.ma K (He.ga K "Refused") "__init__") fd
  iBadCapacity : ∃ fd, Hx.InitF P K mg "BadCapacity" "BadCapacity.__init__" sIBadCapacity ["k"] (He.ga K "BadCapacity") (He.ma K (He.ga K "BadCapacity") "__init__") fd
  iBadCase : ∃ fd, Hx.InitF P K mg "BadCase" "BadCase.__init__" sIBadCase ["case"] (He.ga K "BadCase") (He.ma K (He.ga K "BadCase") "__init__") fd
  iTooMany : ∃ fd, Hx.InitF P K mg "TooMany" "TooMany.__init__" sITooMany ["what", "many", "most"] (He.ga K "TooMany") (He.ma K (He.ga K "TooMany") "__init__") fd
  mS : mg "super" = none
  hP : P.main.scope = (progOf).main.scope
section
variable {P : Program} {K : PySem.W.Frag} {mg : Str → Option Value}
theorem Errs.gBadStyle (ER : Errs P K mg) : mg "BadStyle" = some (.ref (He.ga K "BadStyle")) := let ⟨_, I⟩ := ER.iBadStyle; I.sup.gC
theorem Errs.gBadSum (ER : Errs P K mg) : mg "BadSum" = some (.ref (He.ga K "BadSum")) := let ⟨_, I⟩ := ER.iBadSum; I.sup.gC
theorem Errs.gBadKind (ER : Errs P K mg) : mg "BadKind" = some (.ref (He.ga K "BadKind")) := let ⟨_, I⟩ := ER.iBadKind; I.sup.gC
theorem Errs.gBadLine (ER : Errs P K mg) : mg "BadLine" = some (.ref (He.ga K "BadLine")) := let ⟨_, I⟩ := ER.iBadLine; I.sup.gC
theorem Errs.gRefused (ER : Errs P K mg) : mg "Refused" = some (.ref (He.ga K "Refused")) := let ⟨_, I⟩ := ER.iRefused; I.sup.gC
theorem Errs.gBadCapacity (ER : Errs P K mg) : mg "BadCapacity" = some (.ref (He.ga K "BadCapacity")) := let ⟨_, I⟩ := ER.iBadCapacity; I.sup.gC
theorem Errs.gBadCase (ER : Errs P K mg) : mg "BadCase" = some (.ref (He.ga K "BadCase")) := let ⟨_, I⟩ := ER.iBadCase; I.sup.gC
theorem Errs.gTooMany (ER : Errs P K mg) : mg "TooMany" = some (.ref (He.ga K "TooMany")) := let ⟨_, I⟩ := ER.iTooMany; I.sup.gC
end
end Pk
namespace Pk
open L2 PyProof.Rows PySem.Spec PySem
def STYL : List Str := ["taken", "copied"]
def KINDL : List Str := ["over", "under"]
abbrev PLAINV : List V := [.non, .str "k", .str "cap", .str "low"]
def PLN : List Str := ["left", "own", "right"]
def excB (K : PySem.W.Frag) (D : Addr) : Bool := He.eqO (PySem.W.findIn K (.ref D) "__getattribute__") (some (some (.builtin "BaseException.__getattribute__"))) && (He.eqO (PySem.W.findIn K (.ref D) "__getattr__") (some none) && (decide (PySem.W.subIn K (.ref D) (.type "BaseException") = some true) && (PySem.W.hasDictIn K D &&
  (He.eqO (PySem.W.findIn K (.ref D) "__class__") (some (some (.builtin "object.__class__"))) && (He.eqO (PySem.W.specialIn K (.builtin "object.__class__") "__get__") (some (some (.builtin "getset_descriptor.__get__"))) && (decide (PySem.W.takesIn K (.builtin "object.__class__") = some true) && decide (PySem.W.mroIn K D (.type "object") = some true)))))))
def caseB (K : PySem.W.Frag) : Bool := decide (PySem.W.exmOne K (.ref (He.ga K "BadCase")) (.ref (He.ga K "PageError")) = some true) && (decide (PySem.W.kitOne K (.ref (He.ga K "BadCase")) (.ref (He.ga K "BadCase")) = some true) && excB K (He.ga K "BadCase"))
def fnL : List Hx.DefE := [⟨("BadStyle", some "__init__"), "__init__", "BadStyle.__init__", (inClass (top 3) 0), ["__class__"], []⟩,
  ⟨("BadSum", some "__init__"), "__init__", "BadSum.__init__", (inClass (top 4) 0), ["__class__"], []⟩,
  ⟨("BadKind", some "__init__"), "__init__", "BadKind.__init__", (inClass (top 5) 0), ["__class__"], []⟩,
  ⟨("BadLine", some "__init__"), "__init__", "BadLine.__init__", (inClass (top 6) 0), ["__class__"], []⟩,
  ⟨("Refused", some "__init__"), "__init__", "Refused.__init__", (inClass (top 7) 0), ["__class__"], []⟩,
  ⟨("BadCapacity", some "__init__"), "__init__", "BadCapacity.__init__", (inClass (top 8) 0), ["__class__"], []⟩,
  ⟨("BadCase", some "__init__"), "__init__", "BadCase.__init__", (inClass (top 9) 0), ["__class__"], []⟩,
  ⟨("TooMany", some "__init__"), "__init__", "TooMany.__init__", (inClass (top 10) 0), ["__class__"], []⟩,
  ⟨("_law_draw", none), "_law_draw", "_law_draw", (top 70), [], []⟩,
  ⟨("_law_bag", none), "_law_bag", "_law_bag", (top 69), [], []⟩,
  ⟨("number_of", none), "number_of", "number_of", (top 47), [], []⟩,
  ⟨("term_of", none), "term_of", "term_of", (top 48), [], []⟩,
  ⟨("sum_of", none), "sum_of", "sum_of", (top 49), [], []⟩,
  ⟨("divided", none), "divided", "divided", (top 51), [], []⟩,
  ⟨("is_whole_rules", none), "is_whole", "is_whole", (top 61), [], []⟩,
  ⟨("share_at", none), "share_at", "share_at", (top 65), [], []⟩,
  ⟨("need_capacity", none), "need_capacity", "need_capacity", (top 66), [], []⟩,
  ⟨("read_share", none), "read_share", "read_share", (top 63), [], []⟩,
  ⟨("line_of", none), "line_of", "line_of", (top 64), [], []⟩,
  ⟨("Rules", some "__init__"), "__init__", "Rules.__init__", (inClass (top 67) 0), [], [.bl true]⟩,
  ⟨("Rules", some "bounds"), "bounds", "Rules.bounds", (inClass (top 67) 3), [], []⟩,
  ⟨("Rules", some "in_use"), "in_use", "Rules.in_use", (inClass (top 67) 6), [], []⟩,
  ⟨("side_of", none), "side_of", "side_of", (top 50), [], []⟩,
  ⟨("Reader", some "moving"), "moving", "Reader.moving", (inClass (top 52) 4), [], []⟩,
  ⟨("Reader", some "deed"), "deed", "Reader.deed", (inClass (top 52) 3), [], []⟩,
  ⟨("Reader", some "part"), "part", "Reader.part", (inClass (top 52) 6), [], []⟩,
  ⟨("Reader", some "read_parts"), "read_parts", "Reader.read_parts", (inClass (top 52) 5), [], []⟩,
  ⟨("Reader", some "read_rows"), "read_rows", "Reader.read_rows", (inClass (top 52) 1), [], []⟩,
  ⟨("Reader", some "read_row"), "read_row", "Reader.read_row", (inClass (top 52) 2), [], []⟩,
  ⟨("Reader", some "__init__"), "__init__", "Reader.__init__", (inClass (top 52) 0), [], []⟩,
  ⟨("read", none), "read", "read", (top 53), [], []⟩,
  ⟨("count_ifs", none), "count_ifs", "count_ifs", (top 31), [], []⟩,
  ⟨("marks_of", none), "marks_of", "marks_of", (top 34), [], []⟩,
  ⟨("ways_of", none), "ways_of", "ways_of", (top 32), [], []⟩,
  ⟨("longer_ways", none), "longer_ways", "longer_ways", (top 33), [], []⟩,
  ⟨("too_much", none), "too_much", "too_much", (top 35), [], []⟩,
  ⟨("moves_of", none), "moves_of", "moves_of", (top 36), [], []⟩,
  ⟨("Rules", some "product"), "product", "Rules.product", (inClass (top 67) 5), [], []⟩,
  ⟨("need_limits", none), "need_limits", "need_limits", (top 37), [], []⟩,
  ⟨("Code", some "__init__"), "__init__", "Code.__init__", (inClass (top 57) 0), [], []⟩,
  ⟨("is_whole_play", none), "is_whole", "is_whole", (top 20), [], []⟩,
  ⟨("is_case", none), "is_case", "is_case", (top 22), [], []⟩,
  ⟨("Player", some "lay_pages"), "lay_pages", "Player.lay_pages", (inClass (top 17) 1), [], []⟩,
  ⟨("Player", some "__init__"), "__init__", "Player.__init__", (inClass (top 17) 0), [], []⟩,
  ⟨("Player", some "total"), "total", "Player.total", (inClass (top 17) 6), [], []⟩,
  ⟨("Player", some "count"), "count", "Player.count", (inClass (top 17) 7), [], []⟩,
  ⟨("Player", some "do_row"), "do_row", "Player.do_row", (inClass (top 17) 8), [], []⟩,
  ⟨("Player", some "cut"), "cut", "Player.cut", (inClass (top 17) 10), [], []⟩,
  ⟨("Player", some "join"), "join", "Player.join", (inClass (top 17) 11), [], []⟩,
  ⟨("Player", some "shift"), "shift", "Player.shift", (inClass (top 17) 12), [], []⟩,
  ⟨("Player", some "set_mark"), "set_mark", "Player.set_mark", (inClass (top 17) 13), [], []⟩,
  ⟨("Player", some "play_on"), "play_on", "Player.play_on", (inClass (top 17) 2), [], []⟩,
  ⟨("Player", some "choose"), "choose", "Player.choose", (inClass (top 17) 4), [], []⟩,
  ⟨("Player", some "play_whole"), "play_whole", "Player.play_whole", (inClass (top 17) 3), [], []⟩,
  ⟨("Player", some "told_pages"), "told_pages", "Player.told_pages", (inClass (top 17) 14), [], []⟩,
  ⟨("Player", some "told_separators"), "told_separators", "Player.told_separators", (inClass (top 17) 15), [], []⟩,
  ⟨("many_of", none), "many_of", "many_of", (top 13), [], []⟩,
  ⟨("fits_bounds", none), "fits_bounds", "fits_bounds", (top 12), [], []⟩,
  ⟨("broken_by", none), "broken_by", "broken_by", (top 14), [], []⟩,
  ⟨("Play", some "__init__"), "__init__", "Play.__init__", (inClass (top 19) 0), [], []⟩,
  ⟨("play", none), "play", "play", (top 23), [], []⟩,
  ⟨("_law_told", none), "_law_told", "_law_told", (top 71), [], []⟩,
  ⟨("_law_truths_right", none), "_law_truths_right", "_law_truths_right", (top 72), [], []⟩,
  ⟨("law", none), "law", "law", (top 73), [], []⟩]
def faL : List He.Fa := [.free "int", .free "len", .free "list", .int "MOST_FIGURES" 30, .glo "number_of", .int "MOST_FACTOR" 12, .glo "term_of", .free "tuple", .int "MOST_TERMS" 4, .glo "sum_of", .free "isinstance", .free "bool", .glo "is_whole_rules", .glo "divided", .free "str", .free "any", .int "MOST_SHARE" 6, .free "sum", .glo "read_share", .glo "line_of", .glo "share_at", .glo "need_capacity", .meth "Rules" "bounds", .meth "Reader" "moving", .glo "side_of", .meth "Reader" "part", .int "MOST_PARTS" 4, .meth "Reader" "read_parts", .meth "Reader" "read_rows", .meth "Reader" "read_row", .meth "Reader" "deed", .glo "count_ifs", .glo "marks_of", .glo "longer_ways", .glo "ways_of", .int "MOST_SETTINGS" 2, .int "MOST_DIVISIONS" 2, .int "MOST_PRODUCT" 144, .glo "too_much", .glo "moves_of", .meth "Rules" "product", .free "min", .int "MOST_IFS" 7, .int "MOST_MOVES" 3, .glo "read", .glo "need_limits", .int "MOST_LINES" 40, .glo "is_whole_play", .meth "Rules" "in_use", .free "all", .free "zip", .meth "Player" "lay_pages", .meth "Player" "count", .meth "Player" "total", .meth "Player" "cut", .meth "Player" "join", .meth "Player" "shift", .meth "Player" "set_mark", .meth "Player" "choose", .meth "Player" "do_row", .meth "Player" "play_on", .glo "many_of", .glo "fits_bounds", .meth "Player" "told_pages", .meth "Player" "told_separators", .free "sorted", .glo "is_case", .glo "broken_by", .meth "Player" "play_whole", .glo "play", .glo "PageError", .glo "_law_told", .glo "_law_bag", .glo "_law_draw", .glo "_law_truths_right", .free "range", .free "super", .cls "Rules", .mkr "Rules", .glo "Rules", .noat "Rules" "own_shares", .noat "Rules" "cap_share", .noat "Rules" "low_share", .noat "Rules" "style", .noat "Rules" "cap", .noat "Rules" "low", .noat "Rules" "root", .cls "Code", .mkr "Code", .glo "Code", .noat "Code" "kind", .noat "Code" "rules", .noat "Code" "text", .noat "Code" "own_lines", .noat "Code" "rows", .noat "Code" "own_tables", .cls "Reader", .mkr "Reader", .glo "Reader", .noat "Reader" "texts", .noat "Reader" "line", .cls "Player", .mkr "Player", .glo "Player", .noat "Player" "rows", .noat "Player" "is_taken", .noat "Player" "known", .noat "Player" "order", .noat "Player" "spans", .noat "Player" "marks", .noat "Player" "ended", .noat "Player" "moved", .noat "Player" "used", .noat "Player" "turned", .cls "Play", .mkr "Play", .glo "Play", .noat "Play" "ended", .noat "Play" "pages", .noat "Play" "separators", .noat "Play" "work", .noat "Play" "broken", .noat "Play" "own_names", .noat "Play" "own_lines", .noat "Play" "own_sides", .glo "law"]
def fbL : List (PySem.W.Frag → Bool) := [fun K => Hx.supB progOf K "BadStyle" ["style"],
  fun K => Hx.supB progOf K "BadSum" ["text"],
  fun K => Hx.supB progOf K "BadKind" ["kind"],
  fun K => Hx.supB progOf K "BadLine" ["line"],
  fun K => Hx.supB progOf K "Refused" ["line"],
  fun K => Hx.supB progOf K "BadCapacity" ["k"],
  fun K => Hx.supB progOf K "BadCase" ["case"],
  fun K => Hx.supB progOf K "TooMany" ["what", "many", "most"],
  caseB,
  Hx.tupB "ATOMS" (ATOMSL.map V.str),
  Hx.tupB "FACTORED" (FACTL.map V.str),
  Hx.tupB "STYLES" (STYL.map V.str),
  Hx.tupB "KINDS" (KINDL.map V.str),
  Hx.tupB "REGISTERS" (REGL.map V.str),
  Hx.tupB "PLAIN" PLAINV,
  Hx.tupB "PAGES_reader" (PAGEL.map V.str),
  Hx.tupB "PAGES_player" (PLN.map V.str)]
abbrev RR : PySem.W.OpenRow := PySem.W.OpenLaw.row PySem.Challenge.rw_pagecode_k06_cases_refused
abbrev hkk : PySem.W.Hook := Hx.hookX 5 faL fbL fnL
def ob (s : PySem.W.SharedT) : Hx.AlX := Hx.obsXG 5 faL fbL fnL (HandSHeadRun.getT s)
theorem ob_eq (s : PySem.W.SharedT) : ob s = hkk.obs s.abs := Hx.obsXG_eq (HandSHeadRun.getT_eq s)
abbrev lo0 : List Str := ["_wall", "PageError", "BadStyle", "BadSum", "BadKind", "BadLine", "Refused", "BadCapacity", "BadCase", "TooMany", "fits_bounds", "many_of", "broken_by", "PAGES_player", "Player", "Play", "is_whole", "is_whole_play", "is_case", "play", "MOST_IFS", "MOST_DIVISIONS", "MOST_SETTINGS", "MOST_PRODUCT", "MOST_MOVES"]
abbrev lo1 : List Str := ["PLAIN", "count_ifs", "ways_of", "longer_ways", "marks_of", "too_much", "moves_of", "need_limits", "PAGES_reader", "REGISTERS", "FACTORED", "ATOMS", "MOST_TERMS", "MOST_FIGURES", "MOST_FACTOR", "MOST_PARTS", "number_of", "term_of", "sum_of", "side_of", "divided", "Reader", "read", "KINDS", "MOST_LINES"]
abbrev lo2 : List Str := ["Code", "STYLES", "MOST_SHARE", "is_whole_rules", "read_share", "line_of", "share_at", "need_capacity", "Rules", "_law_bag", "_law_draw", "_law_told", "_law_truths_right"]
abbrev looseL : List Str := lo0 ++ lo1 ++ lo2
theorem run_top (w : World) : HandSHeadRun.RunEq RR (PySem.W.view RR.prog [73]) hkk ob 20000 looseL w := by
  intro os
  kernel_rfl
end Pk
namespace PySem.W
open PyProof.Rows PySem.Calls PySem.Spec PySem
section
variable {prog : Program} {w : World} {A : Around} {E : Value → Shared → Prop} {s : Shared} {K : Frag} {x D : Addr} {ox : Obj} {od : Option Obj}
theorem sx_findObj {C : Addr} {name : Str} {a g : Value} (hc : (clsIn K C).isSome = true) (ha : findIn K (.ref C) name = some (some a)) (hg : specialIn K a "__get__" = some (some g)) (ht : takesIn K a = some true) : findObj K C od name = some (.bind g a) := by
  obtain ⟨cd, hc⟩ := Option.isSome_iff_exists.mp hc; unfold findObj
  rw [hc, Option.bind_some, ha, Option.bind_some]; simp [hg, ht]
theorem sx_classE {Q : Option Value → Shared → Prop} (T : L2.ExcC K D) (X : K.In s.heap) (I : InstAt s.heap x ox D od) (h : Q (some (.ref D)) { s with toks := s.toks + 1 }) : wpAny (model prog w) A (getAttr? (.ref x) "__class__") Q E s := by
  obtain ⟨hga, hgt, hsub, hdct, ha, hn, htk, hm⟩ := T
  have hf : findObj K D od "__class__" = some (.bind (.builtin "getset_descriptor.__get__") (.builtin "object.__class__")) := sx_findObj (by obtain ⟨cd, hc, _⟩ := any_some hdct; rw [hc]; rfl) ha hn htk
  obtain ⟨hp, g, d, t, os⟩ := s
  have l0 := I.type (M := model prog w)
  have l1 := looks_findIn (M := model prog w) X hga
  have l2 := looks_findIn (M := model prog w) X hgt
  have l3 := looks_find (M := model prog w) X I hf
  have sub : Looks (model prog w) hp (isInstance (.ref x) (.type "BaseException")) true := l0.andThen (looks_subIn X hsub)
  have e2 : (Value.builtin "BaseException.__getattribute__" == Value.builtin "object.__getattribute__") = false := by decide +kernel
  have e1 : (onTheHeap (Value.ref D) && Value.builtin "BaseException.__getattribute__" == Value.builtin "object.__getattribute__") = false := by rw [e2]; rfl
  unfold getAttr? getAttrBy? getAttrBy; refine wpAny_bind (wpAny_mkText (wpAny_bind (wpAny_attempt (wpAny_holding (wpAny_bind (l0.at (wpAny_bind (l1.at ?_))))))))
  show wpAny _ _ (if (onTheHeap (Value.ref D) && Value.builtin "BaseException.__getattribute__" == Value.builtin "object.__getattribute__") = true then _ else _) _ _ _; rw [e1, if_neg Bool.false_ne_true]
  unfold getAttrByItsOwn hookBefore; refine wpAny_bind ?_
  rw [if_pos (show onTheHeap (Value.ref D) = true from rfl)]; refine l2.at ?_
  refine wpAny_bind (wpAny_attempt (wpAny_holding ?_)); unfold callGetattribute
  rw [show (false && onTheHeap (Value.builtin "BaseException.__getattribute__")) = false from rfl, if_neg Bool.false_ne_true]
  unfold boundAndCalled
  rw [PySem.F.excAttr_ValueError.ga.bind (.ref x)]; refine wpAny_bind (wpAny_pure ?_)
  show wpAny _ _ (call (.builtin "BaseException.__getattribute__") [.ref x, .str "__class__" t]) _ _ _; refine wpAny_call (codeAny_call_builtin PySem.F.excAttr_ValueError.ga.plain PySem.F.entry_bexc_ga ?_)
  refine @check_slot (model prog w) _ _ ⟨hp, g, d, t + 1, os⟩ "BaseException.__getattribute__" "BaseException" "__getattribute__" (.ref x) [.str "__class__" t] [] _ (by decide +kernel) (by decide +kernel) sub (PySem.F.args_bexc_ga (.ref x) (.str "__class__" t)) ?_; unfold Builtin.«object.__getattribute__»
  refine wpAny_bind (wpAny_of_eq (a := ((Value.ref x : Value), [Value.str "__class__" t])) (by first | rfl | (simp only [slotArgs]; rfl)) ?_); refine wpAny_bind (wpAny_pure (wpAny_bind (l0.at (wpAny_bind (l3.at ?_)))))
  show wpAny _ _ (holding [Value.builtin "object.__class__"] (call (.builtin "getset_descriptor.__get__") [.builtin "object.__class__", .ref x, .ref D]) >>= ret) _ _ _; refine wpAny_bind (wpAny_holding (wpAny_call (class_get (s := ⟨hp, g, d, t + 1, os⟩) (ox := ox) (od := od) X I hm ?_)))
  refine wpAny_pure ?_
  show wpAny _ _ (handedOut (.ref D)) _ _ _; rw [handedOut_of (v := .ref D) rfl]
  first
    | exact wpAny_pure <| wpAny_pure h
    | exact wpAny_pure h
    | exact wpAny_pure <| wpAny_bind <| wpAny_pure <| wpAny_pure h
theorem sx_kitx (T : L2.ExcC K D) : KitX K (.ref x) (.ref D) (fun h => InstAt h x ox D od) where
  ty := fun _ _ _ I => I.type
  it := fun _ _ X _ => by
    obtain ⟨cdD, hcD, _⟩ := any_some T.hd
    unfold clsIn at hcD
    split at hcD
    · rename_i c' d' cd' sl' ho
      intro A' Q' E' s' k q
      unfold isType loadHead; exact wpAny_bind (wpAny_loadPart (k _ _ (X _ _ ho)) (wpAny_pure q))
    · cases hcD
  ne := fun hp tp dd its n sl X htp => by
    obtain ⟨cdD, hcD, _⟩ := any_some T.hd
    refine Bool.eq_false_iff.mpr fun q => ?_; have e : D = tp := Value.ref.inj (beq_iff_eq.mp q)
    subst e
    unfold clsIn at hcD
    split at hcD
    · rename_i c' d' cd' sl' ho
      have z := (X _ _ ho).symm.trans htp; cases z
    · cases hcD
  ca := fun X I k => sx_classE T X I k
end
end PySem.W
namespace L2
open PyProof.Rows PySem.Spec PySem
/-! ### a caught exception, tracked -/
/-- at a: an exception of the class cls, its dict at d -/
def excE (a : Addr) (cls : Value) (d : Option Addr) : HO := .ext fun h => ∃ oe vs, h.get? a = some oe ∧ Zc cls d oe ∧ oe.data = .fields vs
theorem excE_ok {P : Program} {w : World} {H : Hp} {h : Heap} {a : Addr} {cls : Value} {d : Option Addr} {oe : Obj} {vs : Array Value} (he : h.get? a = some oe) (hz : Zc cls d oe) (hd : oe.data = .fields vs) : ObjOk P w H h a (excE a cls d) :=
  ⟨⟨oe, vs, he, hz, hd⟩, ⟨_, he⟩, fun h1 h2 z k => by
    obtain ⟨o, v, q1, q2, q3⟩ := z
    exact ⟨o, v, k _ q1, q2, q3⟩⟩
theorem excE_at {P : Program} {w : World} {H : Hp} {h : Heap} {a : Addr} {cls : Value} {d : Option Addr} (hok : HOk P w H h) (he : H a = some (excE a cls d)) : ∃ oe vs, h.get? a = some oe ∧ Zc cls d oe ∧ oe.data = .fields vs := by
  have x : ObjOk P w H h a (.ext fun h => ∃ oe vs, h.get? a = some oe ∧ Zc cls d oe ∧ oe.data = .fields vs) := hok a _ he
  exact x.1
theorem Inv.track {X : Cx} {pins : List (Addr × Obj)} {σ : St} {H : Hp} {s : Shared} {a : Addr} {o : HO} (I : Inv X pins σ H s) (na : H a = none) (ha0 : X.s_0.heap.get? a = none) (nL : a ≠ X.env.locals) (nC : ∀ x c, X.env.cells.lookup x = some c → c ≠ a) (nP : ∀ p ∈ X.pn ++ pins, p.1 ≠ a)
    (new : ObjOk X.prog X.w (upd H a o) s.heap a o) : Inv X pins σ (upd H a o) s := by
  have n0 : ∀ b u, X.s_0.heap.get? b = some u → b ≠ a := fun b u e z => by rw [z, ha0] at e; cases e
  have nh : ∀ b u, H b = some u → b ≠ a := fun b u e z => by rw [z, na] at e; cases e
  refine ⟨I.ok, I.os, I.bare, ⟨I.base.keep, I.base.slot, fun b u e n hx => ?_, I.base.there, fun b xs e => ?_, fun b u v e => ?_, fun b ps e => ?_⟩, I.loc, I.cell, ?_, fun y c e => ?_, fun p hp => ?_, fun b u e => ?_, I.len⟩
  · rw [upd_ne (n0 b u e)]
    exact I.base.free b u e n hx
  · have q := I.base.tups b xs e; rw [upd_ne (nh b _ q)]
    exact q
  · have q := I.base.frzs b u v e
    rw [upd_ne (nh b _ q)]
    exact q
  · obtain ⟨m, q⟩ := I.base.tbls b ps e; exact ⟨m, by rw [upd_ne (nh b _ q)]; exact q⟩
  · rw [upd_ne (Ne.symm nL)]
    exact I.free
  · rw [upd_ne (nC y c e)]
    exact I.freeC y c e
  · obtain ⟨p1, p2, p3, p4, p5⟩ := I.pin p hp
    exact ⟨p1, by rw [upd_ne (nP p hp)]; exact p2, p3, p4, p5⟩
  · by_cases hb : b = a
    · subst hb
      rw [upd_same] at e
      cases e
      exact new
    · rw [upd_ne hb] at e
      exact (I.hok b u e).stay (fun _ _ _ q => q) (fun c q => by rw [upd_ne (nh c _ q)]; exact q) fun c xs q => by rw [upd_ne (nh c _ q)]; exact q
/-- the context of a suite that holds the exception at a, tracked -/
abbrev Cx.suiteT (X : Cx) (a : Addr) (pn : List (Addr × Obj)) : Cx := { X with A := X.A.mark (some (.ref a)), calm := false, pn := pn, xe := fun _ _ => False }
theorem Inv.suiteT {X : Cx} {pins : List (Addr × Obj)} {σ : St} {H : Hp} {s : Shared} (I : Inv X pins σ H s) (a : Addr) : Inv (X.suiteT a (X.pn ++ pins)) [] σ H s :=
  ⟨I.ok.suite a (X.pn ++ pins), I.os, I.bare, I.base, I.loc, I.cell, I.free, I.freeC, fun p hp => I.pin p (by rw [List.append_nil] at hp; exact hp), I.hok, I.len⟩
theorem Inv.unsuiteT {X : Cx} {pins pn' : List (Addr × Obj)} {σ : St} {H : Hp} {s : Shared} {a : Addr} (I : Inv (X.suiteT a (X.pn ++ pins)) pn' σ H s) (ok : X.Ok) : Inv X pins σ H s :=
  ⟨ok, I.os, I.bare, I.base, I.loc, I.cell, I.free, I.freeC, fun pq hq => I.pin pq (List.mem_append_left _ hq), I.hok, I.len⟩
abbrev Clause := Value × Option Nat × (Addr → TS)
def wAll (K : PySem.W.Frag) (Wout : WX) (D : Ends) : List Clause → WX
  | [] => Wout
  | (c, some i, ts) :: r => fun cls d σ H => ∃ b, PySem.W.exmOne K cls c = some b ∧
      (b = true → ∀ a, H a = none → ts a { nx := fun σ' H' => D.nx (σ'.set i none) H', rt := D.rt, bk := fun σ' H' => D.bk (σ'.set i none) H', ct := fun σ' H' => D.ct (σ'.set i none) H' } (σ.set i (some (.ref a))) (upd H a (excE a cls d))) ∧ (b = false → wAll K Wout D r cls d σ H)
  | (c, none, ts) :: r => fun cls d σ H => ∃ b, PySem.W.exmOne K cls c = some b ∧ (b = true → ∀ a, H a = none → ts a D σ (upd H a (excE a cls d))) ∧ (b = false → wAll K Wout D r cls d σ H)
inductive HdsA (X : Cx) : List ExceptHandler → List Clause → Prop
  | nil : HdsA X [] []
  | only {x : Str} {c : Value} {ts : Addr → TS} {b₀ : Stmt} {suite : List Stmt} {np pos' : Pos} {hds : List ExceptHandler} {l : List Clause} (hc : Names X x c)
      (hsu : ∀ (a : Addr) (pn : List (Addr × Obj)), PSs (X.suiteT a pn) (b₀ :: suite) (ts a)) (r : HdsA X hds l) :
      HdsA X (.ExceptHandler (some (.Name x np)) none (b₀ :: suite) pos' :: hds) ((c, none, ts) :: l)
  | as_ {x n : Str} {c : Value} {i : Nat} {ts : Addr → TS} {b₀ : Stmt} {suite : List Stmt} {np pos' : Pos} {hds : List ExceptHandler} {l : List Clause} (hc : Names X x c) (hi : X.N[i]? = some n) (hln : X.env.kindOf n = some .local)
      (hsu : ∀ (a : Addr) (pn : List (Addr × Obj)), PSs (X.suiteT a pn) (b₀ :: suite) (ts a)) (r : HdsA X hds l) :
      HdsA X (.ExceptHandler (some (.Name x np)) (some n) (b₀ :: suite) pos' :: hds) ((c, some i, ts) :: l)
section
variable {X : Cx} {body : List Stmt} {h₀ : ExceptHandler} {hds : List ExceptHandler} {l : List Clause} {pos : Pos} {tb : WX → TS} {Wout : WX}
theorem ps_try_all (hs : X.stack = X.env :: X.outer) (hf : X.env.frame = some X.env.locals) (hN : X.N.Nodup) (hex : X.ex = []) (tk : Takes X Wout)
    (hb : ∀ (W : WX) (pq : List (Addr × Obj)) (xe : Value → Shared → Prop), Takes (X.tr pq xe) W → PassesOwn (model X.prog X.w) X.A X.env xe → PSs (X.tr pq xe) body (tb W))
    (hh : HdsA X (h₀ :: hds) l) : PS X (.Try body (h₀ :: hds) [] [] pos) (fun D σ H => tb (wAll X.K Wout D l) D σ H) := by
  refine ⟨fun pins s σ H D I h => ?_⟩; have ok := I.ok; have hfr : X.A.frames = some (X.env :: X.outer) := by rw [ok.frames, hs]
  refine wpAny_Try_except ?_
  refine wpAny_mono ((hb (wAll X.K Wout D l) (X.pn ++ pins) (fun e s₁ => wpAny (model X.prog X.w) X.A (noteFrame e X.env) (fun _ s₂ => wpAny (model X.prog X.w) X.A (setFlight e none) (fun _ s₃ =>
    wpAny (model X.prog X.w) X.A (handleBy e X.env (h₀ :: hds)) (SP X pins D) X.xe s₃) X.xe s₂) X.xe s₁) (fun u s' xx => ?_) PassesOwn.looking).run [] s σ H D (I.toTry _) h) (fun f s1 hsp => ?_) (fun _ _ he => he)
  · -- the catch
    obtain ⟨a, B, sI, pins', σ', H', cls, d, rfl, J', nb, up, sky, na, os, ag, w⟩ := xx; have J : Inv X pins σ' H' sI := J'.ofTry ok; have sky' : Sky B (X.env :: X.outer) a (Zc cls d) X.env.locals s'.heap := by rw [← hs]; exact sky
    show wpAny (model X.prog X.w) X.A (noteFrame (.ref a) X.env) _ _ _; refine Sky.land Zc.steady hfr hf sky' fun h3 fl3 up3 => ?_
    have J3 : Inv X pins σ' H' { s' with heap := h3 } := J.landed nb fl3.1 (up.trans up3) os ag; obtain ⟨oe3, vs3, he3, hz3, hd3⟩ := fl3.there; have notFr : ∀ {h : Heap} {o : Obj} {vs : Array Value}, h.FunFrames B (X.env :: X.outer) → h.get? a = some o → o.data = .fields vs → a ∉ frs (X.env :: X.outer) := fun {h o vs} ff e dd hm => by
      obtain ⟨_, o', e', hnf⟩ := ff.mem hm; rw [e] at e'; cases e'
      exact hnf _ dd
    have nfr := notFr fl3.2.2.1 he3 hd3; have nL : a ≠ X.env.locals := fun z => nfr (List.mem_filterMap.mpr ⟨X.env, List.mem_cons_self, by rw [hf, z]⟩)
    have nF : a ∉ X.fs := fun (hm) => by
      obtain ⟨e, he, q⟩ := List.mem_filterMap.mp hm; exact nfr (List.mem_filterMap.mpr ⟨e, List.mem_cons_of_mem _ he, q⟩)
    have S3 := J3.suite he3 hd3 na nL nF; have baN : B.get? a = none := fl3.2.1
    have sIn : sI.heap.get? a = none := by
      cases q : sI.heap.get? a with
      | none => rfl
      | some o =>
        have z := nb a o q (by rw [hs]; exact nfr)
        rw [baN] at z
        cases z
    have ha0 : X.s_0.heap.get? a = none := by
      cases q : X.s_0.heap.get? a with
      | none => rfl
      | some o =>
        obtain ⟨o', q'⟩ := J.base.there a o q (by rw [hex]; simp)
        rw [sIn] at q'
        cases q'
    have nP : ∀ p ∈ X.pn ++ pins, p.1 ≠ a := fun p hp z => by
      obtain ⟨q, _⟩ := J.pin p hp
      rw [z, sIn] at q
      cases q
    have nC : ∀ x c, X.env.cells.lookup x = some c → c ≠ a := fun x c e z => by
      obtain ⟨v, o, q, _⟩ := J.cell x c e
      rw [z, sIn] at q
      cases q
    have LT : PySem.W.Looks (model X.prog X.w) h3 (typeOf (.ref a)) cls := fun A Q E s k q => wpAny_typeOf_ref (k _ _ he3) (by rw [hz3.1]; exact q); have testOf : ∀ {x : Str} {c : Value} {np : Pos}, Names X x c → ∀ {Q : Value → Shared → Prop} {E : Value → Shared → Prop}, Q c { s' with heap := h3 } → wpAny (model X.prog X.w) (X.A.mark (some (.ref a))) (eval (.Name x np) X.env) Q E { s' with heap := h3 } := by
      intro x c np hc Q E q; obtain ⟨hg, hdbg, hm | ⟨hm, hv, hnn⟩⟩ := hc
      · exact (ld_glob (X := X.suite a ((a, oe3) :: (X.pn ++ pins))) S3 hg hm q hdbg)
      · exact (ld_blt (X := X.suite a ((a, oe3) :: (X.pn ++ pins))) S3 hg hm hv q hnn hdbg)
    have go : ∀ {hds' : List ExceptHandler} {l' : List Clause}, HdsA X hds' l' → wAll X.K Wout D l' cls d σ' H' →
        (wpAny (model X.prog X.w) X.A (handleBy (.ref a) X.env hds') (SP X pins D) X.xe { s' with heap := h3 }) := by
      intro hds' l' hk
      induction hk with
      | nil =>
        intro w
        refine wpAny_handleBy_nil ?_
        obtain ⟨k1, k2, k3, oe, vs, T, oT, ts', he, hz, hd, h1, hr⟩ := id fl3; unfold PySem.passOn
        refine wpAny_bind (wpAny_field he hd h1 ?_); rw [if_neg (show ¬ ((Value.ref T == Value.none) = true) from by simp)]
        have fin : (wpAny (model X.prog X.w) X.A (setFlight (.ref a) X.env.frame) (fun _ s4 => wpAny (model X.prog X.w) X.A (throw (.ref a) : Sem Flow) (SP X pins D) X.xe s4) X.xe { s' with heap := h3 }) := by
          rw [hf]
          refine HandSPX.setFlight_upZ fl3 fun h4 hh4 up4 => wpAny_throw (tk _ _ ?_); exact ⟨a, B, sI, pins, σ', H', cls, d, rfl, J, nb, (up.trans up3).trans up4, .inr (.inr (by rw [hs]; exact hh4)), na, os, ag, w⟩
        first
          | exact wpAny_bind <| wpAny_pure <| wpAny_bind fin
          | exact wpAny_bind fin
      | @only x c ts b₀ suite np pos' hds2 l2 hc hsu r ih =>
        intro w
        obtain ⟨b, hb1, hyes, hno⟩ := w; refine wpAny_handleBy_cons (codeAny_handlers_test ?_) (by intro q; cases q)
        have LM := PySem.W.exm_one (M := model X.prog X.w) (J3.kIn) LT hb1; refine testOf hc (LM.here ?_)
        cases b with
        | true =>
          refine codeAny_handlers_suite ?_; refine HandSPX.lands_againZ fl3 fun h4 fl4 up4 => ?_
          have J4 : Inv X pins σ' H' { s' with heap := h4 } := J.landed nb fl4.1 ((up.trans up3).trans up4) os ag; obtain ⟨oe4, vs4, he4, hz4, hd4⟩ := fl4.there
          have S4 := (J4.track na ha0 nL nC nP (excE_ok he4 hz4 hd4)).suiteT a
          refine wpAny_mono ((hsu a (X.pn ++ pins)).run [] _ _ _ _ S4 (hyes rfl a na)) (fun f s6 hsp => ?_) (fun _ _ z => False.elim z)
          cases f with
          | next =>
            obtain ⟨σ6, H6, S6, q6⟩ := hsp; exact ⟨_, _, S6.unsuiteT ok, q6⟩
          | brk =>
            obtain ⟨σ6, H6, S6, q6⟩ := hsp; exact ⟨_, _, S6.unsuiteT ok, q6⟩
          | cont =>
            obtain ⟨σ6, H6, S6, q6⟩ := hsp; exact ⟨_, _, S6.unsuiteT ok, q6⟩
          | ret u =>
            obtain ⟨v6, σ6, H6, S6, r6, q6⟩ := hsp; exact ⟨_, _, _, S6.unsuiteT ok, r6, q6⟩
        | false =>
          show wpAny _ X.A (handleBy (.ref a) X.env hds2) _ _ _; exact ih (hno rfl)
      | @as_ x n c i ts b₀ suite np pos' hds2 l2 hc hi hln hsu r ih =>
        intro w
        obtain ⟨b, hb1, hyes, hno⟩ := w; have hloc : Loc X.env.scope n := .inl hln
        refine wpAny_handleBy_cons (codeAny_handlers_test ?_) (by intro q; cases q); have LM := PySem.W.exm_one (M := model X.prog X.w) (J3.kIn) LT hb1
        refine testOf hc (LM.here ?_)
        cases b with
        | true =>
          refine codeAny_handlers_suite_as ?_; refine HandSPX.lands_againZ fl3 fun h4 fl4 up4 => ?_
          have J4 : Inv X pins σ' H' { s' with heap := h4 } := J.landed nb fl4.1 ((up.trans up3).trans up4) os ag; obtain ⟨oe4, vs4, he4, hz4, hd4⟩ := fl4.there
          have S4 := (J4.track na ha0 nL nC nP (excE_ok he4 hz4 hd4)).suiteT a
          refine store_ok (X := X.suiteT a (X.pn ++ pins)) (v := .ref a) S4 hN hi hloc rfl (fun s5 S5 => ?_) (.inr hln)
          refine wpAny_mono ((hsu a (X.pn ++ pins)).run [] s5 _ _ _ S5 (hyes rfl a na)) (fun f s6 hsp => ?_) (fun _ _ z => False.elim z)
          have end_ : ∀ {σ6 : St} {H6 : Hp} {Q : Shared → Prop}, Inv (X.suiteT a (X.pn ++ pins)) [] σ6 H6 s6 → (∀ s7, Inv X pins (σ6.set i none) H6 s7 → Q s7) →
              wpAny (model X.prog X.w) X.A (do bindName X.env n .none; unbindBehindTheSuite X.env n pos') (fun _ s7 => Q s7) X.xe s6 := fun {σ6 H6 Q} S6 hq => gone_ok (S6.unsuiteT ok) hN hi hln hq
          cases f with
          | next =>
            obtain ⟨σ6, H6, S6, q6⟩ := hsp; exact end_ S6 fun s7 J7 => ⟨_, _, J7, q6⟩
          | brk =>
            obtain ⟨σ6, H6, S6, q6⟩ := hsp; exact end_ S6 fun s7 J7 => ⟨_, _, J7, q6⟩
          | cont =>
            obtain ⟨σ6, H6, S6, q6⟩ := hsp; exact end_ S6 fun s7 J7 => ⟨_, _, J7, q6⟩
          | ret u =>
            obtain ⟨v6, σ6, H6, S6, r6, q6⟩ := hsp; exact end_ S6 fun s7 J7 => ⟨_, _, _, J7, r6, q6⟩
        | false =>
          show wpAny _ X.A (handleBy (.ref a) X.env hds2) _ _ _; exact ih (hno rfl)
    exact go hh w
  · cases f with
    | next =>
      obtain ⟨σ', H', J', q⟩ := hsp; exact wpAny_execs_nil ⟨σ', H', J'.ofTry ok, q⟩
    | brk =>
      obtain ⟨σ', H', J', q⟩ := hsp; exact ⟨σ', H', J'.ofTry ok, q⟩
    | cont =>
      obtain ⟨σ', H', J', q⟩ := hsp; exact ⟨σ', H', J'.ofTry ok, q⟩
    | ret u =>
      obtain ⟨v, σ', H', J', r, q⟩ := hsp; exact ⟨v, σ', H', J'.ofTry ok, r, q⟩
end
theorem takes_noX {X : Cx} : Takes X (fun _ _ _ _ => False) := fun _ _ ⟨_, _, _, _, _, _, _, _, _, _, _, _, _, _, _, _, w⟩ => w.elim
/-! ### in a suite, and wherever such an exception is held -/
/-- e.f -/
def tXfT (K : PySem.W.Frag) (f : Str) (te : TE) : TE := fun σ H Q => te σ H fun x H1 => ∃ (a C d : Addr) (fs : List (Str × V)) (v : V), x = .ref a ∧ H1 a = some (excE a (.ref C) (some d)) ∧ H1 d = some (.xd fs) ∧ XfC K C ∧ PySem.W.findIn K (.ref C) f = some none ∧ fs.lookup f = some v ∧ Q v H1
theorem pe_xfT {X : Cx} {e : Expr} {te : TE} {pos : Pos} {n : Str} (he : PE X e te) (hb : attributeBase e n X.env (eval e X.env) = eval e X.env := by rfl) : PE X (.Attribute e n pos) (tXfT X.K n te) := by
  refine ⟨fun pins s σ H Q I h => ?_⟩; refine attr_of hb (thn (he.run pins s σ H _ I h) fun u s1 hh => ?_)
  obtain ⟨x, H1, I1, rx, a, C, dd, fs, v, ex, ea, ed, T, hno, l, q⟩ := hh
  subst ex
  obtain rfl : u = Value.ref a := rx; obtain ⟨oe, vs, ha, hz, hd⟩ := excE_at I1.hok ea
  have hx : ObjOk X.prog X.w H1 s1.heap dd (.xd fs) := I1.hok dd _ ed
  obtain ⟨mA, hns, hr⟩ := hx
  obtain ⟨od, ho, hl⟩ := lookIn_ns hns; obtain ⟨u, hu, ru⟩ := RelO.some_of (v := v) (o := mA n) (by rw [← l]; exact hr n); have J : PySem.W.InstAt s1.heap a oe C (some od) := ⟨ha, hz.1, by unfold PySem.W.notCls; rw [hd] <;> rfl, by rw [hz.2]; exact ho⟩
  exact HandSPX.exc_get I1.kIn J T.ga T.gg T.exC (PySem.W.findObj_own T.hdC hno rfl (by rw [hl, hu])) (handed_of ru) (⟨v, H1, I1.tok _, ru, q⟩)
/-- isinstance(e, c) -/
def rIsT (K : PySem.W.Frag) : List V → Hp → VK → Prop := fun xs H Q => ∃ (a D : Addr) (d : Option Addr) (c : V) (cv : Value) (b : Bool), xs = [.ref a, c] ∧ H a = some (excE a (.ref D) d) ∧ (∀ dd, d = some dd → ∃ fs, H dd = some (.xd fs)) ∧ ExcC K D ∧ (∀ u, RelV c u → u = cv) ∧ PySem.W.kitOne K (.ref D) cv = some b ∧ Q (.bl b) H
theorem call_isT {X : Cx} : CallR X (.builtin "isinstance") (rIsT X.K) := by
  intro pins s σ H xs us Q I r h; obtain ⟨a, D, d, c, cv, b, rfl, ha, hd, C, hcv, e, q⟩ := h
  cases r with
  | cons rx rr =>
    cases rr with
    | cons rt rr =>
      cases rr
      cases rx
      have ec := hcv _ rt
      subst ec
      obtain ⟨oe, vs, hget, hz, hv⟩ := excE_at I.hok ha
      have J : ∃ od, PySem.W.InstAt s.heap a oe D od := by
        cases d with
        | none => exact ⟨none, hget, hz.1, by unfold PySem.W.notCls; rw [hv] <;> rfl, by rw [hz.2]; trivial⟩
        | some dd =>
          obtain ⟨fs, hx⟩ := hd dd rfl
          have hx' : ObjOk X.prog X.w H s.heap dd (.xd fs) := I.hok dd _ hx
          obtain ⟨mA, hns, hr⟩ := hx'
          obtain ⟨od, ho, hl⟩ := lookIn_ns hns; exact ⟨some od, hget, hz.1, by unfold PySem.W.notCls; rw [hv] <;> rfl, by rw [hz.2]; exact ho⟩
      obtain ⟨od, J⟩ := J
      exact PySem.W.kia_one (PySem.W.sx_kitx C) I.kIn J e (fun z => nomatch z) fun tk => ⟨.bl b, H, I.kept (t' := tk) fun _ _ z => z, rfl, q⟩
end L2
namespace L2
open PyProof.Rows PySem.Spec PySem
/-! ### rules whose reading names the written part K itself (wanted within comprehensions, where the context depends on what is bound) -/
section
variable {X : Cx}
theorem pg_tupK (K : PySem.W.Frag) (e : X.K = K) {es : List Expr} {k : Nat} {t : TGs} {n : Nat} {pos : Pos} (hc : X.calm = true) (h : PGs X es t) (hn : (assignEach es X.env).length = n := by rfl) (hst : (assignEach es X.env).findIdx? (·.1) = none := by rfl) : PG X (.Tuple es k pos) (gTup K n t) := by
  subst e
  exact pg_tup hc h hn hst
theorem ix_listK (K : PySem.W.Frag) (e : X.K = K) : IxR X (rIxL K) := by
  subst e
  exact ix_list
theorem ix_tupK (K : PySem.W.Frag) (e : X.K = K) : IxR X (rIxT K) := by
  subst e
  exact ix_tup
theorem op_inK (K : PySem.W.Frag) (e : X.K = K) : OpR X (compareOp .In) (rIn K false) := by
  subst e
  exact op_in_seq
theorem op_notInK (K : PySem.W.Frag) (e : X.K = K) : OpR X (compareOp .NotIn) (rIn K true) := by
  subst e
  exact op_notIn_seq
theorem op_eqDK (K : PySem.W.Frag) (e : X.K = K) (hu : X.A.units + 64 < cLine) : OpR X (compareOp .Eq) (rEqD K) := by
  subst e
  exact op_eqD hu
theorem op_neDK (K : PySem.W.Frag) (e : X.K = K) (hu : X.A.units + 64 < cLine) : OpR X (compareOp .NotEq) (rNeD K) := by
  subst e
  exact op_neD hu
theorem sl_listK (K : PySem.W.Frag) (e : X.K = K) : SlR X (rSlL K) := by
  subst e
  exact sl_list
end
/-! ### a dict comprehension over a list that stays -/
theorem dc_list {K : PySem.W.Frag} {a : Addr} {xs : List V} {g : TG} {tt : TT} {tk tv : TE} {vs : List Nat} {σ : St} {H1 : Hp} {D : Addr} {Qd : Hp → Prop} (Pv : Nat → Hp → Prop) (h0 : Pv 0 (upd H1 D (.dK []))) (hl : ∀ i H, i ≤ xs.length → Pv i H → SqL K H a xs)
    (step : ∀ i x H, xs[i]? = some x → Pv i H → g x (wipe σ vs) H fun σ2 H2 => wipe σ2 vs = wipe σ vs ∧ tt σ2 H2 fun b H3 => if b = true then tk σ2 H3 fun y H4 => tv σ2 H4 fun z H5 => ∃ kvs k, y = kV k ∧ H5 D = some (.dK kvs) ∧ kvs.length < sizeLine ∧ Pv (i + 1) (upd H5 D (.dK (putK kvs k z))) else Pv (i + 1) H3)
    (hd : ∀ H, Pv xs.length H → Qd H) : ∃ W : Nat → Nat → Hp → Prop, (∃ m, W 0 m (upd H1 D (.dK []))) ∧ ∀ i m H, W i m H → ((Itl K a).stop i H ∧ Qd H) ∨ ((Itl K a).go i H ∧ ∃ Nx : Hp → Prop, (∀ H', Nx H' → ∃ m', m' < m ∧ W (i + 1) m' H') ∧ ∀ x H', (Itl K a).yld i H x H' → g x (wipe σ vs) H' fun σ2 H2 => wipe σ2 vs = wipe σ vs ∧ tt σ2 H2 fun b H3 =>
        if b = true then (tk σ2 H3 fun y H4 => tv σ2 H4 fun z H5 => ∃ kvs k, y = kV k ∧ H5 D = some (.dK kvs) ∧ kvs.length < sizeLine ∧ Nx (upd H5 D (.dK (putK kvs k z)))) else Nx H3) := by
  refine ⟨fun i m H => m = xs.length - i ∧ i ≤ xs.length ∧ Pv i H, ⟨xs.length, (Nat.sub_zero _).symm, Nat.zero_le _, h0⟩, fun i m H ⟨em, hi, p⟩ => ?_⟩
  have q := hl i H hi p
  rcases Nat.lt_or_ge i xs.length with lt | ge
  · refine .inr ⟨⟨xs, xs[i], q, List.getElem?_eq_getElem lt⟩, Pv (i + 1), fun H' p' => ⟨xs.length - (i + 1), by omega, rfl, lt, p'⟩, fun x H' yl => ?_⟩
    obtain ⟨e, y⟩ := yl
    subst e
    exact step i x _ (y xs q) p
  · have e : i = xs.length := Nat.le_antisymm hi ge
    subst e; exact .inl ⟨⟨xs, q, Nat.le_refl _⟩, hd H p⟩
theorem Same.step {H H1 : Hp} {p : Addr} {o : HO} (s : Same H H1) (h : H1 p = none) : Same H (upd H1 p o) := fun a u e => same_new h a u (s a u e)
theorem Same.back {H H1 : Hp} {p : Addr} (s : Same H H1) (h : H1 p = none) : H p = none := s.free h
end L2
namespace L2
open PyProof.Rows PySem.Spec PySem
/-! ### C(..) of a plain class whose __init__ may raise: what is raised is wished for at the caller's slots -/
def tMakeS (C : Addr) (sp : Sp) (dvs : List V) (E : St → XK) (t : TA) : TE := fun σ H Q => t σ H fun vs H1 => ∀ x dx, H1 x = none → H1 dx = none → dx ≠ x → sp (.ref x :: (vs ++ dvs)) (upd (upd H1 dx (.own x)) x (.ins C dx [])) (fun v H2 => v = .non ∧ Q (.ref x) H2) (E σ)
section
variable {X : Cx} {CX : CXT} {k : Nat} {f C : Addr} {fd : FuncData} {ps : List Str} {sp : Sp} {dvs : List V} {ds : List Value} {E : St → XK} {x : Str} {p pos : Pos} {e : Expr} {es : List Expr} {t : TA}
theorem mk_slots {pins : List (Addr × Obj)} {σ : St} {H : Hp} {s : Shared} {Q : VK} {us : List Value} {vs : List V} {XE0 : XK} (M : Mk X.K C f) (F : FnOk X.prog X.w X.K X.mg X.base CX k f fd ps sp) (hr : Room (k + 1) X.A) (hb : Binds X.K fd ps ds) (hd : Vals dvs ds) (hx : PassesAt CX X σ XE0)
    (I : Inv X pins σ H s) (rel : Vals vs us) (wish : ∀ o d, H o = none → H d = none → d ≠ o → sp (.ref o :: (vs ++ dvs)) (upd (upd H d (.own o)) o (.ins C d [])) (fun v H2 => v = .non ∧ Q (.ref o) H2) XE0) : wpAny (model X.prog X.w) X.A (call (.ref C) us) (EP X pins σ Q) X.xe s := by
  let d := s.heap.objs.size
  have w0 := wish (d + 1) d (I.hok.fresh (Nat.le_succ _)) (I.hok.fresh (Nat.le_refl _)) (Nat.ne_of_lt (Nat.lt_succ_self d))
  have J := Inv.made (C := C) I
  have rr : Vals (V.ref (d + 1) :: (vs ++ dvs)) (Value.ref (d + 1) :: (us ++ ds)) := .cons rfl (rel.append hd)
  have len : (Value.ref (d + 1) :: us ++ ds).length = ps.length := (rr.length.symm.trans (F.len _ _ _ _ w0))
  have body := F.run _ X.stack _ _ ⟨Value.ref (d + 1) :: us, []⟩ (Value.ref (d + 1) :: (us ++ ds)) _ _ XE0 (hr.make C us []) (J.env0.make C us []) (hb _ (Value.ref (d + 1) :: us) J.kIn len) rr w0
  refine wpAny_call (make_map (f := f) I.kIn M.makes M.init (beq_iff_eq.mp M.fn) (codeAny_mono body fun r s' out => ?_))
  rcases r with er | fl
  · exact hx pins _ _ er s' J out
  · cases fl with
    | ret u =>
      obtain ⟨v, H', J', rv, ev, q⟩ := J.after out
      subst ev
      exact ⟨rv, V.ref (d + 1), H', J', rfl, q⟩
    | next => exact out.elim
    | brk => exact out.elim
    | cont => exact out.elim
theorem pe_makeS (M : Mk X.K C f) (F : FnOk X.prog X.w X.K X.mg X.base CX k f fd ps sp) (hr : Room (k + 1) X.A) (hg : Gl X x) (hm : X.mg x = some (.ref C)) (hb : Binds X.K fd ps ds) (hd : Vals dvs ds) (hx : ∀ σ, PassesAt CX X σ (E σ)) (ha : PA X (e :: es) t) (hdb : (x == ("__debug__" : Str)) = false := by decide)
    (he : starEach (e :: es) X.env = (false, eval e X.env) :: starEach es X.env := by rfl) (hpl : (backTo pos (starEach es X.env)).any (·.1) = false := by rfl) : PE X (.Call (.Name x p) (e :: es) [] pos) (tMakeS C sp dvs E t) := by
  refine ⟨fun pins s σ H Q I h => wpAny_Call_Name_kw (ld_glob I hg hm (PySem.W.callWith_K (h₀ := X.base) I.ok.mod.kin M.kp (thn (ha.run pos pins s σ H _ I h) fun us s1 z => ?_) he hpl) hdb)⟩
  obtain ⟨vs, H1, I1, rel, q⟩ := z
  exact ⟨I1.kIn, mk_slots M F hr hb hd (hx σ) I1 rel q⟩
/-- a callee that is known to raise nothing here -/
theorem passF {X : Cx} : Passes (L2.CX X.prog X.w) X (fun _ _ _ => False) := fun pins σ H s e s' I c => passAt (takes_noX (X := X)) σ pins H s e s' I c
end
end L2
namespace Pk
open L2 PyProof.Rows PySem.Spec PySem
abbrev sNum : Stmt := top 47
abbrev sTerm : Stmt := top 48
abbrev sSumOf : Stmt := top 49
abbrev sDiv : Stmt := top 51
def natV : Option Nat → V
  | some n => .int n
  | none => .non
def nameV : Option Str → V
  | some s => .str s
  | none => .non
def spNum : Sp := fun vs H Q _ => ∃ w : Str, vs = [.str w] ∧ w.length ≤ 1000000 ∧ Q (natV (numM w)) H
theorem sign_zero {c : Nat} (h : V.str ⟨#[c]⟩ = V.str "0") : c = 48 := by
  have q := congrArg (fun z : Str => z.cps.toList) (V.str.inj h)
  have q2 : [c] = [48] := q
  exact (List.cons.inj q2).1
section
variable {K : PySem.W.Frag} {P : Program} {w : World} {base : Heap} {mg : Str → Option Value}
theorem sc_number_of : FnScope ["word"] ["word"] (defScope sNum) := ⟨rfl, rfl, rfl, by decide +kernel, rfl, by decide +kernel, by decide +kernel⟩
theorem ok_number_of {f : Addr} {fd : FuncData} (F : FunD K "number_of" "number_of" (defArgs sNum) (defBody sNum) (defScope sNum) [] [] f fd) (mLen : mg "len" = none) (mInt : mg "int" = none) (gMF : ∃ u, mg "MOST_FIGURES" = some u ∧ RelV (.int 30) u) : FnOk P w K mg base CX0 1 f fd ["word"] spNum := by
  refine F.ok sc_number_of (fun vs H Q E h => ?_) (fun cdv A outer s H vs Q E hr h => ?_)
  · obtain ⟨x, rfl, _⟩ := h
    rfl
  · obtain ⟨x, rfl, hx, q⟩ := h
    have big : x.length ≤ sizeLine := Nat.le_trans hx (by decide)
    refine ⟨_, PSs.nox (pss_cons (by exact (ps_if (PW.pt (pw_or (pt_not (pt_val (pe_m0 PySem.F.slot_str_isascii PySem.F.type_str_isascii mt_isascii (pv 0)))) (pw_or (pt_not (pt_val (pe_m0 PySem.F.slot_str_isdigit PySem.F.type_str_isdigit mt_isdigit (pv 0)))) (pw_or (pt_cmpR op_gt (pe_callB call_len_str (by rfl) mLen PySem.boot_len (pa_cons (pv 0) pa_nil)) (C8.pe_gc (v := .int 30) rfl gMF) (nomark _)) (pw_or1 (PW.pt (pw_and (pt_cmpR op_gt (pe_callB call_len_str (by rfl) mLen PySem.boot_len (pa_cons (pv 0) pa_nil)) pe_int (nomark _)) (pw_and1 (pt_cmpR op_eq (pe_ix ix_str (pv 0) pe_int (fun _ _ => rfl)) pe_str (nomark _)))))))))) (pss_one (by exact (ps_ret pe_non))) pss_nil)) (pss_one (by exact (ps_ret (pe_callTy call_int_str (by rfl) mInt (by decide +kernel) (pa_cons (pv 0) pa_nil)))))), ?_⟩
    have bad : okNum x = false → Q .non H := fun e => by
      have z : numM x = none := by
        unfold numM
        rw [e]
        rfl
      rw [z] at q
      exact q
    refine ⟨_, rfl, ⟨_, rfl⟩, _, rfl, rfl, trivial, _, rfl, ite2 (fun e1 => ?_) fun e1 => ?_⟩
    · exact iteT (bad (by unfold okNum; simp only [Bool.not_eq_true'] at e1; rw [e1, Bool.false_and]))
    have f1 : Txt.isascii x = true := by simpa using e1
    refine ⟨_, rfl, ⟨_, rfl⟩, _, rfl, rfl, trivial, _, rfl, ite2 (fun e2 => ?_) fun e2 => ?_⟩
    · exact iteT (bad (by unfold okNum; simp only [Bool.not_eq_true'] at e2; rw [f1, e2, Bool.false_and, Bool.and_false]))
    have f2 : Txt.isdigit x = true := by simpa using e2
    refine ⟨_, rfl, _, rfl, big, _, _, rfl, rfl, _, rfl, ite2 (fun e3 => ?_) fun e3 => ?_⟩
    · have g3 : (30 : Int) < (x.length : Int) := of_decide_eq_true e3
      exact iteT (bad (by unfold okNum; rw [decide_eq_false (show ¬ x.length ≤ 30 by omega), Bool.false_and, Bool.and_false, Bool.and_false]))
    have f3 : x.length ≤ 30 := by
      have g3 : ¬ (30 : Int) < (x.length : Int) := fun z => e3 (decide_eq_true z)
      omega
    have fin : okNum x = true → (∃ a n, [V.str x] = [V.str a] ∧ PySem.intText? a = some n ∧ a.length ≤ 640 ∧ Q (V.int n) H) := fun e => by
      have z : numM x = some (NumText.digitsVal x.cps.toList) := by
        unfold numM
        rw [if_pos e]
      rw [z] at q
      obtain ⟨z1, z2⟩ := numM_int z
      exact ⟨x, _, rfl, z1, by omega, q⟩
    refine ⟨_, rfl, _, rfl, big, _, _, rfl, rfl, _, rfl, ite2 (fun e4 => ?_) fun e4 => iteF ⟨_, rfl, fin ?_⟩⟩
    · have g4 : (1 : Int) < (x.length : Int) := of_decide_eq_true e4
      have l0 : x.length = x.cps.toList.length := by simp [Str.length]
      have lt : 0 < x.cps.toList.length := by omega
      refine ⟨_, rfl, x, 0, x.cps.toList[0], rfl, rfl, big, atI_nat (j := 0) (List.getElem?_eq_getElem lt), rfl, _, rfl, ite2 (fun e5 => ?_) fun e5 => ?_⟩
      · refine bad ?_
        have k5 := sign_zero (of_decide_eq_true e5)
        unfold okNum
        rw [decide_eq_true (show 1 < x.length by omega), decide_eq_true (show x.cps.toList[0]? = some 48 by rw [List.getElem?_eq_getElem lt, k5]), Bool.and_self, Bool.not_true, Bool.and_false, Bool.and_false, Bool.and_false]
      · refine ⟨_, rfl, fin ?_⟩
        have k5 : ¬ x.cps.toList[0]? = some 48 := fun z => e5 (decide_eq_true (by rw [List.getElem?_eq_getElem lt] at z; rw [Option.some.inj z]; rfl))
        unfold okNum
        rw [f1, f2, decide_eq_true f3, decide_eq_false k5, Bool.and_false, Bool.not_false] <;> rfl
    · have g4 : ¬ (1 : Int) < (x.length : Int) := fun z => e4 (decide_eq_true z)
      unfold okNum
      rw [f1, f2, decide_eq_true f3, decide_eq_false (show ¬ 1 < x.length by omega), Bool.false_and, Bool.not_false] <;> rfl
def spTerm (K : PySem.W.Frag) : Sp := fun vs H Q _ => ∃ (a : Addr) (ws : List Str), vs = [.ref a] ∧ SqL K H a (ws.map V.str) ∧ (∀ w ∈ ws, w.length ≤ 1000000) ∧ (termM ws = none → Q .non H) ∧
  ∀ n f, termM ws = some (n, f) → ∀ t, H t = none → Q (.ref t) (upd H t (.tup [.int (n : Nat), nameV f]))
theorem inV_strs {x : Str} : ∀ {l : List Str}, inV (V.str x) (l.map V.str) = decide (x ∈ l)
  | [] => by simp [inV]
  | y :: l => by
    have q := inV_strs (x := x) (l := l)
    unfold inV at q ⊢
    rw [List.map_cons, List.any_cons, q]
    have e : eqV (V.str y) (V.str x) = decide (y = x) := by
      unfold eqV
      rfl
    rw [e]
    by_cases h : x = y
    · subst h
      simp
    · have h2 : ¬ y = x := fun z => h z.symm
      simp [h, h2]
theorem flat_strs {l : List Str} : (l.map V.str).all flatV = true := by
  rw [List.all_eq_true]
  intro v hv
  obtain ⟨s, _, rfl⟩ := List.mem_map.mp hv
  rfl
section
variable {K : PySem.W.Frag} {P : Program} {w : World} {base : Heap} {mg : Str → Option Value}
theorem sc_term_of : FnScope ["words"] ["words"] (defScope sTerm) := ⟨rfl, rfl, rfl, by decide +kernel, rfl, by decide +kernel, by decide +kernel⟩
theorem ok_term_of {f fN : Addr} {fd fdN : FuncData} (F : FunD K "term_of" "term_of" (defArgs sTerm) (defBody sTerm) (defScope sTerm) [] [] f fd) (FN : FunD K "number_of" "number_of" (defArgs sNum) (defBody sNum) (defScope sNum) [] [] fN fdN)
    (GN : FnOk P w K mg base CX0 1 fN fdN ["word"] spNum) (gN : mg "number_of" = some (.ref fN)) (mLen : mg "len" = none) (gMF : ∃ u, mg "MOST_FACTOR" = some u ∧ RelV (.int 12) u)
    {aA aF : Addr} (gA : ∃ u, mg "ATOMS" = some u ∧ RelV (.ref aA) u) (gF : ∃ u, mg "FACTORED" = some u ∧ RelV (.ref aF) u) (tA : ∀ H, SqT K H aA (ATOMSL.map V.str)) (tF : ∀ H, SqT K H aF (FACTL.map V.str)) : FnOk P w K mg base CX0 2 f fd ["words"] (spTerm K) := by
  have bN : Binds K fdN ["word"] [] := FN.bindsN fun _ _ _ _ _ _ us hl => match us, hl with | [_], _ => rfl
  refine F.ok sc_term_of (fun vs H Q E h => ?_) (fun cdv A outer s H vs Q E hr h => ?_)
  · obtain ⟨a, ws, rfl, _⟩ := h
    rfl
  · obtain ⟨a, ws, rfl, hS, hw, q0, q1⟩ := h
    refine ⟨_, PSs.nox (pss_cons (by exact (ps_if (PW.pt (pw_and (pt_cmpR op_eq (pe_callB call_len_seq (by rfl) mLen PySem.boot_len (pa_cons (pv 0) pa_nil)) pe_int (nomark _)) (pw_and1 (pt_cmpR (op_inK K rfl) (pe_ix (ix_listK K rfl) (pv 0) pe_int (fun _ _ => rfl)) (C8.pe_gc (v := .ref aA) rfl gA) rfl)))) (pss_one (by exact (ps_ret (pe_tup (pa_cons pe_int (pa_cons (pe_ix (ix_listK K rfl) (pv 0) pe_int (fun _ _ => rfl)) pa_nil)))))) pss_nil)) (pss_cons (by exact (ps_if (PW.pt (pw_and (pt_cmpR op_eq (pe_callB call_len_seq (by rfl) mLen PySem.boot_len (pa_cons (pv 0) pa_nil)) pe_int (nomark _)) (pw_and1 (pt_cmp (pc_notN (pe_call GN (hr.mono (by decide)) rfl gN FN.kp bN .nil pass0 (pa_cons (pe_ix (ix_listK K rfl) (pv 0) pe_int (fun _ _ => rfl)) pa_nil))))))) (pss_one (by exact (ps_ret (pe_tup (pa_cons (pe_call GN (hr.mono (by decide)) rfl gN FN.kp bN .nil pass0 (pa_cons (pe_ix (ix_listK K rfl) (pv 0) pe_int (fun _ _ => rfl)) pa_nil)) (pa_cons pe_non pa_nil)))))) pss_nil)) (pss_cons (by exact (ps_if (PW.pt (pw_or (pt_cmpR op_ne (pe_callB call_len_seq (by rfl) mLen PySem.boot_len (pa_cons (pv 0) pa_nil)) pe_int (nomark _)) (pw_or (pt_cmpR op_ne (pe_ix (ix_listK K rfl) (pv 0) pe_int (fun _ _ => rfl)) pe_str (nomark _)) (pw_or (pt_cmpR (op_notInK K rfl) (pe_ix (ix_listK K rfl) (pv 0) pe_int (fun _ _ => rfl)) (C8.pe_gc (v := .ref aF) rfl gF) rfl) (pw_or1 (pt_cmp (pc_isN (pe_call GN (hr.mono (by decide)) rfl gN FN.kp bN .nil pass0 (pa_cons (pe_ix (ix_listK K rfl) (pv 0) pe_int (fun _ _ => rfl)) pa_nil))))))))) (pss_one (by exact (ps_ret pe_non))) pss_nil)) (pss_one (by exact (ps_ret (pe_ifExp (pt_chain op_le op_le pe_int (pe_call GN (hr.mono (by decide)) rfl gN FN.kp bN .nil pass0 (pa_cons (pe_ix (ix_listK K rfl) (pv 0) pe_int (fun _ _ => rfl)) pa_nil)) (C8.pe_gc (v := .int 12) rfl gMF)) (pe_tup (pa_cons (pe_call GN (hr.mono (by decide)) rfl gN FN.kp bN .nil pass0 (pa_cons (pe_ix (ix_listK K rfl) (pv 0) pe_int (fun _ _ => rfl)) pa_nil)) (pa_cons (pe_ix (ix_listK K rfl) (pv 0) pe_int (fun _ _ => rfl)) pa_nil))) pe_non))))))), ?_⟩
    have hlen : (ws.map V.str).length = ws.length := List.length_map ..
    have isn : ∀ n : Nat, V.int ((ws.map V.str).length : Nat) = V.int (n : Nat) → ws.length = n := fun n e => by
      have z := V.int.inj e
      omega
    have nis : ∀ n : Nat, ws.length = n → V.int ((ws.map V.str).length : Nat) = V.int (n : Nat) := fun n e => by rw [hlen, e]
    refine ⟨_, rfl, a, _, rfl, .inl hS, rfl, _, rfl, ite2 (fun e => ?_) fun e => ?_⟩
    · obtain ⟨w0, rfl⟩ := List.length_eq_one_iff.mp (isn 1 (of_decide_eq_true e))
      refine ⟨_, rfl, a, _, _, .str w0, rfl, rfl, hS, rfl, aA, _, rfl, .inr (tA _), rfl, flat_strs, _, rfl, ite2 (fun e2 => ?_) fun e2 => ?_⟩
      · have m : w0 ∈ ATOMSL := of_decide_eq_true (inV_strs.symm.trans e2)
        refine ⟨_, rfl, a, _, _, .str w0, rfl, rfl, hS, rfl, by show 2 ≤ sizeLine; decide, fun t ht => q1 1 (some w0) ?_ t ht⟩
        rw [termM_1, if_pos m]
      have m : ¬ w0 ∈ ATOMSL := fun z => e2 (inV_strs.trans (decide_eq_true z))
      have tm : termM [w0] = (numM w0).map fun n => (n, none) := by
        rw [termM_1, if_neg m]
      refine ⟨_, rfl, a, _, rfl, .inl hS, rfl, _, rfl, ite2 (fun _ => ?_) (fun z => absurd e z)⟩
      refine ⟨_, rfl, a, _, _, .str w0, rfl, rfl, hS, rfl, w0, rfl, hw w0 (by simp), ?_⟩
      rcases hn : numM w0 with _ | n
      · have q0' := q0 (by rw [tm, hn]; rfl)
        refine ⟨_, rfl, ite2 (fun z => nomatch z) fun _ => ?_⟩
        have e3 : (1 : Int) ≠ 3 := by decide
        refine ⟨_, rfl, a, _, rfl, .inl hS, rfl, _, rfl, ite2 (fun _ => q0') fun z => absurd rfl z⟩
      · refine ⟨_, rfl, ite2 (fun _ => ?_) fun z => absurd rfl z⟩
        refine ⟨_, rfl, a, _, _, .str w0, rfl, rfl, hS, rfl, w0, rfl, hw w0 (by simp), ?_⟩
        rw [hn]
        exact ⟨by show 2 ≤ sizeLine; decide, fun t ht => q1 n none (by rw [tm, hn]; rfl) t ht⟩
    · have n1 : ws.length ≠ 1 := fun z => e (decide_eq_true (nis 1 z))
      refine ⟨_, rfl, a, _, rfl, .inl hS, rfl, _, rfl, ite2 (fun z => absurd z e) fun _ => ?_⟩
      refine ⟨_, rfl, a, _, rfl, .inl hS, rfl, _, rfl, ite2 (fun e3 => ?_) fun e3 => ?_⟩
      · exact q0 (termM_x n1 fun z => by rw [decide_eq_true (show V.int ((ws.map V.str).length : Nat) = V.int 3 from nis 3 z)] at e3; cases e3)
      have l3 := isn 3 (Classical.byContradiction fun z => e3 (by rw [decide_eq_false (show ¬ V.int ((ws.map V.str).length : Nat) = V.int 3 from z)]; rfl))
      obtain ⟨w0, w1, w2, rfl⟩ : ∃ w0 w1 w2, ws = [w0, w1, w2] := by
        rcases ws with _ | ⟨a0, _ | ⟨a1, _ | ⟨a2, _ | ⟨a3, r⟩⟩⟩⟩
        · cases l3
        · cases l3
        · cases l3
        · exact ⟨a0, a1, a2, rfl⟩
        · cases l3
      have tm := termM_3 w0 w1 w2
      refine ⟨_, rfl, a, _, _, .str w1, rfl, rfl, hS, rfl, rfl, _, rfl, ite2 (fun e4 => ?_) fun e4 => ?_⟩
      · have k4 : ¬ w1 = "*" := fun z => by rw [z] at e4; exact absurd e4 (by decide)
        exact q0 (by rw [tm, if_neg fun z => k4 z.1])
      have k4 : w1 = "*" := by
        have z := Classical.byContradiction fun z => e4 (show (!decide (V.str w1 = V.str "*")) = true by rw [decide_eq_false z]; rfl)
        exact V.str.inj z
      refine ⟨_, rfl, a, _, _, .str w2, rfl, rfl, hS, rfl, aF, _, rfl, .inr (tF _), rfl, flat_strs, _, rfl, ite2 (fun e5 => ?_) fun e5 => ?_⟩
      · have k5 : ¬ w2 ∈ FACTL := fun z => by
          have y : (!inV (V.str w2) (FACTL.map V.str)) = true := e5
          rw [inV_strs, decide_eq_true z] at y
          cases y
        exact q0 (by rw [tm, if_neg fun z => k5 z.2])
      have k5 : w2 ∈ FACTL := Classical.byContradiction fun z => e5 (show (!inV (V.str w2) (FACTL.map V.str)) = true by rw [inV_strs, decide_eq_false z]; rfl)
      rw [if_pos ⟨k4, k5⟩] at tm
      refine ⟨_, rfl, a, _, _, .str w0, rfl, rfl, hS, rfl, w0, rfl, hw w0 (by simp), ?_⟩
      rcases hn : numM w0 with _ | n
      · exact ⟨_, rfl, q0 (by rw [tm, hn])⟩
      refine ⟨_, rfl, ?_⟩
      refine ⟨_, rfl, a, _, _, .str w0, rfl, rfl, hS, rfl, w0, rfl, hw w0 (by simp), ?_⟩
      rw [hn]
      refine ⟨_, _, rfl, rfl, _, rfl, ite2 (fun e6 => ?_) fun e6 => ?_⟩
      · have k6 : (2 : Int) ≤ (n : Int) := of_decide_eq_true e6
        refine ⟨_, _, rfl, rfl, _, rfl, ite2 (fun e7 => ?_) fun e7 => ?_⟩
        · have k7 : (n : Int) ≤ 12 := of_decide_eq_true e7
          refine ⟨_, rfl, a, _, _, .str w0, rfl, rfl, hS, rfl, w0, rfl, hw w0 (by simp), ?_⟩
          rw [hn]
          refine ⟨_, rfl, a, _, _, .str w2, rfl, rfl, hS, rfl, by show 2 ≤ sizeLine; decide, fun t ht => q1 n (some w2) ?_ t ht⟩
          rw [tm, hn]
          exact if_pos ⟨by omega, by omega⟩
        · have k7 : ¬ (n : Int) ≤ 12 := fun z => e7 (decide_eq_true z)
          refine q0 ?_
          rw [tm, hn]
          exact if_neg (by omega)
      · have k6 : ¬ (2 : Int) ≤ (n : Int) := fun z => e6 (decide_eq_true z)
        refine ⟨_, rfl, q0 ?_⟩
        rw [tm, hn]
        exact if_neg (by omega)
end
end
end Pk
namespace Pk
open L2 PyProof.Rows PySem.Spec PySem
abbrev TAt (H : Hp) (r : Addr) (t : Term) : Prop := H r = some (.tup [.int t.1, nameV t.2])
def spSum (K : PySem.W.Frag) : Sp := fun vs H Q _ => ∃ (a : Addr) (ws : List Str), vs = [.ref a] ∧ SqL K H a (ws.map V.str) ∧ ws.length ≤ 1000000 ∧ (∀ w ∈ ws, w.length ≤ 1000000) ∧ (sumM ws = none → ∀ H', Same H H' → Q .non H') ∧
  ∀ ts, sumM ws = some ts → ∀ p refs H', Same H H' → H p = none → H' p = some (.tup (refs.map V.ref)) → Paired (TAt H') refs ts → Q (.ref p) H'
theorem _root_.L2.Same.paired {H H' : Hp} (s : Same H H') {refs : List Addr} {ts : List Term} (h : Paired (TAt H) refs ts) : Paired (TAt H') refs ts := L2.Paired.mapP h fun _ _ e => s _ _ e
structure SumI (K : PySem.W.Frag) (ws : List Str) (H0 : Hp) (fa ta la : Addr) (i : Nat) (refs : List Addr) (found : List Term) (term : List Str) (sign : Int) (H : Hp) : Prop where
  same : Same H0 H
  nf : H0 fa = none
  nt : H0 ta = none
  nl : H0 la = none
  ft : fa ≠ ta
  lf : la ≠ fa
  lt : la ≠ ta
  hf : H fa = some (.lst (refs.map V.ref))
  ht : H ta = some (.lst (term.map V.str))
  hl : H la = some (.lst ((ws ++ [("+" : Str)]).map V.str))
  pr : Paired (TAt H) refs found
  go : sumGo ((ws ++ [("+" : Str)]).drop i) found term sign = sumGo (ws ++ [("+" : Str)]) [] [] 1
  sg : sign = 1 ∨ sign = -1
  tl : ∀ x ∈ term, x.length ≤ 1000000
  t1 : term.length ≤ i
  f1 : refs.length ≤ i
theorem SumI.upT {K ws H0 fa ta la i refs found term sign H} (I : SumI K ws H0 fa ta la i refs found term sign H) {t : Addr} {xs : List V} (h : H t = none) : SumI K ws H0 fa ta la i refs found term sign (upd H t (.tup xs)) :=
  have s := same_new (o := .tup xs) h
  ⟨I.same.trans s, I.nf, I.nt, I.nl, I.ft, I.lf, I.lt, s _ _ I.hf, s _ _ I.ht, s _ _ I.hl, s.paired I.pr, I.go, I.sg, I.tl, I.t1, I.f1⟩
theorem paired_app {α β : Type} {F : α → β → Prop} : ∀ {a c : List α} {b d : List β}, Paired F a b → Paired F c d → Paired F (a ++ c) (b ++ d)
  | _, _, _, _, .nil, y => y
  | _, _, _, _, .cons h r, y => .cons h (paired_app r y)
theorem paired_len {α β : Type} {F : α → β → Prop} : ∀ {a : List α} {b : List β}, Paired F a b → b.length = a.length
  | _, _, .nil => rfl
  | _, _, .cons _ r => congrArg Nat.succ (paired_len r)
theorem paired_at {α β : Type} {F : α → β → Prop} : ∀ {a : List α} {b : List β} {i : Nat} {x : α}, Paired F a b → a[i]? = some x → ∃ y, b[i]? = some y ∧ F x y
  | _, _, _, _, .nil, e => (by simp at e)
  | _, _, 0, _, .cons h _, e => by
    cases e
    exact ⟨_, rfl, h⟩
  | _, _, i + 1, _, .cons _ r, e => paired_at (i := i) r e
theorem ref_item {ws : List Addr} {i : Nat} {y : V} (h : (ws.map V.ref)[i]? = some y) : ∃ z, ws[i]? = some z ∧ y = .ref z := by
  rw [List.getElem?_map] at h
  cases e : ws[i]? with
  | none => (rw [e] at h; cases h)
  | some z => rw [e] at h; exact ⟨z, rfl, (Option.some.inj h).symm⟩
theorem namesT_app (a b : List Term) : namesT (a ++ b) = namesT a ++ namesT b := List.filterMap_append ..
theorem namesT_len (a : List Term) : (namesT a).length ≤ a.length := List.length_filterMap_le ..
theorem put_addS (ks : List Str) (x : Str) : putK (ks.map fun s => ((Sum.inr s : Key), V.bl true)) (.inr x) (.bl true) = (addS ks x).map fun s => ((Sum.inr s : Key), V.bl true) := by
  have a : ((ks.map fun s => ((Sum.inr s : Key), V.bl true)).any fun kv => decide (kv.1 = Sum.inr x)) = decide (x ∈ ks) := by
    rw [List.any_map]
    induction ks with
    | nil => rfl
    | cons k r ih =>
      rw [List.any_cons, ih]
      by_cases h : k = x
      · subst h
        simp
      · have h2 : ¬ x = k := fun z => h z.symm
        simp [h, h2]
  unfold putK addS
  rw [a]
  by_cases h : x ∈ ks
  · rw [if_pos (decide_eq_true h), if_pos h, List.map_map]
    refine List.map_congr_left fun s _ => ?_
    show (if (Sum.inr s : Key) = Sum.inr x then ((Sum.inr s : Key), V.bl true) else ((Sum.inr s : Key), V.bl true)) = _
    split <;> rfl
  · rw [if_neg (by simpa using h), if_neg h, List.map_append]
    rfl
theorem str_item {ws : List Str} {i : Nat} {y : V} (h : (ws.map V.str)[i]? = some y) : ∃ z, ws[i]? = some z ∧ y = .str z := by
  rw [List.getElem?_map] at h
  cases e : ws[i]? with
  | none => (rw [e] at h; cases h)
  | some z => rw [e] at h; exact ⟨z, rfl, (Option.some.inj h).symm⟩
theorem drop_item {ws : List Str} {i : Nat} {z : Str} (h : ws[i]? = some z) : ws.drop i = z :: ws.drop (i + 1) := by
  obtain ⟨hlt, e⟩ := List.getElem?_eq_some_iff.mp h
  rw [List.drop_eq_getElem_cons hlt, e]
theorem SumI.apT {K ws H0 fa ta la i refs found term sign H} (I : SumI K ws H0 fa ta la i refs found term sign H) {x : Str} (hx : (ws ++ [("+" : Str)])[i]? = some x) (hl : x.length ≤ 1000000) (n1 : ¬ (x = "+" ∨ x = "-")) :
    SumI K ws H0 fa ta la (i + 1) refs found (term ++ [x]) sign (upd H ta (.lst (term.map V.str ++ [.str x]))) := by
  have st : ∀ b o, b ≠ ta → H b = some o → upd H ta (.lst (term.map V.str ++ [.str x])) b = some o := fun b o n e => by rw [upd_ne n]; exact e
  have sm : Same H0 (upd H ta (.lst (term.map V.str ++ [.str x]))) := fun b o e => st b o (fun z => by
    rw [z, I.nt] at e
    cases e) (I.same b o e)
  have pr : Paired (TAt (upd H ta (.lst (term.map V.str ++ [.str x])))) refs found := L2.Paired.mapP I.pr fun r t e => st _ _ (ne_of e I.ht (by
    intro z
    cases z)) e
  refine ⟨sm, I.nf, I.nt, I.nl, I.ft, I.lf, I.lt, st _ _ I.ft I.hf, ?_, st _ _ I.lt I.hl, pr, ?_, I.sg, fun y hy => ?_, ?_, Nat.le_succ_of_le I.f1⟩
  · rw [upd_same, List.map_append]
    rfl
  · rw [← I.go, drop_item hx]
    show _ = sumGo _ _ _ _
    rw [sumGo, if_neg n1]
  · rcases List.mem_append.mp hy with y' | y'
    · exact I.tl y y'
    · rw [List.mem_singleton.mp y']
      exact hl
  · rw [List.length_append]
    exact Nat.succ_le_succ I.t1
theorem SumI.apF {K ws H0 fa ta la i refs found term sign H} (I : SumI K ws H0 fa ta la i refs found term sign H) {x : Str} (hx : (ws ++ [("+" : Str)])[i]? = some x) (n1 : x = "+" ∨ x = "-") {n : Nat} {f : Option Str} (ht : termM term = some (n, f)) {p tb : Addr}
    (hp : H p = some (.tup [.int (sign * n), nameV f])) (hb : upd H fa (.lst (refs.map V.ref ++ [.ref p])) tb = none) :
    SumI K ws H0 fa tb la (i + 1) (refs ++ [p]) (found ++ [(sign * n, f)]) [] (if x = "+" then 1 else -1) (upd (upd H fa (.lst (refs.map V.ref ++ [.ref p]))) tb (.lst [])) := by
  have st : ∀ b o, b ≠ fa → H b = some o → upd (upd H fa (.lst (refs.map V.ref ++ [.ref p]))) tb (.lst []) b = some o := fun b o n e => same_new hb _ _ (by rw [upd_ne n]; exact e)
  have bf : fa ≠ tb := fun z => by
    rw [← z, upd_same] at hb
    cases hb
  have sm : Same H0 (upd (upd H fa (.lst (refs.map V.ref ++ [.ref p]))) tb (.lst [])) := fun b o e => st b o (fun z => by
    rw [z, I.nf] at e
    cases e) (I.same b o e)
  refine ⟨sm, I.nf, ?_, I.nl, bf, I.lf, ?_, ?_, upd_same, st _ _ I.lf I.hl, ?_, ?_, ?_, fun _ h => (by cases h), Nat.zero_le _, ?_⟩
  · cases e : H0 tb with
    | none => rfl
    | some o =>
      have q := I.same _ _ e
      rw [upd_ne (Ne.symm bf), q] at hb
      cases hb
  · intro z
    have q := I.hl
    rw [z] at q
    rw [upd_ne (Ne.symm bf), q] at hb
    cases hb
  · rw [upd_ne bf, upd_same, List.map_append]
    rfl
  · have old : Paired (TAt (upd (upd H fa (.lst (refs.map V.ref ++ [.ref p]))) tb (.lst []))) refs found := L2.Paired.mapP I.pr fun r t e => st _ _ (ne_of e I.hf (by
      intro z
      cases z)) e
    have new : Paired (TAt (upd (upd H fa (.lst (refs.map V.ref ++ [.ref p]))) tb (.lst []))) [p] [(sign * (n : Int), f)] := .cons (st _ _ (ne_of hp I.hf (by intro z; cases z)) hp) .nil
    exact paired_app old new
  · rw [← I.go, drop_item hx]
    show _ = sumGo _ _ _ _
    rw [sumGo, if_pos n1, ht]
  · split
    · exact .inl rfl
    · exact .inr rfl
  · rw [List.length_append]
    exact Nat.succ_le_succ I.f1
theorem SumI.no {K ws H0 fa ta la i refs found term sign H} (I : SumI K ws H0 fa ta la i refs found term sign H) {x : Str} (hx : (ws ++ [("+" : Str)])[i]? = some x) (n1 : x = "+" ∨ x = "-") (ht : termM term = none) : sumM ws = none := by
  have q := I.go
  rw [drop_item hx, sumGo, if_pos n1, ht] at q
  unfold sumM
  rw [← q]
section
variable {K : PySem.W.Frag} {P : Program} {w : World} {base : Heap} {mg : Str → Option Value}
theorem sc_sum_of : FnScope ["words", "found", "term", "sign", "word", "pair", "names", "factor", "name"] ["words"] (defScope sSumOf) := ⟨rfl, rfl, rfl, by decide +kernel, rfl, by decide +kernel, by decide +kernel⟩
theorem ok_sum_of {f fT : Addr} {fd fdT : FuncData} (F : FunD K "sum_of" "sum_of" (defArgs sSumOf) (defBody sSumOf) (defScope sSumOf) [] [] f fd) (FT : FunD K "term_of" "term_of" (defArgs sTerm) (defBody sTerm) (defScope sTerm) [] [] fT fdT)
    (GT : FnOk P w K mg base CX0 2 fT fdT ["words"] (spTerm K)) (gT : mg "term_of" = some (.ref fT)) (mLen : mg "len" = none) (mTuple : mg "tuple" = none) (gMT : ∃ u, mg "MOST_TERMS" = some u ∧ RelV (.int 4) u) : FnOk P w K mg base CX0 3 f fd ["words"] (spSum K) := by
  have bT : Binds K fdT ["words"] [] := FT.bindsN fun _ _ _ _ _ _ us hl => match us, hl with | [_], _ => rfl
  refine F.ok sc_sum_of (fun vs H Q E h => ?_) (fun cdv A outer s H vs Q E hr h => ?_)
  · obtain ⟨a, ws, rfl, _⟩ := h
    rfl
  · obtain ⟨a, ws, rfl, hS, hl, hw, q0, q1⟩ := h
    refine ⟨_, PSs.nox (pss_cons (by exact (ps_par3 (i := 1) (j := 2) (l := 3) rfl sc_sum_of.nd rfl rfl rfl (by decide) (by decide) (by decide) rfl rfl rfl (pa_cons (pe_lst pa_nil) (pa_cons (pe_lst pa_nil) (pa_cons pe_int pa_nil))) rfl)) (pss_cons (by exact (ps_for PassesOwn.never rfl (pi_list (pe_lst (StX.pa_star (pv 0) (pa_cons pe_str pa_nil)))) (pg_name (i := 4) sc_sum_of.nd rfl (Or.inl rfl)) (pss_cons (by exact (ps_if (pt_cmpR (op_notInK K rfl) (pv 4) (pe_tup (pa_cons pe_str (pa_cons pe_str pa_nil))) rfl) (pss_cons (by exact (ps_expr (pe_bm PySem.F.plainAttrs_list PySem.F.slot_list_append PySem.F.type_list_append mt_append (pv 2) (pa_cons (pv 4) pa_nil)))) (pss_one (by exact ps_continue))) pss_nil)) (pss_cons (by exact (ps_set (i := 5) sc_sum_of.nd rfl (Or.inl rfl) (pe_call GT (hr.mono (by decide)) rfl gT FT.kp bT .nil pass0 (pa_cons (pv 2) pa_nil)))) (pss_cons (by exact (ps_if (pt_cmp (pc_isN (pv 5))) (pss_one (by exact (ps_ret pe_non))) pss_nil)) (pss_cons (by exact (ps_expr (pe_bm PySem.F.plainAttrs_list PySem.F.slot_list_append PySem.F.type_list_append mt_append (pv 1) (pa_cons (pe_tup (pa_cons (pe_op op_mulW (pv 3) (pe_ix (ix_tupK K rfl) (pv 5) pe_int (fun _ _ => rfl))) (pa_cons (pe_ix (ix_tupK K rfl) (pv 5) pe_int (fun _ _ => rfl)) pa_nil))) pa_nil)))) (pss_one (by exact (ps_par (i := 2) (j := 3) rfl sc_sum_of.nd rfl rfl (by decide) rfl rfl (pa_cons (pe_lst pa_nil) (pa_cons (pe_ifExp (pt_cmpR op_eq (pv 4) pe_str (nomark _)) pe_int (pe_un un_neg pe_int)) pa_nil)) rfl))))))))) (pss_cons (by exact (ps_setLc (i := 6) (own := [("factor", 7), ("name", 8)]) rfl sc_sum_of.nd rfl rfl (sw_true rfl rfl rfl (by decide +kernel)) (pi_list (pv 1)) (blkOk_by (N := ["words", "found", "term", "sign", "word", "pair", "names", "factor", "name"]) (sc := defScope sSumOf) (by decide +kernel)) (fun _ _ _ _ _ => pg_tupK (n := 2) K rfl rfl (pgs_cons (pg_name (i := 7) sc_sum_of.nd rfl (Or.inl rfl)) (pgs_cons (pg_name (i := 8) sc_sum_of.nd rfl (Or.inl rfl)) pgs_nil))) (fun _ _ _ _ _ => (pts_one (pt_cmp (pc_notN (pv 8))))) (fun _ _ _ _ _ => (pv 8)))) (pss_one (by exact (ps_ret (pe_ifExp (PW.pt (pw_and (pt_cmpR op_le (pe_callB call_len_seq (by rfl) mLen PySem.boot_len (pa_cons (pv 1) pa_nil)) (C8.pe_gc (v := .int 4) rfl gMT) (nomark _)) (pw_and1 (pt_cmpR op_eq (pe_callB call_lenD (by rfl) mLen PySem.boot_len (pa_cons (pe_dc (own := [("name", 8)]) (g := gName 8) (tt := tYes) rfl sc_sum_of.nd (pi_list (pv 6)) (blkOk_by (N := ["words", "found", "term", "sign", "word", "pair", "names", "factor", "name"]) (sc := defScope sSumOf) (by decide +kernel)) (fun _ _ _ _ _ => pg_name (i := 8) sc_sum_of.nd rfl (Or.inl rfl)) (fun _ _ _ _ _ => pts_nil) (fun _ _ _ _ _ => (pv 8)) (fun _ _ _ _ _ => pe_bl)) pa_nil)) (pe_callB call_len_seq (by rfl) mLen PySem.boot_len (pa_cons (pv 6) pa_nil)) (nomark _))))) (pe_callTy call_tuple_of (by rfl) mTuple (by decide +kernel) (pa_cons (pv 1) pa_nil)) pe_non))))))), ?_⟩
    refine ⟨by show 0 ≤ sizeLine; decide, fun fa hfa => ⟨by show 0 ≤ sizeLine; decide, fun ta hta => ?_⟩⟩
    refine ⟨_, _, _, rfl, ?_⟩
    have s1 : Same H _ := same_new (o := .lst []) hfa
    have s2 : Same H _ := s1.trans (same_new (o := .lst []) hta)
    refine ⟨_, rfl, a, _, rfl, .inr (s2.stands.l hS), by show (ws.map V.str ++ [V.str "+"]).length ≤ sizeLine; rw [List.length_append, List.length_map]; exact Nat.le_trans (Nat.succ_le_succ hl) (by decide), fun la hla => ?_⟩
    have lenw : ((ws ++ [("+" : Str)]).map V.str).length ≤ 1000001 := by
      rw [List.length_map, List.length_append]
      exact Nat.succ_le_succ hl
    have eqL : ws.map V.str ++ [V.str "+"] = (ws ++ [("+" : Str)]).map V.str := by
      rw [List.map_append]
      rfl
    rw [eqL]
    refine ⟨la, rfl, ⟨_, SqL.of upd_same⟩, for_list (K := K) (a := la) (xs := (ws ++ [("+" : Str)]).map V.str) (fun i σ H' => ∃ (refs : List Addr) (found : List Term) (term : List Str) (sign : Int) (ta : Addr) (v4 v5 v6 v7 v8 : Option V), σ = [some (.ref a), some (.ref fa), some (.ref ta), some (.int sign), v4, v5, v6, v7, v8] ∧ SumI K ws H fa ta la i refs found term sign H') ?_ ?_ ?_ ?_⟩
    · have tf : ta ≠ fa := fun z => by
        rw [z, upd_same] at hta
        cases hta
      have lf : la ≠ fa := fun z => by
        rw [z, upd_ne (Ne.symm tf), upd_same] at hla
        cases hla
      have lt : la ≠ ta := fun z => by
        rw [z, upd_same] at hla
        cases hla
      have nt : H ta = none := by
        rw [upd_ne tf] at hta
        exact hta
      have nl : H la = none := by
        rw [upd_ne lt, upd_ne lf] at hla
        exact hla
      refine ⟨[], [], [], 1, ta, none, none, none, none, none, rfl, s2.step hla, hfa, nt, nl, Ne.symm tf, lf, lt, ?_, ?_, upd_same, .nil, rfl, .inl rfl, fun _ h => (by cases h), Nat.zero_le _, Nat.zero_le _⟩
      · rw [upd_ne (Ne.symm lf), upd_ne (Ne.symm tf)]
        exact upd_same
      · rw [upd_ne (Ne.symm lt)]
        exact upd_same
    · rintro i σ H' _ ⟨_, _, _, _, _, _, _, _, _, _, _, I⟩
      exact SqL.of I.hl
    · rintro i y σ H1 hi ⟨refs, found, term, sign, tc, v4, v5, v6, v7, v8, rfl, I0⟩
      obtain ⟨x, hx, rfl⟩ := str_item hi
      have hil : i ≤ 1000000 := by
        obtain ⟨q, _⟩ := List.getElem?_eq_some_iff.mp hi
        omega
      have xl : x.length ≤ 1000000 := by
        have m := List.mem_of_getElem? hx
        rcases List.mem_append.mp m with m | m
        · exact hw x m
        · rw [List.mem_singleton.mp m]
          decide
      refine ⟨_, rfl, by show 2 ≤ sizeLine; decide, fun tt htt => ?_⟩
      have I := I0.upT (xs := [V.str "+", V.str "-"]) htt
      refine ⟨tt, _, rfl, .inr (SqT.of upd_same), rfl, rfl, _, rfl, ite2 (fun e => ?_) fun e => ?_⟩
      · have n1 : ¬ (x = "+" ∨ x = "-") := fun z => by
          have y : (!inV (V.str x) ([("+" : Str), ("-" : Str)].map V.str)) = true := e
          rw [inV_strs, decide_eq_true (by rcases z with z | z <;> simp [z])] at y
          cases y
        refine ⟨_, rfl, .inl ⟨rfl, _, SqL.of I.ht⟩, _, rfl, tc, _, .str x, rfl, rfl, I.ht, ?_, ?_⟩
        · rw [List.length_map]
          exact Nat.lt_of_le_of_lt I.t1 (Nat.lt_of_le_of_lt hil (by decide))
        · exact ⟨refs, found, _, sign, tc, _, _, _, _, _, rfl, I.apT hx xl n1⟩
      · have n1 : x = "+" ∨ x = "-" := Classical.byContradiction fun z => e (show (!inV (V.str x) ([("+" : Str), ("-" : Str)].map V.str)) = true by
          rw [inV_strs, decide_eq_false (by simpa using z)]
          rfl)
        refine ⟨_, rfl, tc, term, rfl, SqL.of I.ht, I.tl, fun e0 => ?_, fun n g e1 t ht => ?_⟩
        · exact ⟨_, rfl, _, rfl, iteT (q0 (I.no hx n1 e0) _ I.same)⟩
        · refine ⟨_, rfl, _, rfl, iteF ?_⟩
          have J := I.upT (xs := [.int (n : Nat), nameV g]) ht
          have nlt := termM_lt e1
          have mb : CMulW sign (n : Int) := wide_mul (a := 2) (b := 200) (by rcases I.sg with z | z <;> rw [z] <;> decide) (Nat.lt_trans nlt (by decide)) (by decide) (by decide) (by decide)
          refine ⟨_, rfl, .inl ⟨rfl, _, SqL.of J.hf⟩, _, rfl, _, rfl, t, _, _, .int (n : Nat), rfl, rfl, SqT.of upd_same, rfl, _, _, rfl, rfl, mb, ?_⟩
          refine ⟨_, rfl, t, _, _, nameV g, rfl, rfl, SqT.of upd_same, rfl, by show 2 ≤ sizeLine; decide, fun p hp => ?_⟩
          have L := J.upT (xs := [.int (sign * (n : Nat)), nameV g]) hp
          refine ⟨fa, _, .ref p, rfl, rfl, L.hf, ?_, ?_⟩
          · rw [List.length_map]
            exact Nat.lt_of_le_of_lt L.f1 (Nat.lt_of_le_of_lt hil (by decide))
          refine ⟨by show 0 ≤ sizeLine; decide, fun tb htb => ?_⟩
          have fin := L.apF hx n1 e1 upd_same htb
          refine ⟨_, rfl, rfl, _, rfl, ite2 (fun e2 => ?_) fun e2 => ?_⟩
          · have e3 : x = "+" := V.str.inj (of_decide_eq_true e2)
            rw [if_pos e3] at fin
            exact ⟨_, _, rfl, _, _, _, 1, tb, _, _, _, _, _, rfl, fin⟩
          · have e3 : ¬ x = "+" := fun z => e2 (decide_eq_true (by rw [z]))
            rw [if_neg e3] at fin
            exact ⟨_, rfl, _, _, rfl, _, _, _, -1, tb, _, _, _, _, _, rfl, fin⟩
    · rintro σ H1 ⟨refs, found, term, sign, tc, v4, v5, v6, v7, v8, rfl, I⟩
      have go := I.go
      rw [List.drop_eq_nil_of_le (by rw [List.length_map]; exact Nat.le_refl _), sumGo] at go
      have lr : refs.length ≤ 1000001 := by have := I.f1; omega
      have lf : found.length = refs.length := paired_len I.pr
      refine ⟨_, rfl, fa, rfl, ⟨_, SqL.of I.hf⟩, fun D hD => lc_list (K := K) (a := fa) (xs := refs.map V.ref) (fun i H' => Same H1 H' ∧ H' D = some (.lst ((namesT (found.take i)).map V.str))) ⟨same_new hD, by rw [upd_same]; rfl⟩ (fun i H' _ h => SqL.of (h.1 _ _ I.hf)) ?_ ?_⟩
      · intro i y H' hi hp
        obtain ⟨r, hr1, rfl⟩ := ref_item hi
        obtain ⟨g, hg, hg2⟩ := paired_at I.pr hr1
        have tk : found.take (i + 1) = found.take i ++ [g] := by
          rw [List.take_succ, hg]
          rfl
        have st : ∀ acc, Same H1 (upd H' D (.lst acc)) := fun acc b o e => by
          rw [upd_ne (fun z => by rw [z, hD] at e; cases e)]
          exact hp.1 b o e
        refine ⟨r, [.int g.1, nameV g.2], rfl, SqT.of (hp.1 _ _ hg2), rfl, _, _, rfl, _, _, rfl, rfl, rfl, ?_⟩
        obtain ⟨g1, g2⟩ := g
        cases g2 with
        | none =>
          refine ⟨_, rfl, _, rfl, ?_⟩
          refine ⟨hp.1, ?_⟩
          rw [tk, namesT_app, show namesT [((g1, none) : Term)] = [] from rfl, List.append_nil]
          exact hp.2
        | some nm =>
          refine ⟨_, rfl, _, rfl, ?_⟩
          refine ⟨_, rfl, _, hp.2, ?_, st _, ?_⟩
          · rw [List.length_map]
            exact Nat.lt_of_le_of_lt (Nat.le_trans (namesT_len _) (by rw [List.length_take]; omega)) (show 1000001 < sizeLine by decide)
          · rw [upd_same, tk, namesT_app, List.map_append]
            rfl
      · intro H2 hp
        have e1 : found.take (refs.map V.ref).length = found := by
          rw [List.length_map, ← lf]
          exact List.take_length ..
        rw [e1] at hp
        obtain ⟨sm, hn⟩ := hp
        have sF := I.same.trans sm
        have bad : sumOk found = false → sumM ws = none := fun z => by
          unfold sumM
          rw [← go]
          show (if sumOk found = true then some found else none) = none
          rw [z]
          rfl
        refine ⟨_, rfl, fa, _, rfl, .inl (SqL.of (sm _ _ I.hf)), _, _, rfl, rfl, _, rfl, ite2 (fun e4 => ?_) fun e4 => ?_⟩
        · have k4 : ((refs.map V.ref).length : Int) ≤ 4 := of_decide_eq_true e4
          rw [List.length_map] at k4
          refine ⟨_, rfl, D, rfl, ⟨_, SqL.of hn⟩, fun d hd => dc_list (K := K) (a := D) (xs := (namesT found).map V.str) (fun i H' => Same H2 H' ∧ H' d = some (.dK ((((namesT found).take i).foldl addS []).map fun s => ((Sum.inr s : Key), V.bl true)))) ⟨same_new hd, by rw [upd_same]; rfl⟩ (fun i H' _ h => SqL.of (h.1 _ _ hn)) ?_ ?_⟩
          · intro i y H' hi hp
            obtain ⟨x, hx, rfl⟩ := str_item hi
            have tk : (namesT found).take (i + 1) = (namesT found).take i ++ [x] := by
              rw [List.take_succ, hx]
              rfl
            refine ⟨rfl, ?_⟩
            refine ⟨_, rfl, _, .inr x, rfl, hp.2, ?_, fun b o e => ?_, ?_⟩
            · rw [List.length_map]
              have q := (addS_len ((namesT found).take i) []).1
              rw [List.length_nil, Nat.zero_add] at q
              have q2 : ((namesT found).take i).length ≤ 1000001 := by
                rw [List.length_take]
                exact Nat.le_trans (Nat.min_le_right _ _) (Nat.le_trans (namesT_len _) (by omega))
              exact Nat.lt_of_le_of_lt (Nat.le_trans q q2) (by decide)
            · rw [upd_ne (fun z => by rw [z, hd] at e; cases e)]
              exact hp.1 b o e
            · rw [upd_same, tk, List.foldl_append]
              exact congrArg (fun z => some (HO.dK z)) (put_addS _ x)
          · intro H3 hp
            have e2 : (namesT found).take ((namesT found).map V.str).length = namesT found := by
              rw [List.length_map]
              exact List.take_length ..
            rw [e2] at hp
            obtain ⟨sm3, hd3⟩ := hp
            refine ⟨d, _, rfl, hd3, _, rfl, D, _, rfl, .inl (SqL.of (sm3 _ _ hn)), rfl, _, rfl, ite2 (fun e5 => ?_) fun e5 => ?_⟩
            · have k5 := V.int.inj (of_decide_eq_true e5)
              rw [List.length_map, List.length_map] at k5
              have nd : (namesT found).Nodup := (nodup_len _).mp (by omega)
              have ok : sumOk found = true := by
                unfold sumOk
                rw [decide_eq_true nd, decide_eq_true (show found.length ≤ 4 by omega)]
                rfl
              have r : sumM ws = some found := by
                unfold sumM
                rw [← go]
                exact if_pos ok
              refine ⟨_, rfl, fa, _, rfl, .inl ⟨SqL.of (sm3 _ _ (sm _ _ I.hf)), fun l hl3 => ?_⟩⟩
              have sL := (sF.trans sm3).step (o := .tup (refs.map V.ref)) hl3
              exact q1 found r l refs _ sL ((sF.trans sm3).back hl3) upd_same ((sm.trans (sm3.step hl3)).paired I.pr)
            · refine q0 (bad ?_) _ (sF.trans sm3)
              unfold sumOk
              have nn : ¬ (namesT found).Nodup := fun z => e5 (decide_eq_true (by rw [List.length_map, List.length_map, (nodup_len _).mpr z]))
              rw [decide_eq_false nn, Bool.and_false]
        · refine q0 (bad ?_) _ sF
          unfold sumOk
          rw [decide_eq_false (fun z => e4 (decide_eq_true (by rw [List.length_map]; omega))), Bool.false_and]
end
end Pk
namespace Pk
open L2 PyProof.Rows PySem.Spec PySem
/-! ### from the back -/
theorem atI_back {α : Type} {xs : List α} {k : Nat} {v : α} (h1 : 1 ≤ k) (h2 : k ≤ xs.length) (h : xs[xs.length - k]? = some v) : atI xs (-(k : Int)) = some v := by
  have e : ixN xs.length (-(k : Int)) = some (xs.length - k) := by
    unfold ixN
    rw [if_neg (by omega), if_pos (by omega)]
    congr 1
    omega
  unfold atI
  rw [e]
  exact h
theorem cut_back {xs : List V} {k : Nat} (h1 : 1 ≤ k) : cutV xs none (some (-(k : Int))) = xs.take (xs.length - k) := by
  have e : HT.sIx xs.length xs.length (some (-(k : Int))) = xs.length - k := by
    show (if (-(k : Int)) < 0 then ((-(k : Int)) + (xs.length : Int)).toNat else min (-(k : Int)).toNat xs.length) = xs.length - k
    rw [if_pos (by omega)]
    omega
  unfold cutV
  rw [e, HT.sIx_none, List.drop_zero, Nat.sub_zero]
theorem two_back {ws : List Str} (h : 2 < ws.length) : ∃ pre y z, ws = pre ++ [y, z] ∧ 0 < pre.length := by
  refine ⟨ws.take (ws.length - 2), ws[ws.length - 2]'(by omega), ws[ws.length - 1]'(by omega), ?_, by rw [List.length_take]; omega⟩
  have e1 : ws.drop (ws.length - 2) = [ws[ws.length - 2]'(by omega), ws[ws.length - 1]'(by omega)] := by
    rw [List.drop_eq_getElem_cons (by omega)]
    congr 1
    have e2 : ws.length - 2 + 1 = ws.length - 1 := by omega
    rw [e2, List.drop_eq_getElem_cons (by omega), List.drop_eq_nil_of_le (by omega)]
  rw [← e1, List.take_append_drop]
theorem divM_two (pre : List Str) (y z : Str) (most : Nat) (h : 0 < pre.length) : divM (pre ++ [y, z]) most = if y = "//" then (match sumM pre, numM z with
    | some ts, some m => if 2 ≤ m ∧ m ≤ most then some (ts, some m) else none
    | _, _ => none) else (sumM (pre ++ [y, z])).map fun ts => (ts, none) := by
  have l : (pre ++ [y, z]).length = pre.length + 2 := by simp
  have a : (pre ++ [y, z])[(pre ++ [y, z]).length - 2]? = some y := by
    rw [l, Nat.add_sub_cancel, List.getElem?_append_right (Nat.le_refl _), Nat.sub_self]
    rfl
  have b : (pre ++ [y, z]).take ((pre ++ [y, z]).length - 2) = pre := by
    rw [l, Nat.add_sub_cancel, List.take_left]
  have c : (pre ++ [y, z]).getD ((pre ++ [y, z]).length - 1) "" = z := by
    rw [List.getD_eq_getElem?_getD, l, show pre.length + 2 - 1 = pre.length + 1 by omega, List.getElem?_append_right (by omega), show pre.length + 1 - pre.length = 1 by omega]
    rfl
  unfold divM
  rw [a, b, c]
  by_cases hy : y = "//"
  · rw [if_pos ⟨by omega, by rw [hy]⟩, if_pos hy]
    all_goals (cases sumM pre <;> cases numM z <;> rfl)
  · rw [if_neg (fun q => hy (Option.some.inj q.2)), if_neg hy]
theorem divM_few {ws : List Str} {most : Nat} (h : ¬ 2 < ws.length) : divM ws most = (sumM ws).map fun ts => (ts, none) := by
  unfold divM
  rw [if_neg fun q => h q.1]
def ShareAt (H : Hp) (p : Addr) (x : List Term × Option Nat) : Prop := ∃ q refs, H p = some (.tup [.ref q, natV x.2]) ∧ H q = some (.tup (refs.map V.ref)) ∧ Paired (TAt H) refs x.1
theorem ShareAt.same {H H' : Hp} {p : Addr} {x : List Term × Option Nat} (h : ShareAt H p x) (s : Same H H') : ShareAt H' p x := by
  obtain ⟨q, refs, h1, h2, h3⟩ := h
  exact ⟨q, refs, s _ _ h1, s _ _ h2, s.paired h3⟩
def spDiv (K : PySem.W.Frag) : Sp := fun vs H Q _ => ∃ (a : Addr) (ws : List Str) (most : Nat), vs = [.ref a, .int most] ∧ SqL K H a (ws.map V.str) ∧ ws.length ≤ 1000000 ∧ (∀ w ∈ ws, w.length ≤ 1000000) ∧ (divM ws most = none → ∀ H', Same H H' → Q .non H') ∧
  ∀ x, divM ws most = some x → ∀ p H', Same H H' → H p = none → ShareAt H' p x → Q (.ref p) H'
section
variable {K : PySem.W.Frag} {P : Program} {w : World} {base : Heap} {mg : Str → Option Value}
theorem sc_divided : FnScope ["words", "most", "many", "found"] ["words", "most"] (defScope sDiv) := ⟨rfl, rfl, rfl, by decide +kernel, rfl, by decide +kernel, by decide +kernel⟩
theorem ok_divided {f fN fS : Addr} {fd fdN fdS : FuncData} (F : FunD K "divided" "divided" (defArgs sDiv) (defBody sDiv) (defScope sDiv) [] [] f fd) (FN : FunD K "number_of" "number_of" (defArgs sNum) (defBody sNum) (defScope sNum) [] [] fN fdN)
    (FS : FunD K "sum_of" "sum_of" (defArgs sSumOf) (defBody sSumOf) (defScope sSumOf) [] [] fS fdS)
    (GN : FnOk P w K mg base CX0 1 fN fdN ["word"] spNum) (GS : FnOk P w K mg base CX0 3 fS fdS ["words"] (spSum K)) (gN : mg "number_of" = some (.ref fN)) (gS : mg "sum_of" = some (.ref fS)) (mLen : mg "len" = none) : FnOk P w K mg base CX0 4 f fd ["words", "most"] (spDiv K) := by
  have bN : Binds K fdN ["word"] [] := FN.bindsN fun _ _ _ _ _ _ us hl => match us, hl with | [_], _ => rfl
  have bS : Binds K fdS ["words"] [] := FS.bindsN fun _ _ _ _ _ _ us hl => match us, hl with | [_], _ => rfl
  refine F.ok sc_divided (fun vs H Q E h => ?_) (fun cdv A outer s H vs Q E hr h => ?_)
  · obtain ⟨a, ws, most, rfl, _⟩ := h
    rfl
  · obtain ⟨a, ws, most, rfl, hS, hl, hw, q0, q1⟩ := h
    refine ⟨_, PSs.nox (pss_cons (by exact (ps_if (PW.pt (pw_and (pt_cmpR op_gt (pe_callB call_len_seq (by rfl) mLen PySem.boot_len (pa_cons (pv 0) pa_nil)) pe_int (nomark _)) (pw_and1 (pt_cmpR op_eq (pe_ix (ix_listK K rfl) (pv 0) (pe_un un_neg pe_int) (fun _ _ => rfl)) pe_str (nomark _))))) (pss_cons (by exact (ps_par (i := 2) (j := 3) rfl sc_divided.nd rfl rfl (by decide) rfl rfl (pa_cons (pe_call GN (hr.mono (by decide)) rfl gN FN.kp bN .nil pass0 (pa_cons (pe_ix (ix_listK K rfl) (pv 0) (pe_un un_neg pe_int) (fun _ _ => rfl)) pa_nil)) (pa_cons (pe_call GS hr rfl gS FS.kp bS .nil pass0 (pa_cons (pe_slice (sl_listK K rfl) (pv 0) po_none (po_some (pe_un un_neg pe_int))) pa_nil)) pa_nil)) rfl)) (pss_one (by exact (ps_ret (pe_ifExp (PW.pt (pw_and (pt_cmp (pc_notN (pv 3))) (pw_and (pt_cmp (pc_notN (pv 2))) (pw_and1 (pt_chain op_le op_le pe_int (pv 2) (pv 1)))))) (pe_tup (pa_cons (pv 3) (pa_cons (pv 2) pa_nil))) pe_non))))) pss_nil)) (pss_cons (by exact (ps_set (i := 3) sc_divided.nd rfl (Or.inl rfl) (pe_call GS hr rfl gS FS.kp bS .nil pass0 (pa_cons (pv 0) pa_nil)))) (pss_one (by exact (ps_ret (pe_ifExp (pt_cmp (pc_notN (pv 3))) (pe_tup (pa_cons (pv 3) (pa_cons pe_non pa_nil))) pe_non)))))), ?_⟩
    have hlen : (ws.map V.str).length = ws.length := List.length_map ..
    have whole : divM ws most = ((sumM ws).map fun ts => (ts, none)) → tSeq (tAsg (tCall (spSum K) [] E0 (tCons (tVar 0) tNil)) (gName 3)) (tRet (tIf (tB (tNotN (tVar 3))) (tTup (tCons (tVar 3) (tCons (tC .non) tNil))) (tC .non))) { nx := fun _ H' => Q .non H', rt := Q } [some (.ref a), some (.int most), none, none] H := by
      intro e
      refine ⟨_, rfl, a, ws, rfl, hS, hl, hw, fun e0 H1 s1 => ?_, fun ts e1 p refs H1 s1 n1 h1 pr => ?_⟩
      · exact ⟨_, rfl, _, rfl, q0 (by rw [e, e0]; rfl) _ s1⟩
      · refine ⟨_, rfl, _, rfl, ?_⟩
        refine ⟨_, rfl, by show 2 ≤ sizeLine; decide, fun l hl1 => ?_⟩
        have t := same_new (o := .tup [.ref p, .non]) hl1
        exact q1 (ts, none) (by rw [e, e1]; rfl) l _ (s1.trans t) (s1.back hl1) ⟨p, refs, upd_same, t _ _ h1, t.paired pr⟩
    refine ⟨_, rfl, a, _, rfl, .inl hS, _, _, rfl, rfl, _, rfl, ite2 (fun e => ?_) fun e => ?_⟩
    · have g2 : 2 < ws.length := by
        have z := of_decide_eq_true e
        rw [hlen] at z
        omega
      obtain ⟨pre, y, z, rfl, hp⟩ := two_back g2
      have l2 : ((pre ++ [y, z]).map V.str).length = pre.length + 2 := by simp
      have ay : atI ((pre ++ [y, z]).map V.str) (-(2 : Nat)) = some (.str y) := by
        refine atI_back (by decide) (by omega) ?_
        rw [l2, Nat.add_sub_cancel, List.map_append, List.getElem?_append_right (by simp)]
        simp
      have az : atI ((pre ++ [y, z]).map V.str) (-(1 : Nat)) = some (.str z) := by
        refine atI_back (by decide) (by omega) ?_
        rw [l2, List.map_append, List.getElem?_append_right (by simp)]
        simp
      refine ⟨_, rfl, 2, rfl, a, _, -(2 : Nat), .str y, rfl, rfl, hS, ay, rfl, _, rfl, ite2 (fun e2 => ?_) fun e2 => ?_⟩
      · have ey : y = "//" := V.str.inj (of_decide_eq_true e2)
        have dm := divM_two pre y z most hp
        rw [if_pos ey] at dm
        have cutp : cutV ((pre ++ [y, z]).map V.str) none (some (-(2 : Nat))) = pre.map V.str := by
          rw [cut_back (by decide), l2, Nat.add_sub_cancel, List.map_append, List.take_left' (by simp)]
        refine ⟨_, rfl, 1, rfl, a, _, -(1 : Nat), .str z, rfl, rfl, hS, az, z, rfl, hw z (by simp), ?_⟩
        refine ⟨_, rfl, 2, rfl, -(2 : Nat), rfl, a, _, rfl, hS, fun l hl1 => ?_⟩
        rw [cutp]
        have tl := same_new (o := .lst (pre.map V.str)) hl1
        have lp : pre.length ≤ 1000000 := by
          rw [List.length_append] at hl
          omega
        refine ⟨l, pre, rfl, SqL.of upd_same, lp, fun x hx => hw x (List.mem_append_left _ hx), fun e0 H1 s1 => ?_, fun ts e1 p refs H1 s1 n1 h1 pr => ?_⟩
        · exact ⟨_, _, rfl, _, rfl, _, rfl, q0 (by rw [dm, e0]) _ (tl.trans s1)⟩
        · have sH := tl.trans s1
          refine ⟨_, _, rfl, _, rfl, _, rfl, ?_⟩
          rcases hz : numM z with _ | m
          · exact ⟨_, rfl, _, rfl, q0 (by rw [dm, e1, hz]) _ sH⟩
          · refine ⟨_, rfl, _, rfl, ?_⟩
            refine ⟨_, rfl, _, _, rfl, rfl, _, rfl, ite2 (fun e3 => ?_) fun e3 => ?_⟩
            · have k3 : (2 : Int) ≤ (m : Int) := of_decide_eq_true e3
              refine ⟨_, rfl, _, _, rfl, rfl, _, rfl, ite2 (fun e4 => ?_) fun e4 => ?_⟩
              · have k4 : (m : Int) ≤ (most : Int) := of_decide_eq_true e4
                refine ⟨_, rfl, _, rfl, by show 2 ≤ sizeLine; decide, fun l2 hl2 => ?_⟩
                have t2 := same_new (o := .tup [.ref p, .int (m : Nat)]) hl2
                exact q1 (ts, some m) (by rw [dm, e1, hz]; exact if_pos ⟨by omega, by omega⟩) l2 _ (sH.trans t2) (sH.back hl2) ⟨p, refs, upd_same, t2 _ _ h1, t2.paired pr⟩
              · have k4 : ¬ (m : Int) ≤ (most : Int) := fun x => e4 (decide_eq_true x)
                exact q0 (by rw [dm, e1, hz]; exact if_neg (by omega)) _ sH
            · have k3 : ¬ (2 : Int) ≤ (m : Int) := fun x => e3 (decide_eq_true x)
              exact ⟨_, rfl, q0 (by rw [dm, e1, hz]; exact if_neg (by omega)) _ sH⟩
      · have ey : ¬ y = "//" := fun x => e2 (decide_eq_true (by rw [x]))
        refine whole ?_
        rw [divM_two pre y z most hp, if_neg ey]
    · refine whole (divM_few fun x => e (decide_eq_true ?_))
      rw [hlen]
      omega
end
end Pk
namespace Pk
open L2 PyProof.Rows PySem.Spec PySem
abbrev sWhole : Stmt := top 61
abbrev sShare : Stmt := top 63
abbrev sLine : Stmt := top 64
abbrev sShareAt : Stmt := top 65
abbrev sNeed : Stmt := top 66
/-! ### values of which it is known whether they are texts, ints, truths -/
def isStr : V → Bool
  | .str _ => true
  | _ => false
def isInt : V → Bool
  | .int _ => true
  | .bl _ => true
  | _ => false
def isBl : V → Bool
  | .bl _ => true
  | _ => false
structure Kd (K : PySem.W.Frag) (H : Hp) (x : V) (t : Value) : Prop where
  ty0 : ∀ H', Same H H' → TyX K H' x t
  st : PySem.W.kitOne K t (.type "str") = some (isStr x)
  it : PySem.W.kitOne K t (.type "int") = some (isInt x)
  bt : PySem.W.kitOne K t (.type "bool") = some (isBl x)
theorem Kd.ty {K : PySem.W.Frag} {H : Hp} {x : V} {t : Value} (k : Kd K H x t) : TyX K H x t := k.ty0 H (Same.refl H)
theorem Kd.mono {K : PySem.W.Frag} {H H' : Hp} {x : V} {t : Value} (k : Kd K H x t) (s : Same H H') : Kd K H' x t := ⟨fun H2 s2 => k.ty0 H2 (s.trans s2), k.st, k.it, k.bt⟩
theorem Kd.int {K : PySem.W.Frag} {H : Hp} {i : Int} : Kd K H (.int i) (.type "int") := ⟨fun _ _ => .base (.int i), kit_ty (r := false) (by decide +kernel), kit_ty (r := true) (by decide +kernel), kit_ty (r := false) (by decide +kernel)⟩
theorem Kd.bl {K : PySem.W.Frag} {H : Hp} {i : Bool} : Kd K H (.bl i) (.type "bool") := ⟨fun _ _ => .base (.bl i), kit_ty (r := false) (by decide +kernel), kit_ty (r := true) (by decide +kernel), kit_ty (r := true) (by decide +kernel)⟩
theorem Kd.non {K : PySem.W.Frag} {H : Hp} : Kd K H .non (.type "NoneType") := ⟨fun _ _ => .base .non, kit_ty (r := false) (by decide +kernel), kit_ty (r := false) (by decide +kernel), kit_ty (r := false) (by decide +kernel)⟩
theorem Kd.str {K : PySem.W.Frag} {H : Hp} {i : Str} : Kd K H (.str i) (.type "str") := ⟨fun _ _ => .base (.str i), kit_ty (r := true) (by decide +kernel), kit_ty (r := false) (by decide +kernel), kit_ty (r := false) (by decide +kernel)⟩
theorem Kd.lst {K : PySem.W.Frag} {H : Hp} {a : Addr} {xs : List V} (h : H a = some (.lst xs)) : Kd K H (.ref a) (.type "list") := ⟨fun _ s => .base (.lst (s _ _ h)), kit_ty (r := false) (by decide +kernel), kit_ty (r := false) (by decide +kernel), kit_ty (r := false) (by decide +kernel)⟩
theorem Kd.tup {K : PySem.W.Frag} {H : Hp} {a : Addr} {xs : List V} (h : H a = some (.tup xs)) : Kd K H (.ref a) (.type "tuple") := ⟨fun _ s => .base (.tup (s _ _ h)), kit_ty (r := false) (by decide +kernel), kit_ty (r := false) (by decide +kernel), kit_ty (r := false) (by decide +kernel)⟩
def wholeV : V → Bool
  | .int _ => true
  | _ => false
def spWhole (K : PySem.W.Frag) : Sp := fun vs H Q _ => ∃ (x : V) (t : Value), vs = [x] ∧ Kd K H x t ∧ Q (.bl (wholeV x)) H
section
variable {K : PySem.W.Frag} {P : Program} {w : World} {base : Heap} {mg : Str → Option Value}
theorem sc_is_whole : FnScope ["value"] ["value"] (defScope sWhole) := ⟨rfl, rfl, rfl, by decide +kernel, rfl, by decide +kernel, by decide +kernel⟩
theorem ok_is_whole {f : Addr} {fd : FuncData} (F : FunD K "is_whole" "is_whole" (defArgs sWhole) (defBody sWhole) (defScope sWhole) [] [] f fd) (mIsi : mg "isinstance" = none) (mInt : mg "int" = none) (mBool : mg "bool" = none) : FnOk P w K mg base CX0 1 f fd ["value"] (spWhole K) := by
  refine F.ok sc_is_whole (fun vs H Q E h => ?_) (fun cdv A outer s H vs Q E hr h => ?_)
  · obtain ⟨x, t, rfl, _⟩ := h
    rfl
  · obtain ⟨x, t, rfl, hk, q⟩ := h
    refine ⟨_, PSs.nox (pss_one (by exact (ps_ret (pe_and (pe_callB call_isi (by rfl) mIsi PyProof.Rows.boot_isinstance (pa_cons (pv 0) (pa_cons (pe_bltn (v := .ty "int") (by rfl) mInt (by decide +kernel) rfl) pa_nil))) (pe_one (pe_not (pe_callB call_isi (by rfl) mIsi PyProof.Rows.boot_isinstance (pa_cons (pv 0) (pa_cons (pe_bltn (v := .ty "bool") (by rfl) mBool (by decide +kernel) rfl) pa_nil))))))))), ?_⟩
    refine ⟨_, rfl, x, _, t, _, _, rfl, .ty "int", hk.ty, hk.it, _, rfl, ite2 (fun e => ?_) fun e => ?_⟩
    · refine ⟨_, rfl, x, _, t, _, _, rfl, .ty "bool", hk.ty, hk.bt, _, rfl, ?_⟩
      cases x with
      | int i => exact q
      | bl b => exact q
      | _ => cases e
    · cases x with
      | int i => exact absurd rfl e
      | bl b => exact absurd rfl e
      | _ => exact q
/-! ### sums, shares as numbers -/
def LineAt (H : Hp) (p : Addr) (l : Line) : Prop := H p = some (.tup [.int l.s, .int l.c, .int (l.d : Nat)])
def spCommon : Sp := fun vs H Q _ => ∃ a b : Nat, vs = [.int a, .int b] ∧ 0 < a ∧ 0 < b ∧ Q (.int (Nat.lcm a b)) H
def spShareAt : Sp := fun vs H Q _ => ∃ (p : Addr) (l : Line) (k : Int), vs = [.ref p, .int k] ∧ LineAt H p l ∧ 0 < l.d ∧ l.d < 2 ^ 400 ∧ l.s.natAbs < 2 ^ 400 ∧ k.natAbs < 2 ^ 400 ∧ Q (.int (l.at_ k)) H
theorem sc_share_at : FnScope ["share", "k"] ["share", "k"] (defScope sShareAt) := ⟨rfl, rfl, rfl, by decide +kernel, rfl, by decide +kernel, by decide +kernel⟩
theorem ok_share_at {f : Addr} {fd : FuncData} (F : FunD K "share_at" "share_at" (defArgs sShareAt) (defBody sShareAt) (defScope sShareAt) [] [] f fd) : FnOk P w K mg base CX0 1 f fd ["share", "k"] spShareAt := by
  refine F.ok sc_share_at (fun vs H Q E h => ?_) (fun cdv A outer s H vs Q E hr h => ?_)
  · obtain ⟨p, l, k, rfl, _⟩ := h
    rfl
  · obtain ⟨p, l, k, rfl, hp, d0, d1, s1, k1, q⟩ := h
    refine ⟨_, PSs.nox (pss_one (by exact (ps_ret (pe_op op_fdivW (pe_op op_add (pe_op op_mulW (pe_ix (ix_tupK K rfl) (pv 0) pe_int (fun _ _ => rfl)) (pv 1)) (pe_ix (ix_tupK K rfl) (pv 0) pe_int (fun _ _ => rfl))) (pe_ix (ix_tupK K rfl) (pv 0) pe_int (fun _ _ => rfl)))))), ?_⟩
    refine ⟨_, rfl, p, _, _, .int l.s, rfl, rfl, SqT.of hp, rfl, _, rfl, _, _, rfl, rfl, wide_mul s1 k1 (by decide) (by decide) (by decide), ?_⟩
    refine ⟨_, rfl, p, _, _, .int l.c, rfl, rfl, SqT.of hp, rfl, _, _, rfl, rfl, ?_⟩
    exact ⟨_, rfl, p, _, _, .int (l.d : Nat), rfl, rfl, SqT.of hp, rfl, _, _, rfl, rfl, wide_div (b := 400) (by omega) (by omega) (by decide) (by decide), q⟩
def leastM (first slope constant : Int) : Option (Int × Option Int) :=
  if slope = 0 then (if 0 ≤ constant then some (first, none) else none) else if 0 < slope then some (if -(constant / slope) > first then -(constant / slope) else first, none) else if first ≤ constant / (-slope) then some (first, some (constant / (-slope))) else none
def intV : Option Int → V
  | some n => .int n
  | none => .non
def OptAt (H : Hp) (v : V) : Option (Int × Option Int) → Prop
  | none => v = .non
  | some z => ∃ p, v = .ref p ∧ H p = some (.tup [.int z.1, intV z.2])
def spLeast : Sp := fun vs H Q _ => ∃ a b c : Int, vs = [.int a, .int b, .int c] ∧ b.natAbs < 2 ^ 400 ∧ ∀ v H', Same H H' → OptAt H' v (leastM a b c) → Q v H'
end
end Pk
namespace Pk
open L2 PyProof.Rows PySem.Spec PySem
def shareV : V → Option (List Term × Option Nat)
  | .str s => shareM s
  | _ => none
def okLen : V → Bool
  | .str s => decide (s.length ≤ 900000)
  | _ => true
/-- one field, one error -/
def Err1 (K : PySem.W.Frag) (x f : Str) (v : V) (H : Hp) (E : XK) : Prop := ∀ d H1, Same H H1 → H1 d = none → E (.ref (He.ga K x)) (some d) (upd H1 d (.xd [(f, v)]))
def spNeed (K : PySem.W.Frag) : Sp := fun vs H Q E => ∃ (x : V) (t : Value), vs = [x] ∧ Kd K H x t ∧ ((∀ k : Int, x = .int k → 1 ≤ k → Q .non H) ∧ ((∀ k : Int, x = .int k → ¬ 1 ≤ k) → Err1 K "BadCapacity" "k" x H E))
def spShare (K : PySem.W.Frag) : Sp := fun vs H Q E => ∃ (x : V) (t : Value), vs = [x] ∧ Kd K H x t ∧ okLen x = true ∧ (shareV x = none → Err1 K "BadSum" "text" x H E) ∧
  ∀ y, shareV x = some y → ∀ p H', Same H H' → H p = none → ShareAt H' p y → Q (.ref p) H'
theorem flat_name (o : Option Str) : flatV (nameV o) = true := by cases o <;> rfl
theorem rfl_name (o : Option Str) : scal (nameV o) (V.str "k") = true := by cases o <;> rfl
theorem inV_k (o : Option Str) : inV (nameV o) [.non, .str "k"] = (decide (o = none) || decide (o = some ("k" : Str))) := by
  cases o with
  | none => rfl
  | some s =>
    have q := inV_strs (x := s) (l := [("k" : Str)])
    have e : inV (nameV (some s)) [.non, .str "k"] = inV (.str s) (([("k" : Str)]).map V.str) := rfl
    rw [e, q]
    by_cases h : s = "k"
    · subst h
      simp
    · simp [h]
theorem any_kOnly (ts : List Term) : (ts.map fun t => !(decide (t.2 = none) || decide (t.2 = some ("k" : Str)))).any id = !(kOnly ts) := by
  unfold kOnly
  induction ts with
  | nil => rfl
  | cons t r ih => rw [List.map_cons, List.any_cons, ih, List.all_cons, Bool.not_and, id]
theorem divM_len {ws : List Str} {most : Nat} {ts : List Term} {m : Option Nat} (h : divM ws most = some (ts, m)) : ts.length ≤ 4 := by
  have s : ∀ {us : List Str} {ts : List Term}, sumM us = some ts → ts.length ≤ 4 := fun {us ts} e => by
    unfold sumM at e
    split at e
    · cases e
    · split at e
      · rename_i ok
        cases e
        unfold sumOk at ok
        exact of_decide_eq_true (Bool.and_eq_true_iff.mp ok).1
      · cases e
  unfold divM at h
  split at h
  · split at h
    · rename_i e _
      split at h
      · cases h
        exact s e
      · cases h
    · cases h
  · cases e : sumM ws with
    | none => (rw [e] at h; cases h)
    | some us =>
      rw [e] at h
      cases h
      exact s e
section
variable {K : PySem.W.Frag} {P : Program} {w : World} {base : Heap} {mg : Str → Option Value}
theorem sc_need_capacity : FnScope ["k"] ["k"] (defScope sNeed) := ⟨rfl, rfl, rfl, by decide +kernel, rfl, by decide +kernel, by decide +kernel⟩
theorem ok_need_capacity {f fW : Addr} {fd fdW : FuncData} (F : FunD K "need_capacity" "need_capacity" (defArgs sNeed) (defBody sNeed) (defScope sNeed) [] [] f fd) (FW : FunD K "is_whole" "is_whole" (defArgs sWhole) (defBody sWhole) (defScope sWhole) [] [] fW fdW)
    (GW : FnOk P w K mg base CX0 1 fW fdW ["value"] (spWhole K)) (gW : mg "is_whole_rules" = some (.ref fW)) (ER : Errs P K mg) : FnOk P w K mg base (L2.CX P w) 3 f fd ["k"] (spNeed K) := by
  have bW : Binds K fdW ["value"] [] := FW.bindsN fun _ _ _ _ _ _ us hl => match us, hl with | [_], _ => rfl
  refine F.ok sc_need_capacity (fun vs H Q E h => ?_) (fun cdv A outer s H vs Q E hr h => ?_)
  · obtain ⟨x, t, rfl, _⟩ := h
    rfl
  · obtain ⟨x, t, rfl, hk, q, qe⟩ := h
    obtain ⟨fdI, IBadCapacity⟩ := ER.iBadCapacity
    refine ⟨_, (pss_one (by exact (ps_if (PW.pt (pw_or (pt_not (pt_val (pe_call GW (hr.mono (by decide)) rfl gW FW.kp bW .nil pass0 (pa_cons (pv 0) pa_nil)))) (pw_or1 (pt_cmpR op_lt (pv 0) pe_int (nomark _))))) (pss_one (by exact (ps_raise rfl (takes_of rfl rfl rfl rfl) (pmk_sup1 IBadCapacity.sup (okIBadCapacity IBadCapacity ER.mS ER.hP) (hr.mono (by decide)) (bIBadCapacity IBadCapacity) pass0 rfl (pv 0))))) pss_nil))), ?_⟩
    refine ⟨_, rfl, x, t, rfl, hk, _, rfl, ite2 (fun e => ?_) fun e => ?_⟩
    · refine ⟨_, rfl, fun d hd => qe (fun k z => ?_) d H (Same.refl H) hd⟩
      rw [z] at e
      cases e
    · obtain ⟨k, rfl⟩ : ∃ k, x = .int k := by
        cases x with
        | int k => exact ⟨k, rfl⟩
        | _ => exact absurd rfl e
      refine ⟨_, rfl, _, _, rfl, rfl, _, rfl, ite2 (fun e1 => ?_) fun e1 => ?_⟩
      · have k1 : k < 1 := of_decide_eq_true e1
        refine ⟨_, rfl, fun d hd => qe (fun j z => ?_) d H (Same.refl H) hd⟩
        cases z
        omega
      · have k1 : ¬ k < 1 := fun z => e1 (decide_eq_true z)
        exact q k rfl (by omega)
theorem sc_read_share : FnScope ["text", "found", "factor", "name"] ["text"] (defScope sShare) := ⟨rfl, rfl, rfl, by decide +kernel, rfl, by decide +kernel, by decide +kernel⟩
theorem ok_read_share {f fD : Addr} {fd fdD : FuncData} (F : FunD K "read_share" "read_share" (defArgs sShare) (defBody sShare) (defScope sShare) [] [] f fd) (FD : FunD K "divided" "divided" (defArgs sDiv) (defBody sDiv) (defScope sDiv) [] [] fD fdD)
    (GD : FnOk P w K mg base CX0 4 fD fdD ["words", "most"] (spDiv K)) (gD : mg "divided" = some (.ref fD)) (ER : Errs P K mg) (mIsi : mg "isinstance" = none) (mStr : mg "str" = none) (mAny : mg "any" = none) (gMS : ∃ u, mg "MOST_SHARE" = some u ∧ RelV (.int 6) u) : FnOk P w K mg base (L2.CX P w) 5 f fd ["text"] (spShare K) := by
  have bD : Binds K fdD ["words", "most"] [] := FD.bindsN fun _ _ _ _ _ _ us hl => match us, hl with | [_, _], _ => rfl
  refine F.ok sc_read_share (fun vs H Q E h => ?_) (fun cdv A outer s H vs Q E hr h => ?_)
  · obtain ⟨x, t, rfl, _⟩ := h
    rfl
  · obtain ⟨x, t, rfl, hk, hl, q0, q1⟩ := h
    obtain ⟨fdI, IBadSum⟩ := ER.iBadSum
    refine ⟨_, (pss_cons (by exact (ps_set (i := 1) sc_read_share.nd rfl (Or.inl rfl) (pe_ifExp (pt_val (pe_callB call_isi (by rfl) mIsi PyProof.Rows.boot_isinstance (pa_cons (pv 0) (pa_cons (pe_bltn (v := .ty "str") (by rfl) mStr (by decide +kernel) rfl) pa_nil)))) (pe_call GD hr rfl gD FD.kp bD .nil pass0 (pa_cons (pe_split (pv 0) pe_str) (pa_cons (C8.pe_gc (v := .int 6) rfl gMS) pa_nil))) pe_non))) (pss_cons (by exact (ps_if (PW.pt (pw_or (pt_cmp (pc_isN (pv 1))) (pw_or1 (pt_val (pe_callB (cr_any rfl) (by rfl) mAny PyProof.Rows.boot_any (pa_cons (pe_lc (own := [("factor", 2), ("name", 3)]) (tt := tYes) rfl sc_read_share.nd (pi_tup (pe_ix (ix_tupK K rfl) (pv 1) pe_int (fun _ _ => rfl))) (blkOk_by (N := ["text", "found", "factor", "name"]) (sc := defScope sShare) (by decide +kernel)) (fun _ _ _ _ _ => pg_tupK (n := 2) K rfl rfl (pgs_cons (pg_name (i := 2) sc_read_share.nd rfl (Or.inl rfl)) (pgs_cons (pg_name (i := 3) sc_read_share.nd rfl (Or.inl rfl)) pgs_nil))) (fun _ _ _ _ _ => pts_nil) (fun _ _ _ _ _ => (pe_cmpR (op_notInK K rfl) (pv 3) (pe_tup (pa_cons pe_non (pa_cons pe_str pa_nil))) rfl))) pa_nil)))))) (pss_one (by exact (ps_raise rfl (takes_of rfl rfl rfl rfl) (pmk_sup1 IBadSum.sup (okIBadSum IBadSum ER.mS ER.hP) (hr.mono (by decide)) (bIBadSum IBadSum) pass0 rfl (pv 0))))) pss_nil)) (pss_one (by exact (ps_ret (pv 1)))))), ?_⟩
    refine ⟨_, rfl, x, _, t, _, _, rfl, .ty "str", hk.ty, hk.st, _, rfl, ite2 (fun e => ?_) fun e => ?_⟩
    · obtain ⟨z, rfl⟩ : ∃ z, x = .str z := by
        cases x with
        | str z => exact ⟨z, rfl⟩
        | _ => cases e
      have zl : z.length ≤ 900000 := of_decide_eq_true hl
      obtain ⟨w1, w2⟩ := split_few z
      refine ⟨_, rfl, ⟨_, rfl⟩, z, " ", rfl, rfl, rfl, Nat.le_trans (Nat.add_le_add_right zl 2) (by decide), fun l hl1 => ?_⟩
      have tl := same_new (o := .lst ((Txt.split z " ").map V.str)) hl1
      refine ⟨l, _, 6, rfl, SqL.of upd_same, by omega, fun w hw => Nat.le_trans (w2 w hw) (by omega), fun e0 H1 s1 => ?_, fun y e1 p H1 s1 n1 sa => ?_⟩
      · have sH := tl.trans s1
        refine ⟨_, rfl, _, rfl, iteT ?_⟩
        refine ⟨_, rfl, fun d hd => q0 ?_ d H1 sH hd⟩
        show shareM z = none
        unfold shareM
        rw [e0]
      · have sH := tl.trans s1
        obtain ⟨ts, m⟩ := y
        obtain ⟨qa, refs, h1, h2, pr⟩ := id sa
        have sv : shareV (.str z) = if kOnly ts = true then some (ts, m) else none := by
          show shareM z = _
          unfold shareM
          rw [e1]
        refine ⟨_, rfl, _, rfl, iteF ?_⟩
        refine ⟨_, rfl, p, _, _, .ref qa, rfl, rfl, SqT.of h1, rfl, qa, rfl, ⟨_, SqT.of h2⟩, fun D hD => lc_tup (K := K) (a := qa) (xs := refs.map V.ref) (fun i H' => Same H1 H' ∧ H' D = some (.lst (((ts.take i).map fun t => !(decide (t.2 = none) || decide (t.2 = some ("k" : Str)))).map V.bl))) ⟨same_new hD, by rw [upd_same]; rfl⟩ (fun i H' _ h => SqT.of (h.1 _ _ h2)) ?_ ?_⟩
        · intro i y H' hi hp
          obtain ⟨r, hr1, rfl⟩ := ref_item hi
          obtain ⟨g, hg, hg2⟩ := paired_at pr hr1
          refine ⟨r, _, rfl, SqT.of (hp.1 _ _ hg2), rfl, _, _, rfl, _, _, rfl, rfl, rfl, ?_⟩
          refine ⟨_, rfl, by show 2 ≤ sizeLine; decide, fun t ht => ⟨t, _, rfl, .inr (SqT.of upd_same), flat_name g.2, rfl, _, (same_new ht) _ _ hp.2, ?_, fun b o e => ?_, ?_⟩⟩
          · rw [List.length_map, List.length_map]
            have l1 := divM_len e1
            exact Nat.lt_of_le_of_lt (List.length_take_le' _ _) (Nat.lt_of_le_of_lt l1 (by decide))
          · rw [upd_ne (fun z => by rw [z, hD] at e; cases e)]
            exact same_new ht _ _ (hp.1 b o e)
          · have tk : ts.take (i + 1) = ts.take i ++ [g] := by
              rw [List.take_succ, hg]
              rfl
            have ik : (if true = true then !inV (nameV g.2) [.non, .str "k"] else inV (nameV g.2) [.non, .str "k"]) = !(decide (g.2 = none) || decide (g.2 = some ("k" : Str))) := by
              rw [if_pos rfl, inV_k]
            rw [upd_same, tk, List.map_append, List.map_append, ik]
            rfl
        · intro H2 hp
          have e2 : ts.take (refs.map V.ref).length = ts := by
            rw [List.length_map, ← paired_len pr]
            exact List.take_length ..
          rw [e2] at hp
          obtain ⟨sm, hn⟩ := hp
          refine ⟨D, _, rfl, SqL.of hn, _, rfl, ?_⟩
          rw [any_kOnly]
          cases hk2 : kOnly ts with
          | false => exact ⟨_, rfl, fun d hd => q0 (by rw [sv, hk2]; rfl) d H2 (sH.trans sm) hd⟩
          | true => exact ⟨_, rfl, q1 (ts, m) (by rw [sv, hk2]; rfl) p H2 (sH.trans sm) (tl.free n1) (sa.same sm)⟩
    · refine ⟨_, rfl, _, rfl, iteT ⟨_, rfl, fun d hd => q0 ?_ d H (Same.refl H) hd⟩⟩
      cases x with
      | str z => exact absurd rfl e
      | _ => rfl
def spLine : Sp := fun vs H Q _ => ∃ (p : Addr) (x : List Term × Option Nat), vs = [.ref p] ∧ ShareAt H p x ∧ x.1.length ≤ 4 ∧ ∀ l H', Same H H' → H l = none → LineAt H' l (lineM x) → Q (.ref l) H'
theorem sc_line_of : FnScope ["share", "slope", "factor", "name", "constant"] ["share"] (defScope sLine) := ⟨rfl, rfl, rfl, by decide +kernel, rfl, by decide +kernel, by decide +kernel⟩
theorem ok_line_of {f : Addr} {fd : FuncData} (F : FunD K "line_of" "line_of" (defArgs sLine) (defBody sLine) (defScope sLine) [] [] f fd) (mSum : mg "sum" = none) : FnOk P w K mg base CX0 1 f fd ["share"] spLine := by
  refine F.ok sc_line_of (fun vs H Q E h => ?_) (fun cdv A outer s H vs Q E hr h => ?_)
  · obtain ⟨p, x, rfl, _⟩ := h
    rfl
  · obtain ⟨p, ⟨ts, m⟩, rfl, sa, hl, q⟩ := h
    obtain ⟨qa, refs, h1, h2, pr⟩ := id sa
    refine ⟨_, PSs.nox (pss_cons (by exact (ps_set (i := 1) sc_line_of.nd rfl (Or.inl rfl) (pe_callB (cr_sum rfl) (by rfl) mSum (by decide +kernel) (pa_cons (pe_lc (own := [("factor", 2), ("name", 3)]) rfl sc_line_of.nd (pi_tup (pe_ix (ix_tupK K rfl) (pv 0) pe_int (fun _ _ => rfl))) (blkOk_by (N := ["share", "slope", "factor", "name", "constant"]) (sc := defScope sLine) (by decide +kernel)) (fun _ _ _ _ _ => pg_tupK (n := 2) K rfl rfl (pgs_cons (pg_name (i := 2) sc_line_of.nd rfl (Or.inl rfl)) (pgs_cons (pg_name (i := 3) sc_line_of.nd rfl (Or.inl rfl)) pgs_nil))) (fun _ _ _ _ _ => (pts_one (pt_cmpR op_eq (pv 3) pe_str (nomark _)))) (fun _ _ _ _ _ => (pv 2))) pa_nil)))) (pss_cons (by exact (ps_set (i := 4) sc_line_of.nd rfl (Or.inl rfl) (pe_callB (cr_sum rfl) (by rfl) mSum (by decide +kernel) (pa_cons (pe_lc (own := [("factor", 2), ("name", 3)]) rfl sc_line_of.nd (pi_tup (pe_ix (ix_tupK K rfl) (pv 0) pe_int (fun _ _ => rfl))) (blkOk_by (N := ["share", "slope", "factor", "name", "constant"]) (sc := defScope sLine) (by decide +kernel)) (fun _ _ _ _ _ => pg_tupK (n := 2) K rfl rfl (pgs_cons (pg_name (i := 2) sc_line_of.nd rfl (Or.inl rfl)) (pgs_cons (pg_name (i := 3) sc_line_of.nd rfl (Or.inl rfl)) pgs_nil))) (fun _ _ _ _ _ => (pts_one (pt_cmp (pc_isN (pv 3))))) (fun _ _ _ _ _ => (pv 2))) pa_nil)))) (pss_one (by exact (ps_ret (pe_tup (pa_cons (pv 1) (pa_cons (pv 4) (pa_cons (pe_ifExp (pt_cmp (pc_isN (pe_ix (ix_tupK K rfl) (pv 0) pe_int (fun _ _ => rfl)))) pe_int (pe_ix (ix_tupK K rfl) (pv 0) pe_int (fun _ _ => rfl))) pa_nil))))))))), ?_⟩
    have lr := paired_len pr
    have hl' : ts.length ≤ 4 := hl
    have full : ts.take (refs.map V.ref).length = ts := by
      rw [List.length_map, ← lr]
      exact List.take_length ..
    have few : ∀ (i : Nat) (fn : Term → Option Int), ((ts.take i).filterMap fn).length < sizeLine := fun i fn =>
      Nat.lt_of_le_of_lt (Nat.le_trans (List.length_filterMap_le _ _) (List.length_take_le' _ _)) (Nat.lt_of_le_of_lt hl' (by decide))
    refine ⟨_, rfl, p, _, _, .ref qa, rfl, rfl, SqT.of h1, rfl, qa, rfl, ⟨_, SqT.of h2⟩, fun D hD => lc_tup (K := K) (a := qa) (xs := refs.map V.ref) (fun i H' => Same H H' ∧ H' D = some (.lst (((ts.take i).filterMap fun t => if t.2 = some ("k" : Str) then some t.1 else none).map V.int))) ⟨same_new hD, by rw [upd_same]; rfl⟩ (fun i H' _ h => SqT.of (h.1 _ _ h2)) ?_ ?_⟩
    · intro i y H' hi hp
      obtain ⟨r, hr1, rfl⟩ := ref_item hi
      obtain ⟨g, hg, hg2⟩ := paired_at pr hr1
      have tk : ts.take (i + 1) = ts.take i ++ [g] := by
        rw [List.take_succ, hg]
        rfl
      obtain ⟨g1, g2⟩ := g
      refine ⟨r, _, rfl, SqT.of (hp.1 _ _ hg2), rfl, _, _, rfl, _, _, rfl, rfl, rfl, ?_⟩
      refine ⟨_, rfl, rfl_name g2, _, rfl, ?_⟩
      by_cases hk : g2 = some ("k" : Str)
      · subst hk
        refine ⟨_, rfl, _, hp.2, by rw [List.length_map]; exact few i _, fun b o e => ?_, ?_⟩
        · rw [upd_ne (fun z => by rw [z, hD] at e; cases e)]
          exact hp.1 b o e
        · rw [upd_same, tk, List.filterMap_append, List.map_append]
          rfl
      · have e1 : decide (nameV g2 = V.str "k") = false := decide_eq_false fun z => hk (by
          cases g2 with
          | none => cases z
          | some s => exact congrArg some (V.str.inj z))
        rw [e1]
        refine ⟨hp.1, ?_⟩
        rw [tk, List.filterMap_append, show [((g1, g2) : Term)].filterMap (fun t => if t.2 = some ("k" : Str) then some t.1 else none) = [] from by simp [hk], List.append_nil]
        exact hp.2
    · intro H2 hp
      rw [full] at hp
      obtain ⟨sm, hn⟩ := hp
      refine ⟨D, _, rfl, SqL.of hn, ?_⟩
      have sa2 := sa.same sm
      obtain ⟨qb, refs2, k1, k2, pr2⟩ := id sa2
      have lr2 := paired_len pr2
      have full2 : ts.take (refs2.map V.ref).length = ts := by
        rw [List.length_map, ← lr2]
        exact List.take_length ..
      refine ⟨_, rfl, p, _, _, .ref qb, rfl, rfl, SqT.of k1, rfl, qb, rfl, ⟨_, SqT.of k2⟩, fun D2 hD2 => lc_tup (K := K) (a := qb) (xs := refs2.map V.ref) (fun i H' => Same H2 H' ∧ H' D2 = some (.lst (((ts.take i).filterMap fun t => if t.2 = none then some t.1 else none).map V.int))) ⟨same_new hD2, by rw [upd_same]; rfl⟩ (fun i H' _ h => SqT.of (h.1 _ _ k2)) ?_ ?_⟩
      · intro i y H' hi hp
        obtain ⟨r, hr1, rfl⟩ := ref_item hi
        obtain ⟨g, hg, hg2⟩ := paired_at pr2 hr1
        have tk : ts.take (i + 1) = ts.take i ++ [g] := by
          rw [List.take_succ, hg]
          rfl
        obtain ⟨g1, g2⟩ := g
        refine ⟨r, _, rfl, SqT.of (hp.1 _ _ hg2), rfl, _, _, rfl, _, _, rfl, rfl, rfl, ?_⟩
        cases g2 with
        | none =>
          refine ⟨_, rfl, _, rfl, ?_⟩
          refine ⟨_, rfl, _, hp.2, by rw [List.length_map]; exact few i _, fun b o e => ?_, ?_⟩
          · rw [upd_ne (fun z => by rw [z, hD2] at e; cases e)]
            exact hp.1 b o e
          · rw [upd_same, tk, List.filterMap_append, List.map_append]
            rfl
        | some nm =>
          refine ⟨_, rfl, _, rfl, ?_⟩
          refine ⟨hp.1, ?_⟩
          rw [tk, List.filterMap_append, show [((g1, some nm) : Term)].filterMap (fun t => if t.2 = none then some t.1 else none) = [] from rfl, List.append_nil]
          exact hp.2
      · intro H3 hp
        rw [full2] at hp
        obtain ⟨sm3, hn3⟩ := hp
        refine ⟨D2, _, rfl, SqL.of hn3, ?_⟩
        have k1' := sm3 _ _ k1
        have sF := sm.trans sm3
        have fin : ∀ l, H3 l = none → ∀ d : Int, d = ((m.getD 1 : Nat) : Int) → Q (.ref l) (upd H3 l (.tup [.int (slopeT ts), .int (constT ts), .int d])) := fun l hl d hd => by
          subst hd
          exact q l _ (sF.step hl) (sF.free hl) upd_same
        refine ⟨_, rfl, _, rfl, _, rfl, p, _, _, natV m, rfl, rfl, SqT.of k1', rfl, ?_⟩
        cases m with
        | none => exact ⟨_, rfl, by show 3 ≤ sizeLine; decide, fun l hl => fin l hl 1 rfl⟩
        | some n => exact ⟨_, rfl, _, rfl, p, _, _, natV (some n), rfl, rfl, SqT.of k1', rfl, by show 3 ≤ sizeLine; decide, fun l hl => fin l hl n rfl⟩
end
end Pk
namespace Pk
open L2 PyProof.Rows PySem.Spec PySem
abbrev sSide : Stmt := top 50
abbrev sDeed : Stmt := inClass (top 52) 3
abbrev sMoving : Stmt := inClass (top 52) 4
abbrev sPart : Stmt := inClass (top 52) 6
abbrev sParts : Stmt := inClass (top 52) 5
abbrev sRow : Stmt := inClass (top 52) 2
abbrev sRows : Stmt := inClass (top 52) 1
abbrev sRdI : Stmt := inClass (top 52) 0
abbrev sRead : Stmt := top 53
/-! ### words by their places, slices of words -/
theorem at_eq {ws : List Str} {i : Nat} (h : i < ws.length) : ws[i]? = some (at_ ws i) := by
  unfold at_
  rw [List.getD_eq_getElem?_getD, List.getElem?_eq_getElem h]
  rfl
theorem at_mem {ws : List Str} {i : Nat} (h : i < ws.length) : at_ ws i ∈ ws := List.mem_of_getElem? (at_eq h)
theorem at_ix {ws : List Str} {i : Nat} (h : i < ws.length) : atI (ws.map V.str) (i : Int) = some (.str (at_ ws i)) := atI_nat (by rw [List.getElem?_map, at_eq h]; rfl)
theorem at0 {ws : List Str} (h : 0 < ws.length) : atI (ws.map V.str) 0 = some (.str (at_ ws 0)) := at_ix (i := 0) h
theorem at1 {ws : List Str} (h : 1 < ws.length) : atI (ws.map V.str) 1 = some (.str (at_ ws 1)) := at_ix (i := 1) h
theorem at2 {ws : List Str} (h : 2 < ws.length) : atI (ws.map V.str) 2 = some (.str (at_ ws 2)) := at_ix (i := 2) h
theorem at_ng {ws : List Str} {k : Nat} (h1 : 1 ≤ k) (h2 : k ≤ ws.length) : atI (ws.map V.str) (-(k : Int)) = some (.str (at_ ws (ws.length - k))) :=
  atI_back h1 (by rw [List.length_map]; exact h2) (by rw [List.length_map, List.getElem?_map, at_eq (by omega)]; rfl)
theorem map_len {ws : List Str} : (ws.map V.str).length = ws.length := List.length_map ..
theorem cut_from {ws : List Str} {n : Nat} : cutV (ws.map V.str) (some (n : Int)) none = (ws.drop n).map V.str := by
  unfold cutV
  rw [HT.sIx_nat, HT.sIx_none, map_len]
  rcases Nat.le_total n ws.length with h | h
  · rw [Nat.min_eq_left h, List.take_of_length_le (by rw [List.length_drop, map_len]; omega), List.map_drop]
  · rw [Nat.min_eq_right h, List.drop_of_length_le (by rw [map_len]; omega), List.drop_of_length_le h, Nat.sub_self]
    rfl
theorem cut_to {ws : List Str} {n : Nat} : cutV (ws.map V.str) none (some (n : Int)) = (ws.take n).map V.str := by
  unfold cutV
  rw [HT.sIx_nat, HT.sIx_none, map_len, List.drop_zero, Nat.sub_zero]
  rcases Nat.le_total n ws.length with h | h
  · rw [Nat.min_eq_left h, List.map_take]
  · rw [Nat.min_eq_right h, List.take_of_length_le (by rw [map_len]; omega), List.take_of_length_le h]
theorem cut_amid {ws : List Str} {a b : Nat} (h1 : 1 ≤ b) (h : a + b ≤ ws.length) : cutV (ws.map V.str) (some (a : Int)) (some (-(b : Int))) = ((ws.take (ws.length - b)).drop a).map V.str := by
  have e : HT.sIx (ws.map V.str).length (ws.map V.str).length (some (-(b : Int))) = ws.length - b := by
    show (if (-(b : Int)) < 0 then ((-(b : Int)) + ((ws.map V.str).length : Int)).toNat else min (-(b : Int)).toNat (ws.map V.str).length) = ws.length - b
    rw [if_pos (by omega), map_len]
    omega
  unfold cutV
  rw [e, HT.sIx_nat, map_len, Nat.min_eq_left (by omega), List.map_drop, List.map_take, List.drop_take]
theorem strE {x y : Str} (h : decide (V.str x = V.str y) = true) : x = y := V.str.inj (of_decide_eq_true h)
theorem strN {x y : Str} (h : ¬ decide (V.str x = V.str y) = true) : ¬ x = y := fun z => h (decide_eq_true (by rw [z]))
theorem neE {x y : Str} (h : (!decide (V.str x = V.str y)) = true) : ¬ x = y := fun z => by
  rw [decide_eq_true (show V.str x = V.str y by rw [z])] at h
  cases h
theorem neN {x y : Str} (h : ¬ (!decide (V.str x = V.str y)) = true) : x = y := Classical.byContradiction fun z => h (by
  rw [decide_eq_false (fun q => z (V.str.inj q))]
  rfl)
theorem inE {x : Str} {l : List Str} (h : inV (V.str x) (l.map V.str) = true) : x ∈ l := of_decide_eq_true (inV_strs.symm.trans h)
theorem inN {x : Str} {l : List Str} (h : ¬ inV (V.str x) (l.map V.str) = true) : ¬ x ∈ l := fun z => h (inV_strs.trans (decide_eq_true z))
theorem niE {x : Str} {l : List Str} (h : (!inV (V.str x) (l.map V.str)) = true) : ¬ x ∈ l := fun z => by
  rw [inV_strs, decide_eq_true z] at h
  cases h
theorem niN {x : Str} {l : List Str} (h : ¬ (!inV (V.str x) (l.map V.str)) = true) : x ∈ l := Classical.byContradiction fun z => h (by
  rw [inV_strs, decide_eq_false z]
  rfl)
/-- lists of texts compared -/
theorem strs_dp {K : PySem.W.Frag} {H : Hp} : ∀ ws : List Str, DpAll K H (ws.map V.str) (ws.map PyData.str)
  | [] => .nil
  | w :: ws => .cons (.str w) (strs_dp ws)
theorem strs_lay : ∀ ws : List Str, (∀ w ∈ ws, (PyData.str w).canLay0 = true) → PyData.canLayAll0 (ws.map PyData.str) = true ∧ PyData.depthAll (ws.map PyData.str) ≤ 1
  | [], _ => ⟨rfl, by decide⟩
  | w :: ws, h => by
    obtain ⟨a, b⟩ := strs_lay ws fun x hx => h x (List.mem_cons_of_mem _ hx)
    refine ⟨?_, ?_⟩
    · show (PyData.canLay0 (.str w) && PyData.canLayAll0 (ws.map PyData.str)) = true
      rw [a, h w (by simp)]
      rfl
    · simp only [List.map_cons, PyData.depthAll, PyData.depth]
      omega
theorem strs_shaped {ws : List Str} (h : ∀ w ∈ ws, (PyData.str w).canLay0 = true) : SeqAt.shaped (.list (ws.map PyData.str)) = true := by
  obtain ⟨a, b⟩ := strs_lay ws h
  have d : (PyData.list (ws.map PyData.str)).depth ≤ 64 := by
    simp only [PyData.depth]
    omega
  show ((PyData.list (ws.map PyData.str)).canLay0 && decide _) = true
  rw [show (PyData.list (ws.map PyData.str)).canLay0 = true from a, decide_eq_true d]
  rfl
theorem eqvAll_strs : ∀ ws us : List Str, PyData.eqvAll (ws.map PyData.str) (us.map PyData.str) = decide (ws = us)
  | [], [] => (by simp [PyData.eqvAll])
  | [], u :: us => by simp [PyData.eqvAll]
  | w :: ws, [] => by simp [PyData.eqvAll]
  | w :: ws, u :: us => by
    have e := eqvAll_strs ws us
    show (PyData.eqv (.str w) (.str u) && PyData.eqvAll (ws.map PyData.str) (us.map PyData.str)) = _
    rw [e, show PyData.eqv (.str w) (.str u) = decide (w = u) by (simp only [PyData.eqv]; exact (Bool.beq_eq_decide_eq w u))]
    by_cases h1 : w = u
    · by_cases h2 : ws = us <;> simp [h1, h2]
    · simp [h1]
theorem eqv_strs (ws us : List Str) : PyData.eqv (.list (ws.map PyData.str)) (.list (us.map PyData.str)) = decide (ws = us) := by
  show PyData.eqvAll (ws.map PyData.str) (us.map PyData.str) = _
  exact eqvAll_strs ws us
/-- each word can be laid -/
def okW (w : Str) : Prop := w.length ≤ 1000000 ∧ (PyData.str w).canLay0 = true
theorem eq_words {K : PySem.W.Frag} {H : Hp} {a b : Addr} {ws us : List Str} {G : VK} (ha : SqL K H a (ws.map V.str)) (hb : SqL K H b (us.map V.str)) (hw : ∀ w ∈ ws, okW w) (hu : ∀ w ∈ us, okW w) (q : G (.bl (decide (ws = us))) H) : rEqD K (.ref a) (.ref b) H G := by
  refine ⟨_, _, .lst ha (strs_dp ws), .lst hb (strs_dp us), strs_shaped fun w h => (hw w h).2, strs_shaped fun w h => (hu w h).2, ?_⟩
  rw [eqv_strs]
  exact q
theorem ne_words {K : PySem.W.Frag} {H : Hp} {a b : Addr} {ws us : List Str} {G : VK} (ha : SqL K H a (ws.map V.str)) (hb : SqL K H b (us.map V.str)) (hw : ∀ w ∈ ws, okW w) (hu : ∀ w ∈ us, okW w) (q : G (.bl (!decide (ws = us))) H) : rNeD K (.ref a) (.ref b) H G := by
  refine ⟨_, _, .lst ha (strs_dp ws), .lst hb (strs_dp us), strs_shaped fun w h => (hw w h).2, strs_shaped fun w h => (hu w h).2, ?_⟩
  rw [eqv_strs]
  exact q
/-! ### rows in the heap -/
def SumAt (H : Hp) (p : Addr) (ts : List Term) : Prop := ∃ refs, H p = some (.tup (refs.map V.ref)) ∧ Paired (TAt H) refs ts
inductive PartAt (H : Hp) (a : Addr) : Part → Prop where
  | there {x : Str} {w : Bool} : H a = some (.tup [.str "there", .str x, .bl w]) → PartAt H a (.there x w)
  | less {x y : Term} {s w : Bool} {p q : Addr} : H a = some (.tup [.str "less", .ref p, .ref q, .bl s, .bl w]) → SumAt H p [x] → SumAt H q [y] → PartAt H a (.less x y s w)
  | same {x y : Term} {w : Bool} {p q : Addr} : H a = some (.tup [.str "same", .ref p, .ref q, .bl w]) → SumAt H p [x] → SumAt H q [y] → PartAt H a (.same x y w)
def PartsAt (H : Hp) (p : Addr) (ps : List Part) : Prop := ∃ refs, H p = some (.tup (refs.map V.ref)) ∧ Paired (PartAt H) refs ps
mutual
/-- a row's tuple; fr: what is known of the lists of rows within -/
inductive RowAt (fr : Addr → Prop) (H : Hp) : Addr → Row → Prop where
  | set {a s : Addr} {l : Nat} {r : Str} {ts : List Term} {d : Option Nat} : H a = some (.tup [.str "set", .int (l : Nat), .str r, .ref s, natV d]) → SumAt H s ts → RowAt fr H a (.set l r ts d)
  | cut {a s : Addr} {l : Nat} {x y : Str} {ts : List Term} : H a = some (.tup [.str "cut", .int (l : Nat), .str x, .ref s, .str y]) → SumAt H s ts → RowAt fr H a (.cut l x ts y)
  | join {a : Addr} {l : Nat} {x y : Str} : H a = some (.tup [.str "join", .int (l : Nat), .str x, .str y]) → RowAt fr H a (.join l x y)
  | shift {a s : Addr} {l : Nat} {x y : Str} {ts : List Term} : H a = some (.tup [.str "shift", .int (l : Nat), .ref s, .str x, .str y]) → SumAt H s ts → RowAt fr H a (.shift l ts x y)
  | mark {a : Addr} {l : Nat} {y : Str} : H a = some (.tup [.str "mark", .int (l : Nat), .str y]) → RowAt fr H a (.mark l y)
  | quit {a : Addr} {l : Nat} : H a = some (.tup [.str "quit", .int (l : Nat)]) → RowAt fr H a (.quit l)
  | ifr {a p ra oa : Addr} {l : Nat} {ps : List Part} {rows others : List Row} {rr orr : List Addr} : H a = some (.tup [.str "if", .int (l : Nat), .ref p, .ref ra, .ref oa]) → PartsAt H p ps → fr ra → H ra = some (.lst (rr.map V.ref)) → RowsAt fr H rr rows → fr oa → H oa = some (.lst (orr.map V.ref)) → RowsAt fr H orr others → RowAt fr H a (.ifr l ps rows others)
inductive RowsAt (fr : Addr → Prop) (H : Hp) : List Addr → List Row → Prop where
  | nil : RowsAt fr H [] []
  | cons {a : Addr} {rr : List Addr} {row : Row} {rows : List Row} : RowAt fr H a row → RowsAt fr H rr rows → RowsAt fr H (a :: rr) (row :: rows)
end
/-- tuples stay, and the lists that are fr -/
structure Keeps (fr : Addr → Prop) (H H' : Hp) : Prop where
  tup : ∀ b xs, H b = some (.tup xs) → H' b = some (.tup xs)
  lst : ∀ b xs, fr b → H b = some (.lst xs) → H' b = some (.lst xs)
theorem SumAt.keep {fr : Addr → Prop} {H H' : Hp} (k : Keeps fr H H') {p : Addr} {ts : List Term} (h : SumAt H p ts) : SumAt H' p ts := by
  obtain ⟨refs, h1, h2⟩ := h
  exact ⟨refs, k.tup _ _ h1, Paired.mapP h2 fun _ _ e => k.tup _ _ e⟩
theorem PartAt.keep {fr : Addr → Prop} {H H' : Hp} (k : Keeps fr H H') {a : Addr} {p : Part} (h : PartAt H a p) : PartAt H' a p := by
  cases h with
  | there e => exact .there (k.tup _ _ e)
  | less e s t => exact .less (k.tup _ _ e) (s.keep k) (t.keep k)
  | same e s t => exact .same (k.tup _ _ e) (s.keep k) (t.keep k)
theorem PartsAt.keep {fr : Addr → Prop} {H H' : Hp} (k : Keeps fr H H') {a : Addr} {ps : List Part} (h : PartsAt H a ps) : PartsAt H' a ps := by
  obtain ⟨refs, h1, h2⟩ := h
  exact ⟨refs, k.tup _ _ h1, Paired.mapP h2 fun _ _ e => e.keep k⟩
mutual
theorem RowAt.keep {fr fr' : Addr → Prop} {H H' : Hp} (k : Keeps fr H H') (hf : ∀ b, fr b → fr' b) {a : Addr} : ∀ {row : Row}, RowAt fr H a row → RowAt fr' H' a row
  | _, .set e s => .set (k.tup _ _ e) (s.keep k)
  | _, .cut e s => .cut (k.tup _ _ e) (s.keep k)
  | _, .join e => .join (k.tup _ _ e)
  | _, .shift e s => .shift (k.tup _ _ e) (s.keep k)
  | _, .mark e => .mark (k.tup _ _ e)
  | _, .quit e => .quit (k.tup _ _ e)
  | _, .ifr e p f1 e1 r1 f2 e2 r2 => .ifr (k.tup _ _ e) (p.keep k) (hf _ f1) (k.lst _ _ f1 e1) (RowsAt.keep k hf r1) (hf _ f2) (k.lst _ _ f2 e2) (RowsAt.keep k hf r2)
theorem RowsAt.keep {fr fr' : Addr → Prop} {H H' : Hp} (k : Keeps fr H H') (hf : ∀ b, fr b → fr' b) : ∀ {rr : List Addr} {rows : List Row}, RowsAt fr H rr rows → RowsAt fr' H' rr rows
  | _, _, .nil => .nil
  | _, _, .cons r rs => .cons (RowAt.keep k hf r) (RowsAt.keep k hf rs)
end
theorem Keeps.same {fr : Addr → Prop} {H H' : Hp} (s : Same H H') : Keeps fr H H' := ⟨fun b xs h => s b _ h, fun b xs _ h => s b _ h⟩
theorem RowsAt.snoc {fr : Addr → Prop} {H : Hp} {a : Addr} {row : Row} (h : RowAt fr H a row) : ∀ {rr : List Addr} {rows : List Row}, RowsAt fr H rr rows → RowsAt fr H (rr ++ [a]) (rows ++ [row])
  | _, _, .nil => .cons h .nil
  | _, _, .cons r rs => .cons r (RowsAt.snoc h rs)
/-! ### the reader's class -/
structure ReaderC (K : PySem.W.Frag) (mg : Str → Option Value) (C fI : Addr) : Prop where
  cls : Cls K C
  made : Mk K C fI
  g : mg "Reader" = some (.ref C)
  no : ∀ f ∈ (["texts", "line"] : List Str), NoAttr K C f
def rdF (tl : Addr) (line : Nat) : List (Str × V) := [("texts", .ref tl), ("line", .int (line : Nat))]
end Pk
namespace Pk
open L2 PyProof.Rows PySem.Spec PySem
/-! ### side_of, moving, deed -/
def spSide : Sp := fun vs H Q _ => ∃ w : Str, vs = [.str w] ∧ w.length ≤ 1000000 ∧ (sideM w = none → ∀ H', Same H H' → Q .non H') ∧ ∀ t, sideM w = some t → ∀ p H', Same H H' → H p = none → SumAt H' p [t] → Q (.ref p) H'
/-- a def of a reader that reads words to a row -/
def spDeed (K : PySem.W.Frag) (C : Addr) (f : Nat → List Str → Option Row) : Sp := fun vs H Q _ => ∃ (r dx tl a : Addr) (line : Nat) (ws : List Str), vs = [.ref r, .ref a] ∧ H r = some (.ins C dx (rdF tl line)) ∧ SqL K H a (ws.map V.str) ∧ ws.length ≤ 1000000 ∧ (∀ w ∈ ws, okW w) ∧
  (f line ws = none → ∀ H', Same H H' → Q .non H') ∧ ∀ row, f line ws = some row → ∀ p H', Same H H' → H p = none → RowAt (fun _ => False) H' p row → Q (.ref p) H'
section
variable {K : PySem.W.Frag} {P : Program} {w : World} {base : Heap} {mg : Str → Option Value} {C fI : Addr}
theorem sc_side_of : FnScope ["word", "pair"] ["word"] (defScope sSide) := ⟨rfl, rfl, rfl, by decide +kernel, rfl, by decide +kernel, by decide +kernel⟩
theorem ok_side_of {f fT : Addr} {fd fdT : FuncData} (F : FunD K "side_of" "side_of" (defArgs sSide) (defBody sSide) (defScope sSide) [] [] f fd) (FT : FunD K "term_of" "term_of" (defArgs sTerm) (defBody sTerm) (defScope sTerm) [] [] fT fdT)
    (GT : FnOk P w K mg base CX0 2 fT fdT ["words"] (spTerm K)) (gT : mg "term_of" = some (.ref fT)) : FnOk P w K mg base CX0 3 f fd ["word"] spSide := by
  have bT : Binds K fdT ["words"] [] := FT.bindsN fun _ _ _ _ _ _ us hl => match us, hl with | [_], _ => rfl
  refine F.ok sc_side_of (fun vs H Q E h => ?_) (fun cdv A outer s H vs Q E hr h => ?_)
  · obtain ⟨w, rfl, _⟩ := h
    rfl
  · obtain ⟨w, rfl, hw, q0, q1⟩ := h
    refine ⟨_, PSs.nox (pss_cons (by exact (ps_set (i := 1) sc_side_of.nd rfl (Or.inl rfl) (pe_call GT (hr.mono (by decide)) rfl gT FT.kp bT .nil pass0 (pa_cons (pe_lst (pa_cons (pv 0) pa_nil)) pa_nil)))) (pss_one (by exact (ps_ret (pe_ifExp (pt_cmp (pc_notN (pv 1))) (pe_tup (pa_cons (pv 1) pa_nil)) pe_non))))), ?_⟩
    refine ⟨_, rfl, by show 1 ≤ sizeLine; decide, fun l hl => ?_⟩
    have S := same_new (o := .lst [.str w]) hl
    refine ⟨l, [w], rfl, SqL.of upd_same, fun x hx => by rw [List.mem_singleton.mp hx]; exact hw, fun e => ?_, fun n f e t ht => ?_⟩
    · exact ⟨_, rfl, _, rfl, q0 (by unfold sideM; rw [e]; rfl) _ S⟩
    · refine ⟨_, rfl, _, rfl, _, rfl, by show 1 ≤ sizeLine; decide, fun p hp => ?_⟩
      have S2 := S.step (o := .tup [.int (n : Nat), nameV f]) ht
      have S3 := S2.step (o := .tup [.ref t]) hp
      refine q1 ((n : Int), f) (by unfold sideM; rw [e]; rfl) p _ S3 (S2.back hp) ⟨[t], upd_same, .cons ?_ .nil⟩
      exact same_new hp _ _ upd_same
theorem sc_Reader_moving : FnScope ["self", "words", "found", "fits"] ["self", "words"] (defScope sMoving) := ⟨rfl, rfl, rfl, by decide +kernel, rfl, by decide +kernel, by decide +kernel⟩
theorem ok_Reader_moving {f fS aP : Addr} {fd fdS : FuncData} (F : FunD K "moving" "Reader.moving" (defArgs sMoving) (defBody sMoving) (defScope sMoving) [] [] f fd) (RD : ReaderC K mg C fI) (FS : FunD K "sum_of" "sum_of" (defArgs sSumOf) (defBody sSumOf) (defScope sSumOf) [] [] fS fdS)
    (GS : FnOk P w K mg base CX0 3 fS fdS ["words"] (spSum K)) (gS : mg "sum_of" = some (.ref fS)) (mLen : mg "len" = none) (gPG : ∃ u, mg "PAGES_reader" = some u ∧ RelV (.ref aP) u) (tP : ∀ H, SqT K H aP (PAGEL.map V.str)) : FnOk P w K mg base CX0 4 f fd ["self", "words"] (spDeed K C movingM) := by
  have bS : Binds K fdS ["words"] [] := FS.bindsN fun _ _ _ _ _ _ us hl => match us, hl with | [_], _ => rfl
  refine F.ok sc_Reader_moving (fun vs H Q E h => ?_) (fun cdv A outer s H vs Q E hr h => ?_)
  · obtain ⟨r, dx, tl, a, line, ws, rfl, _⟩ := h
    rfl
  · obtain ⟨r, dx, tl, a, line, ws, rfl, hR, hS, hl, hw, q0, q1⟩ := h
    refine ⟨_, PSs.nox (C8.pss_cut (by exact (ps_if (PW.pt (pw_or (pt_cmpR op_lt (pe_callB call_len_seq (by rfl) mLen PySem.boot_len (pa_cons (pv 1) pa_nil)) pe_int (nomark _)) (pw_or1 (pt_cmpR (op_notInK K rfl) (pe_ix (ix_listK K rfl) (pv 1) (pe_un un_neg pe_int) (fun _ _ => rfl)) (C8.pe_gc (v := .ref aP) rfl gPG) rfl)))) (pss_one (by exact (ps_ret pe_non))) pss_nil)) (C8.pss_cut (by exact (ps_if (PW.pt (pw_and (pt_cmpR op_eq (pe_ix (ix_listK K rfl) (pv 1) pe_int (fun _ _ => rfl)) pe_str (nomark _)) (pw_and (pt_cmpR (op_inK K rfl) (pe_ix (ix_listK K rfl) (pv 1) pe_int (fun _ _ => rfl)) (C8.pe_gc (v := .ref aP) rfl gPG) rfl) (pw_and (pt_cmpR op_eq (pe_ix (ix_listK K rfl) (pv 1) pe_int (fun _ _ => rfl)) pe_str (nomark _)) (pw_and1 (pt_cmpR op_eq (pe_ix (ix_listK K rfl) (pv 1) (pe_un un_neg pe_int) (fun _ _ => rfl)) pe_str (nomark _))))))) (pss_cons (by exact (ps_set (i := 2) sc_Reader_moving.nd rfl (Or.inl rfl) (pe_call GS (hr.mono (by decide)) rfl gS FS.kp bS .nil pass0 (pa_cons (pe_slice (sl_listK K rfl) (pv 1) (po_some pe_int) (po_some (pe_un un_neg pe_int))) pa_nil)))) (pss_cons (by exact (ps_set (i := 3) sc_Reader_moving.nd rfl (Or.inl rfl) (pe_and (pe_cmpR op_notN (pv 2) pe_non (nomark _)) (pe_one (pe_cmpR op_ne (pe_ix (ix_listK K rfl) (pv 1) pe_int (fun _ _ => rfl)) (pe_ix (ix_listK K rfl) (pv 1) (pe_un un_neg pe_int) (fun _ _ => rfl)) (nomark _)))))) (pss_one (by exact (ps_ret (pe_ifExp (pt_val (pv 3)) (pe_tup (pa_cons pe_str (pa_cons (pe_fld (pv 0) rfl) (pa_cons (pe_ix (ix_listK K rfl) (pv 1) pe_int (fun _ _ => rfl)) (pa_cons (pv 2) (pa_cons (pe_ix (ix_listK K rfl) (pv 1) (pe_un un_neg pe_int) (fun _ _ => rfl)) pa_nil)))))) pe_non)))))) pss_nil)) (C8.pss_cut (by exact (ps_if (PW.pt (pw_or (pt_cmpR op_ne (pe_ix (ix_listK K rfl) (pv 1) pe_int (fun _ _ => rfl)) pe_str (nomark _)) (pw_or (pt_cmpR op_ne (pe_ix (ix_listK K rfl) (pv 1) (pe_un un_neg pe_int) (fun _ _ => rfl)) pe_str (nomark _)) (pw_or (pt_cmpR (op_notInK K rfl) (pe_ix (ix_listK K rfl) (pv 1) (pe_un un_neg pe_int) (fun _ _ => rfl)) (C8.pe_gc (v := .ref aP) rfl gPG) rfl) (pw_or1 (pt_cmpR op_ne (pe_ix (ix_listK K rfl) (pv 1) (pe_un un_neg pe_int) (fun _ _ => rfl)) pe_str (nomark _))))))) (pss_one (by exact (ps_ret pe_non))) pss_nil)) (pss_cons (by exact (ps_set (i := 2) sc_Reader_moving.nd rfl (Or.inl rfl) (pe_call GS (hr.mono (by decide)) rfl gS FS.kp bS .nil pass0 (pa_cons (pe_slice (sl_listK K rfl) (pv 1) (po_some pe_int) (po_some (pe_un un_neg pe_int))) pa_nil)))) (pss_cons (by exact (ps_set (i := 3) sc_Reader_moving.nd rfl (Or.inl rfl) (pe_and (pe_cmpR op_notN (pv 2) pe_non (nomark _)) (pe_one (pe_cmpR op_ne (pe_ix (ix_listK K rfl) (pv 1) (pe_un un_neg pe_int) (fun _ _ => rfl)) (pe_ix (ix_listK K rfl) (pv 1) (pe_un un_neg pe_int) (fun _ _ => rfl)) (nomark _)))))) (pss_one (by exact (ps_ret (pe_ifExp (pt_val (pv 3)) (pe_tup (pa_cons pe_str (pa_cons (pe_fld (pv 0) rfl) (pa_cons (pv 2) (pa_cons (pe_ix (ix_listK K rfl) (pv 1) (pe_un un_neg pe_int) (fun _ _ => rfl)) (pa_cons (pe_ix (ix_listK K rfl) (pv 1) (pe_un un_neg pe_int) (fun _ _ => rfl)) pa_nil)))))) pe_non))))))))), ?_⟩
    have none_ : ∀ {G : Prop}, movingM line ws = none → (Q .non H → G) → G := fun e k => k (q0 e H (Same.refl H))
    refine ⟨fun σ H' => σ = [some (.ref r), some (.ref a), none, none] ∧ H' = H ∧ 6 ≤ ws.length ∧ at_ ws (ws.length - 1) ∈ PAGEL, ?_, ?_⟩
    · refine ⟨_, rfl, a, _, rfl, .inl hS, _, _, rfl, rfl, _, rfl, ite2 (fun e => ?_) fun e => ?_⟩
      · have k : ws.length < 6 := by
          have z : ((ws.map V.str).length : Int) < 6 := of_decide_eq_true e
          rw [map_len] at z
          omega
        exact q0 (by unfold movingM; rw [if_pos (.inl k)]) _ (Same.refl _)
      · have k : 6 ≤ ws.length := by
          have z : ¬ ((ws.map V.str).length : Int) < 6 := fun z => e (decide_eq_true z)
          rw [map_len] at z
          omega
        refine ⟨_, rfl, 1, rfl, a, _, -(1 : Nat), .str (at_ ws (ws.length - 1)), rfl, rfl, hS, at_ng (by decide) (by omega), aP, _, rfl, .inr (tP _), rfl, flat_strs, _, rfl, ite2 (fun e2 => ?_) fun e2 => ?_⟩
        · exact q0 (by unfold movingM; rw [if_pos (.inr (niE e2))]) _ (Same.refl _)
        · exact ⟨rfl, rfl, k, niN e2⟩
    rintro σ H' ⟨rfl, rfl, l6, hX⟩
    have last : ∀ {k : Nat}, 1 ≤ k → k ≤ 6 → atI (ws.map V.str) (-(k : Int)) = some (.str (at_ ws (ws.length - k))) := fun h1 h2 => at_ng h1 (by omega)
    have nb : ¬ (ws.length < 6 ∨ at_ ws (ws.length - 1) ∉ PAGEL) := fun z => z.elim (fun z => by omega) fun z => z hX
    have wsub : ∀ {n m : Nat}, ∀ w ∈ (ws.take n).drop m, w.length ≤ 1000000 := fun w h => (hw w (List.mem_of_mem_take (List.mem_of_mem_drop h))).1
    have lsub : ∀ {n m : Nat}, ((ws.take n).drop m).length ≤ 1000000 := fun {n m} => by
      rw [List.length_drop, List.length_take]
      omega
    refine ⟨fun σ H2 => σ = [some (.ref r), some (.ref a), none, none] ∧ H2 = H' ∧ ¬ (at_ ws 0 = "cut" ∧ at_ ws 1 ∈ PAGEL ∧ at_ ws 2 = "at" ∧ at_ ws (ws.length - 2) = "into"), ?_, ?_⟩
    · refine ⟨_, rfl, a, _, _, .str (at_ ws 0), rfl, rfl, hS, at0 (by omega), rfl, _, rfl, ite2 (fun e1 => ?_) fun e1 => ⟨rfl, rfl, fun z => strN e1 z.1⟩⟩
      refine ⟨_, rfl, a, _, _, .str (at_ ws 1), rfl, rfl, hS, at1 (by omega), aP, _, rfl, .inr (tP _), rfl, flat_strs, _, rfl, ite2 (fun e2 => ?_) fun e2 => ⟨rfl, rfl, fun z => inN e2 z.2.1⟩⟩
      refine ⟨_, rfl, a, _, _, .str (at_ ws 2), rfl, rfl, hS, at2 (by omega), rfl, _, rfl, ite2 (fun e3 => ?_) fun e3 => ⟨rfl, rfl, fun z => strN e3 z.2.2.1⟩⟩
      refine ⟨_, rfl, 2, rfl, a, _, -(2 : Nat), .str (at_ ws (ws.length - 2)), rfl, rfl, hS, last (by decide) (by decide), rfl, _, rfl, ite2 (fun e4 => ?_) fun e4 => ⟨rfl, rfl, fun z => strN e4 z.2.2.2⟩⟩
      have C1 : at_ ws 0 = "cut" ∧ at_ ws 1 ∈ PAGEL ∧ at_ ws 2 = "at" ∧ at_ ws (ws.length - 2) = "into" := ⟨strE e1, inE e2, strE e3, strE e4⟩
      have dm : movingM line ws = (sumM ((ws.take (ws.length - 2)).drop 3)).bind fun ts => if at_ ws 1 ≠ at_ ws (ws.length - 1) then some (.cut line (at_ ws 1) ts (at_ ws (ws.length - 1))) else none := by
        unfold movingM
        rw [if_neg nb, if_pos C1]
        cases sumM ((ws.take (ws.length - 2)).drop 3) <;> rfl
      refine ⟨_, rfl, 3, rfl, 2, rfl, -(2 : Nat), rfl, a, _, rfl, hS, fun l hl1 => ?_⟩
      rw [show cutV (ws.map V.str) (some 3) (some (-(2 : Nat))) = _ from cut_amid (a := 3) (b := 2) (by decide) (by omega)]
      have S1 := same_new (o := .lst (((ws.take (ws.length - 2)).drop 3).map V.str)) hl1
      refine ⟨l, _, rfl, SqL.of upd_same, lsub, wsub, fun e0 H1 s1 => ?_, fun ts e p refs H1 s1 np hp pr => ?_⟩
      · exact ⟨_, rfl, rfl, false, rfl, _, rfl, _, rfl, q0 (by rw [dm, e0]; rfl) _ (S1.trans s1)⟩
      · have sH := S1.trans s1
        have hS1 : SqL K H1 a (ws.map V.str) := sH.seq hS
        refine ⟨_, rfl, rfl, true, rfl, _, rfl, a, _, _, .str (at_ ws 1), rfl, rfl, hS1, at1 (by omega), _, rfl, 1, rfl, a, _, -(1 : Nat), .str (at_ ws (ws.length - 1)), rfl, rfl, hS1, last (by decide) (by decide), rfl, _, rfl, _, rfl, ite2 (fun e5 => ?_) fun e5 => q0 (by rw [dm, e]; exact if_neg fun z => z (neN e5)) _ sH⟩
        refine ⟨_, rfl, r, C, dx, _, .int (line : Nat), rfl, sH _ _ hR, RD.cls, RD.no _ (by simp), rfl, ?_⟩
        refine ⟨_, rfl, a, _, _, .str (at_ ws 1), rfl, rfl, hS1, at1 (by omega), _, rfl, _, rfl, 1, rfl, a, _, -(1 : Nat), .str (at_ ws (ws.length - 1)), rfl, rfl, hS1, last (by decide) (by decide), by show 5 ≤ sizeLine; decide, fun p5 hp5 => ?_⟩
        have S5 := same_new (o := .tup [.str "cut", .int (line : Nat), .str (at_ ws 1), .ref p, .str (at_ ws (ws.length - 1))]) hp5
        exact q1 _ (by rw [dm, e]; exact if_pos (neE e5)) p5 _ (sH.trans S5) (sH.back hp5) (.cut upd_same ⟨refs, S5 _ _ hp, S5.paired pr⟩)
    rintro σ H2 ⟨rfl, rfl, nc⟩
    have NC : ¬ (at_ ws 0 = "cut" ∧ at_ ws 1 ∈ PAGEL ∧ at_ ws 2 = "at" ∧ at_ ws (ws.length - 2) = "into") := nc
    have dn : (at_ ws 0 ≠ "shift" ∨ at_ ws (ws.length - 4) ≠ "from" ∨ at_ ws (ws.length - 3) ∉ PAGEL ∨ at_ ws (ws.length - 2) ≠ "to") → movingM line ws = none := fun z => by
      unfold movingM
      rw [if_neg nb, if_neg NC, if_pos z]
    refine ⟨fun σ H3 => σ = [some (.ref r), some (.ref a), none, none] ∧ H3 = H2 ∧ at_ ws 0 = "shift" ∧ at_ ws (ws.length - 4) = "from" ∧ at_ ws (ws.length - 3) ∈ PAGEL ∧ at_ ws (ws.length - 2) = "to", ?_, ?_⟩
    · refine ⟨_, rfl, a, _, _, .str (at_ ws 0), rfl, rfl, hS, at0 (by omega), rfl, _, rfl, ite2 (fun e1 => q0 (dn (.inl (neE e1))) _ (Same.refl _)) fun e1 => ?_⟩
      refine ⟨_, rfl, 4, rfl, a, _, -(4 : Nat), .str (at_ ws (ws.length - 4)), rfl, rfl, hS, last (by decide) (by decide), rfl, _, rfl, ite2 (fun e2 => q0 (dn (.inr (.inl (neE e2)))) _ (Same.refl _)) fun e2 => ?_⟩
      refine ⟨_, rfl, 3, rfl, a, _, -(3 : Nat), .str (at_ ws (ws.length - 3)), rfl, rfl, hS, last (by decide) (by decide), aP, _, rfl, .inr (tP _), rfl, flat_strs, _, rfl, ite2 (fun e3 => q0 (dn (.inr (.inr (.inl (niE e3))))) _ (Same.refl _)) fun e3 => ?_⟩
      refine ⟨_, rfl, 2, rfl, a, _, -(2 : Nat), .str (at_ ws (ws.length - 2)), rfl, rfl, hS, last (by decide) (by decide), rfl, _, rfl, ite2 (fun e4 => q0 (dn (.inr (.inr (.inr (neE e4))))) _ (Same.refl _)) fun e4 => ?_⟩
      exact ⟨rfl, rfl, neN e1, neN e2, niN e3, neN e4⟩
    rintro σ H3 ⟨rfl, rfl, k1, k2, k3, k4⟩
    have dm : movingM line ws = (sumM ((ws.take (ws.length - 4)).drop 1)).bind fun ts => if at_ ws (ws.length - 3) ≠ at_ ws (ws.length - 1) then some (.shift line ts (at_ ws (ws.length - 3)) (at_ ws (ws.length - 1))) else none := by
      unfold movingM
      rw [if_neg nb, if_neg NC, if_neg (fun z => z.elim (fun z => z k1) fun z => z.elim (fun z => z k2) fun z => z.elim (fun z => z k3) fun z => z k4)]
      cases sumM ((ws.take (ws.length - 4)).drop 1) <;> rfl
    refine ⟨_, rfl, 1, rfl, 4, rfl, -(4 : Nat), rfl, a, _, rfl, hS, fun l hl1 => ?_⟩
    rw [show cutV (ws.map V.str) (some 1) (some (-(4 : Nat))) = _ from cut_amid (a := 1) (b := 4) (by decide) (by omega)]
    have S1 := same_new (o := .lst (((ws.take (ws.length - 4)).drop 1).map V.str)) hl1
    refine ⟨l, _, rfl, SqL.of upd_same, lsub, wsub, fun e0 H1 s1 => ?_, fun ts e p refs H1 s1 np hp pr => ?_⟩
    · exact ⟨_, rfl, rfl, false, rfl, _, rfl, _, rfl, q0 (by rw [dm, e0]; rfl) _ (S1.trans s1)⟩
    · have sH := S1.trans s1
      have hS1 : SqL K H1 a (ws.map V.str) := sH.seq hS
      refine ⟨_, rfl, rfl, true, rfl, _, rfl, 3, rfl, a, _, -(3 : Nat), .str (at_ ws (ws.length - 3)), rfl, rfl, hS1, last (by decide) (by decide), _, rfl, 1, rfl, a, _, -(1 : Nat), .str (at_ ws (ws.length - 1)), rfl, rfl, hS1, last (by decide) (by decide), rfl, _, rfl, _, rfl, ite2 (fun e5 => ?_) fun e5 => q0 (by rw [dm, e]; exact if_neg fun z => z (neN e5)) _ sH⟩
      refine ⟨_, rfl, r, C, dx, _, .int (line : Nat), rfl, sH _ _ hR, RD.cls, RD.no _ (by simp), rfl, ?_⟩
      refine ⟨_, rfl, _, rfl, 3, rfl, a, _, -(3 : Nat), .str (at_ ws (ws.length - 3)), rfl, rfl, hS1, last (by decide) (by decide), _, rfl, 1, rfl, a, _, -(1 : Nat), .str (at_ ws (ws.length - 1)), rfl, rfl, hS1, last (by decide) (by decide), by show 5 ≤ sizeLine; decide, fun p5 hp5 => ?_⟩
      have S5 := same_new (o := .tup [.str "shift", .int (line : Nat), .ref p, .str (at_ ws (ws.length - 3)), .str (at_ ws (ws.length - 1))]) hp5
      exact q1 _ (by rw [dm, e]; exact if_pos (neE e5)) p5 _ (sH.trans S5) (sH.back hp5) (.shift upd_same ⟨refs, S5 _ _ hp, S5.paired pr⟩)
end
end Pk
namespace Pk
open L2 PyProof.Rows PySem.Spec PySem
section
variable {K : PySem.W.Frag} {P : Program} {w : World} {base : Heap} {mg : Str → Option Value} {C fI : Addr}
theorem sc_Reader_deed : FnScope ["self", "words", "found"] ["self", "words"] (defScope sDeed) := ⟨rfl, rfl, rfl, by decide +kernel, rfl, by decide +kernel, by decide +kernel⟩
theorem ok_Reader_deed {f fD fM aP aR : Addr} {fd fdD fdM : FuncData} (F : FunD K "deed" "Reader.deed" (defArgs sDeed) (defBody sDeed) (defScope sDeed) [] [] f fd) (RD : ReaderC K mg C fI) (FD : FunD K "divided" "divided" (defArgs sDiv) (defBody sDiv) (defScope sDiv) [] [] fD fdD)
    (FM : FunD K "moving" "Reader.moving" (defArgs sMoving) (defBody sMoving) (defScope sMoving) [] [] fM fdM) (GD : FnOk P w K mg base CX0 4 fD fdD ["words", "most"] (spDiv K)) (GM : FnOk P w K mg base CX0 4 fM fdM ["self", "words"] (spDeed K C movingM)) (gD : mg "divided" = some (.ref fD)) (mM : Meth K C "moving" fM) (mLen : mg "len" = none)
    (gMF : ∃ u, mg "MOST_FACTOR" = some u ∧ RelV (.int 12) u) (gPG : ∃ u, mg "PAGES_reader" = some u ∧ RelV (.ref aP) u) (tP : ∀ H, SqT K H aP (PAGEL.map V.str)) (gRG : ∃ u, mg "REGISTERS" = some u ∧ RelV (.ref aR) u) (tR : ∀ H, SqT K H aR (REGL.map V.str)) : FnOk P w K mg base CX0 5 f fd ["self", "words"] (spDeed K C deedM) := by
  have bD : Binds K fdD ["words", "most"] [] := FD.bindsN fun _ _ _ _ _ _ us hl => match us, hl with | [_, _], _ => rfl
  have bM : Binds K fdM ["self", "words"] [] := FM.bindsN fun _ _ _ _ _ _ us hl => match us, hl with | [_, _], _ => rfl
  refine F.ok sc_Reader_deed (fun vs H Q E h => ?_) (fun cdv A outer s H vs Q E hr h => ?_)
  · obtain ⟨r, dx, tl, a, line, ws, rfl, _⟩ := h
    rfl
  · obtain ⟨r, dx, tl, a, line, ws, rfl, hR, hS, hl, hw, q0, q1⟩ := h
    have lenE : ∀ {n : Nat}, decide (V.int ((ws.map V.str).length : Nat) = V.int (n : Nat)) = true → ws.length = n := fun {n} e => by
      have z := V.int.inj (of_decide_eq_true e)
      rw [map_len] at z
      omega
    have lenN : ∀ {n : Nat}, ¬ decide (V.int ((ws.map V.str).length : Nat) = V.int (n : Nat)) = true → ¬ ws.length = n := fun e z => e (decide_eq_true (by rw [map_len, z]))
    refine ⟨_, PSs.nox (C8.pss_cut (by exact (ps_if (pt_cmpR (op_eqDK K rfl (Room.units hr)) (pv 1) (pe_lst (pa_cons pe_str pa_nil)) (nomark _)) (pss_one (by exact (ps_ret (pe_tup (pa_cons pe_str (pa_cons (pe_fld (pv 0) rfl) pa_nil)))))) pss_nil)) (C8.pss_cut (by exact (ps_if (PW.pt (pw_and (pt_cmpR op_gt (pe_callB call_len_seq (by rfl) mLen PySem.boot_len (pa_cons (pv 1) pa_nil)) pe_int (nomark _)) (pw_and (pt_cmpR (op_inK K rfl) (pe_ix (ix_listK K rfl) (pv 1) pe_int (fun _ _ => rfl)) (C8.pe_gc (v := .ref aR) rfl gRG) rfl) (pw_and1 (pt_cmpR op_eq (pe_ix (ix_listK K rfl) (pv 1) pe_int (fun _ _ => rfl)) pe_str (nomark _)))))) (pss_cons (by exact (ps_set (i := 2) sc_Reader_deed.nd rfl (Or.inl rfl) (pe_call GD (hr.mono (by decide)) rfl gD FD.kp bD .nil pass0 (pa_cons (pe_slice (sl_listK K rfl) (pv 1) (po_some pe_int) po_none) (pa_cons (C8.pe_gc (v := .int 12) rfl gMF) pa_nil))))) (pss_one (by exact (ps_ret (pe_ifExp (pt_cmp (pc_notN (pv 2))) (pe_tup (pa_cons pe_str (pa_cons (pe_fld (pv 0) rfl) (pa_cons (pe_ix (ix_listK K rfl) (pv 1) pe_int (fun _ _ => rfl)) (StX.pa_star (pv 2) pa_nil))))) pe_non))))) pss_nil)) (C8.pss_cut (by exact (ps_if (PW.pt (pw_and (pt_cmpR op_eq (pe_callB call_len_seq (by rfl) mLen PySem.boot_len (pa_cons (pv 1) pa_nil)) pe_int (nomark _)) (pw_and (pt_cmpR op_eq (pe_ix (ix_listK K rfl) (pv 1) pe_int (fun _ _ => rfl)) pe_str (nomark _)) (pw_and1 (pt_cmpR (op_inK K rfl) (pe_ix (ix_listK K rfl) (pv 1) pe_int (fun _ _ => rfl)) (C8.pe_gc (v := .ref aP) rfl gPG) rfl))))) (pss_one (by exact (ps_ret (pe_tup (pa_cons pe_str (pa_cons (pe_fld (pv 0) rfl) (pa_cons (pe_ix (ix_listK K rfl) (pv 1) pe_int (fun _ _ => rfl)) pa_nil))))))) pss_nil)) (C8.pss_cut (by exact (ps_if (PW.pt (pw_and (pt_cmpR op_eq (pe_callB call_len_seq (by rfl) mLen PySem.boot_len (pa_cons (pv 1) pa_nil)) pe_int (nomark _)) (pw_and (pt_cmpR op_eq (pe_ix (ix_listK K rfl) (pv 1) pe_int (fun _ _ => rfl)) pe_str (nomark _)) (pw_and (pt_cmpR (op_inK K rfl) (pe_ix (ix_listK K rfl) (pv 1) pe_int (fun _ _ => rfl)) (C8.pe_gc (v := .ref aP) rfl gPG) rfl) (pw_and1 (pt_cmpR (op_inK K rfl) (pe_ix (ix_listK K rfl) (pv 1) pe_int (fun _ _ => rfl)) (C8.pe_gc (v := .ref aP) rfl gPG) rfl)))))) (pss_one (by exact (ps_ret (pe_ifExp (pt_cmpR op_ne (pe_ix (ix_listK K rfl) (pv 1) pe_int (fun _ _ => rfl)) (pe_ix (ix_listK K rfl) (pv 1) pe_int (fun _ _ => rfl)) (nomark _)) (pe_tup (pa_cons pe_str (pa_cons (pe_fld (pv 0) rfl) (pa_cons (pe_ix (ix_listK K rfl) (pv 1) pe_int (fun _ _ => rfl)) (pa_cons (pe_ix (ix_listK K rfl) (pv 1) pe_int (fun _ _ => rfl)) pa_nil))))) pe_non)))) pss_nil)) (pss_one (by exact (ps_ret (pe_meth (pv 0) RD.cls mM GM (hr.mono (by decide)) bM .nil pass0 (pa_cons (pv 1) pa_nil))))))))), ?_⟩
    refine ⟨fun σ H' => σ = [some (.ref r), some (.ref a), none] ∧ Same H H' ∧ ¬ ws = [("quit" : Str)], ?_, ?_⟩
    · refine ⟨_, rfl, by show 1 ≤ sizeLine; decide, fun l hl1 => ?_⟩
      have S := same_new (o := .lst [.str "quit"]) hl1
      refine eq_words (ws := ws) (us := [("quit" : Str)]) (S.seq hS) (SqL.of upd_same) hw (fun w h => by rw [List.mem_singleton.mp h]; exact ⟨by decide +kernel, by decide +kernel⟩) ⟨_, rfl, ite2 (fun e => ?_) fun e => ⟨rfl, S, fun z => e (decide_eq_true z)⟩⟩
      have ew : ws = [("quit" : Str)] := of_decide_eq_true e
      refine ⟨_, rfl, r, C, dx, _, .int (line : Nat), rfl, S _ _ hR, RD.cls, RD.no _ (by simp), rfl, by show 2 ≤ sizeLine; decide, fun p hp => ?_⟩
      exact q1 _ (by unfold deedM; rw [if_pos ew]) p _ (S.step hp) (S.back hp) (.quit upd_same)
    rintro σ H1 ⟨rfl, S1, nq⟩
    have hS := S1.seq hS
    have hR := S1 _ _ hR
    have d1 : ∀ {x : Option Row}, (if 2 < ws.length ∧ at_ ws 0 ∈ REGL ∧ at_ ws 1 = "=" then (divM (ws.drop 2) 12).map fun x => .set line (at_ ws 0) x.1 x.2
      else if ws.length = 2 ∧ at_ ws 0 = "mark" ∧ at_ ws 1 ∈ PAGEL then some (.mark line (at_ ws 1))
      else if ws.length = 3 ∧ at_ ws 0 = "join" ∧ at_ ws 1 ∈ PAGEL ∧ at_ ws 2 ∈ PAGEL then (if at_ ws 1 ≠ at_ ws 2 then some (.join line (at_ ws 1) (at_ ws 2)) else none)
      else movingM line ws) = x → deedM line ws = x := fun e => by
      rw [← e]
      unfold deedM
      rw [if_neg nq]
    refine ⟨fun σ H' => σ = [some (.ref r), some (.ref a), none] ∧ H' = H1 ∧ ¬ (2 < ws.length ∧ at_ ws 0 ∈ REGL ∧ at_ ws 1 = "="), ?_, ?_⟩
    · refine ⟨_, rfl, a, _, rfl, .inl hS, _, _, rfl, rfl, _, rfl, ite2 (fun e => ?_) fun e => ⟨rfl, rfl, fun z => e (decide_eq_true (by rw [map_len]; have := z.1; omega))⟩⟩
      have l2 : 2 < ws.length := by
        have z : ((ws.map V.str).length : Int) > 2 := of_decide_eq_true e
        rw [map_len] at z
        omega
      refine ⟨_, rfl, a, _, _, .str (at_ ws 0), rfl, rfl, hS, at0 (by omega), aR, _, rfl, .inr (tR _), rfl, flat_strs, _, rfl, ite2 (fun e1 => ?_) fun e1 => ⟨rfl, rfl, fun z => inN e1 z.2.1⟩⟩
      refine ⟨_, rfl, a, _, _, .str (at_ ws 1), rfl, rfl, hS, at1 (by omega), rfl, _, rfl, ite2 (fun e2 => ?_) fun e2 => ⟨rfl, rfl, fun z => strN e2 z.2.2⟩⟩
      have C1 : 2 < ws.length ∧ at_ ws 0 ∈ REGL ∧ at_ ws 1 = "=" := ⟨l2, inE e1, strE e2⟩
      refine ⟨_, rfl, 2, rfl, a, _, rfl, hS, fun l hl1 => ?_⟩
      rw [show cutV (ws.map V.str) (some 2) none = _ from cut_from (n := 2)]
      have S2 := same_new (o := .lst ((ws.drop 2).map V.str)) hl1
      refine ⟨l, _, 12, rfl, SqL.of upd_same, by rw [List.length_drop]; omega, fun x h => (hw x (List.mem_of_mem_drop h)).1, fun e0 H' s' => ?_, fun x e p H' s' np hp => ?_⟩
      · exact ⟨_, rfl, _, rfl, q0 (d1 (by rw [if_pos C1, e0]; rfl)) _ (S1.trans (S2.trans s'))⟩
      · have sH := S2.trans s'
        obtain ⟨ql, refs, h1, h2, h3⟩ := id hp
        refine ⟨_, rfl, _, rfl, _, rfl, r, C, dx, _, .int (line : Nat), rfl, sH _ _ hR, RD.cls, RD.no _ (by simp), rfl, _, rfl, a, _, _, .str (at_ ws 0), rfl, rfl, sH.seq hS, at0 (by omega), _, rfl, p, _, rfl, .inl (SqT.of h1), by show 5 ≤ sizeLine; decide, fun p5 hp5 => ?_⟩
        have S5 := same_new (o := .tup [.str "set", .int (line : Nat), .str (at_ ws 0), .ref ql, natV x.2]) hp5
        exact q1 _ (d1 (by rw [if_pos C1, e]; rfl)) p5 _ (S1.trans (sH.trans S5)) (S1.back (sH.back hp5)) (.set upd_same ⟨refs, S5 _ _ h2, S5.paired h3⟩)
    rintro σ H2 ⟨rfl, rfl, n1⟩
    have d2 : ∀ {x : Option Row}, (if ws.length = 2 ∧ at_ ws 0 = "mark" ∧ at_ ws 1 ∈ PAGEL then some (.mark line (at_ ws 1))
      else if ws.length = 3 ∧ at_ ws 0 = "join" ∧ at_ ws 1 ∈ PAGEL ∧ at_ ws 2 ∈ PAGEL then (if at_ ws 1 ≠ at_ ws 2 then some (.join line (at_ ws 1) (at_ ws 2)) else none)
      else movingM line ws) = x → deedM line ws = x := fun e => d1 (by rw [if_neg n1]; exact e)
    refine ⟨fun σ H' => σ = [some (.ref r), some (.ref a), none] ∧ H' = H2 ∧ ¬ (ws.length = 2 ∧ at_ ws 0 = "mark" ∧ at_ ws 1 ∈ PAGEL), ?_, ?_⟩
    · refine ⟨_, rfl, a, _, rfl, .inl hS, rfl, _, rfl, ite2 (fun e => ?_) fun e => ⟨rfl, rfl, fun z => lenN (n := 2) e z.1⟩⟩
      have l2 : ws.length = 2 := lenE (n := 2) e
      refine ⟨_, rfl, a, _, _, .str (at_ ws 0), rfl, rfl, hS, at0 (by omega), rfl, _, rfl, ite2 (fun e1 => ?_) fun e1 => ⟨rfl, rfl, fun z => strN e1 z.2.1⟩⟩
      refine ⟨_, rfl, a, _, _, .str (at_ ws 1), rfl, rfl, hS, at1 (by omega), aP, _, rfl, .inr (tP _), rfl, flat_strs, _, rfl, ite2 (fun e2 => ?_) fun e2 => ⟨rfl, rfl, fun z => inN e2 z.2.2⟩⟩
      refine ⟨_, rfl, r, C, dx, _, .int (line : Nat), rfl, hR, RD.cls, RD.no _ (by simp), rfl, _, rfl, a, _, _, .str (at_ ws 1), rfl, rfl, hS, at1 (by omega), by show 3 ≤ sizeLine; decide, fun p hp => ?_⟩
      exact q1 _ (d2 (if_pos ⟨l2, strE e1, inE e2⟩)) p _ (S1.step hp) (S1.back hp) (.mark upd_same)
    rintro σ H3 ⟨rfl, rfl, n2⟩
    refine ⟨fun σ H' => σ = [some (.ref r), some (.ref a), none] ∧ H' = H3 ∧ ¬ (ws.length = 3 ∧ at_ ws 0 = "join" ∧ at_ ws 1 ∈ PAGEL ∧ at_ ws 2 ∈ PAGEL), ?_, ?_⟩
    · refine ⟨_, rfl, a, _, rfl, .inl hS, rfl, _, rfl, ite2 (fun e => ?_) fun e => ⟨rfl, rfl, fun z => lenN (n := 3) e z.1⟩⟩
      have l2 : ws.length = 3 := lenE (n := 3) e
      refine ⟨_, rfl, a, _, _, .str (at_ ws 0), rfl, rfl, hS, at0 (by omega), rfl, _, rfl, ite2 (fun e1 => ?_) fun e1 => ⟨rfl, rfl, fun z => strN e1 z.2.1⟩⟩
      refine ⟨_, rfl, a, _, _, .str (at_ ws 1), rfl, rfl, hS, at1 (by omega), aP, _, rfl, .inr (tP _), rfl, flat_strs, _, rfl, ite2 (fun e2 => ?_) fun e2 => ⟨rfl, rfl, fun z => inN e2 z.2.2.1⟩⟩
      refine ⟨_, rfl, a, _, _, .str (at_ ws 2), rfl, rfl, hS, at2 (by omega), aP, _, rfl, .inr (tP _), rfl, flat_strs, _, rfl, ite2 (fun e3 => ?_) fun e3 => ⟨rfl, rfl, fun z => inN e3 z.2.2.2⟩⟩
      have dm : deedM line ws = if at_ ws 1 ≠ at_ ws 2 then some (.join line (at_ ws 1) (at_ ws 2)) else none := d2 (by rw [if_neg n2, if_pos ⟨l2, strE e1, inE e2, inE e3⟩])
      refine ⟨_, rfl, a, _, _, .str (at_ ws 1), rfl, rfl, hS, at1 (by omega), _, rfl, a, _, _, .str (at_ ws 2), rfl, rfl, hS, at2 (by omega), rfl, _, rfl, ite2 (fun e5 => ?_) fun e5 => q0 (by rw [dm]; exact if_neg fun z => z (neN e5)) _ S1⟩
      refine ⟨_, rfl, r, C, dx, _, .int (line : Nat), rfl, hR, RD.cls, RD.no _ (by simp), rfl, _, rfl, a, _, _, .str (at_ ws 1), rfl, rfl, hS, at1 (by omega), _, rfl, a, _, _, .str (at_ ws 2), rfl, rfl, hS, at2 (by omega), by show 4 ≤ sizeLine; decide, fun p hp => ?_⟩
      exact q1 _ (by rw [dm]; exact if_pos (neE e5)) p _ (S1.step hp) (S1.back hp) (.join upd_same)
    rintro σ H4 ⟨rfl, rfl, n3⟩
    have dm : deedM line ws = movingM line ws := d2 (by rw [if_neg n2, if_neg n3])
    exact ⟨_, rfl, r, dx, _, rfl, hR, rfl, _, rfl, r, dx, tl, a, line, ws, rfl, hR, hS, hl, hw, fun e H' s' => q0 (by rw [dm]; exact e) _ (S1.trans s'), fun row e p H' s' np hp => q1 row (by rw [dm]; exact e) p _ (S1.trans s') (S1.back np) hp⟩
end
end Pk
namespace Pk
open L2 PyProof.Rows PySem.Spec PySem
def spPart (K : PySem.W.Frag) (C : Addr) : Sp := fun vs H Q E => ∃ (r dx tl a : Addr) (line : Nat) (ws : List Str), vs = [.ref r, .ref a] ∧ H r = some (.ins C dx (rdF tl line)) ∧ SqL K H a (ws.map V.str) ∧ ws.length ≤ 1000000 ∧ (∀ w ∈ ws, okW w) ∧
  (partM ws = none → Err1 K "BadLine" "line" (.int (line : Nat)) H E) ∧ ∀ p, partM ws = some p → ∀ t H', Same H H' → H t = none → PartAt H' t p → Q (.ref t) H'
def OptS (H : Hp) (v : V) : Option Term → Prop
  | none => v = .non
  | some t => ∃ p, v = .ref p ∧ SumAt H p [t]
theorem OptS.same {H H' : Hp} {v : V} {o : Option Term} (h : OptS H v o) (s : Same H H') : OptS H' v o := by
  cases o with
  | none => exact h
  | some t =>
    obtain ⟨p, e, h⟩ := h
    exact ⟨p, e, h.keep (Keeps.same (fr := fun _ => True) s)⟩
theorem side_any {w : Str} {H : Hp} {Q : VK} {E : XK} (hl : w.length ≤ 1000000) (q : ∀ v H', Same H H' → OptS H' v (sideM w) → Q v H') : spSide [.str w] H Q E :=
  ⟨w, rfl, hl, fun e H' s => q _ _ s (by rw [e]; rfl), fun t e p H' s n h => q _ _ s (by rw [e]; exact ⟨p, rfl, h⟩)⟩
section
variable {K : PySem.W.Frag} {P : Program} {w : World} {base : Heap} {mg : Str → Option Value} {C fI : Addr}
theorem sc_Reader_part : FnScope ["self", "words", "wanted", "rest", "one", "other"] ["self", "words"] (defScope sPart) := ⟨rfl, rfl, rfl, by decide +kernel, rfl, by decide +kernel, by decide +kernel⟩
theorem ok_Reader_part {f fS aP : Addr} {fd fdS : FuncData} (F : FunD K "part" "Reader.part" (defArgs sPart) (defBody sPart) (defScope sPart) [] [] f fd) (RD : ReaderC K mg C fI) (FS : FunD K "side_of" "side_of" (defArgs sSide) (defBody sSide) (defScope sSide) [] [] fS fdS)
    (GS : FnOk P w K mg base CX0 3 fS fdS ["word"] spSide) (gS : mg "side_of" = some (.ref fS)) (mLen : mg "len" = none) (ER : Errs P K mg) (gPG : ∃ u, mg "PAGES_reader" = some u ∧ RelV (.ref aP) u) (tP : ∀ H, SqT K H aP (PAGEL.map V.str)) : FnOk P w K mg base (L2.CX P w) 4 f fd ["self", "words"] (spPart K C) := by
  have bS : Binds K fdS ["word"] [] := FS.bindsN fun _ _ _ _ _ _ us hl => match us, hl with | [_], _ => rfl
  refine F.ok sc_Reader_part (fun vs H Q E h => ?_) (fun cdv A outer s H vs Q E hr h => ?_)
  · obtain ⟨r, dx, tl, a, line, ws, rfl, _⟩ := h
    rfl
  · obtain ⟨r, dx, tl, a, line, ws, rfl, hR, hS, hl, hw, q0, q1⟩ := h
    obtain ⟨_, IBadLine⟩ := ER.iBadLine
    refine ⟨_, (pss_cons (by exact (ps_set (i := 2) sc_Reader_part.nd rfl (Or.inl rfl) (pe_cmpR (op_neDK K rfl (Room.units hr)) (pe_slice (sl_listK K rfl) (pv 1) po_none (po_some pe_int)) (pe_lst (pa_cons pe_str pa_nil)) (nomark _)))) (C8.pss_cut (by exact (ps_set (i := 3) sc_Reader_part.nd rfl (Or.inl rfl) (pe_ifExp (pt_val (pv 2)) (pv 1) (pe_slice (sl_listK K rfl) (pv 1) (po_some pe_int) po_none)))) (C8.pss_cut (by exact (ps_if (PW.pt (pw_and (pt_cmpR op_eq (pe_callB call_len_seq (by rfl) mLen PySem.boot_len (pa_cons (pv 3) pa_nil)) pe_int (nomark _)) (pw_and (pt_cmpR (op_eqDK K rfl (Room.units hr)) (pe_slice (sl_listK K rfl) (pv 3) po_none (po_some pe_int)) (pe_lst (pa_cons pe_str (pa_cons pe_str pa_nil))) (nomark _)) (pw_and1 (pt_cmpR (op_inK K rfl) (pe_ix (ix_listK K rfl) (pv 3) pe_int (fun _ _ => rfl)) (C8.pe_gc (v := .ref aP) rfl gPG) rfl))))) (pss_one (by exact (ps_ret (pe_tup (pa_cons pe_str (pa_cons (pe_ix (ix_listK K rfl) (pv 3) pe_int (fun _ _ => rfl)) (pa_cons (pv 2) pa_nil))))))) pss_nil)) (C8.pss_cut (by exact (ps_if (PW.pt (pw_and (pt_cmpR op_eq (pe_callB call_len_seq (by rfl) mLen PySem.boot_len (pa_cons (pv 3) pa_nil)) pe_int (nomark _)) (pw_and1 (pt_cmpR op_ne (pe_ix (ix_listK K rfl) (pv 3) pe_int (fun _ _ => rfl)) (pe_ix (ix_listK K rfl) (pv 3) pe_int (fun _ _ => rfl)) (nomark _))))) (pss_cons (by exact (ps_par (i := 4) (j := 5) rfl sc_Reader_part.nd rfl rfl (by decide) rfl rfl (pa_cons (pe_call GS (hr.mono (by decide)) rfl gS FS.kp bS .nil pass0 (pa_cons (pe_ix (ix_listK K rfl) (pv 3) pe_int (fun _ _ => rfl)) pa_nil)) (pa_cons (pe_call GS (hr.mono (by decide)) rfl gS FS.kp bS .nil pass0 (pa_cons (pe_ix (ix_listK K rfl) (pv 3) pe_int (fun _ _ => rfl)) pa_nil)) pa_nil)) rfl)) (C8.pss_cut (by exact (ps_if (PW.pt (pw_and (pt_cmp (pc_notN (pv 4))) (pw_and (pt_cmp (pc_notN (pv 5))) (pw_and1 (pt_cmpR (op_inK K rfl) (pe_ix (ix_listK K rfl) (pv 3) pe_int (fun _ _ => rfl)) (pe_tup (pa_cons pe_str (pa_cons pe_str pa_nil))) rfl))))) (pss_one (by exact (ps_ret (pe_tup (pa_cons pe_str (pa_cons (pv 4) (pa_cons (pv 5) (pa_cons (pe_cmpR op_eq (pe_ix (ix_listK K rfl) (pv 3) pe_int (fun _ _ => rfl)) pe_str (nomark _)) (pa_cons (pv 2) pa_nil))))))))) pss_nil)) (pss_one (by exact (ps_if (PW.pt (pw_and (pt_cmp (pc_notN (pv 4))) (pw_and (pt_cmp (pc_notN (pv 5))) (pw_and1 (pt_cmpR op_eq (pe_ix (ix_listK K rfl) (pv 3) pe_int (fun _ _ => rfl)) pe_str (nomark _)))))) (pss_one (by exact (ps_ret (pe_tup (pa_cons pe_str (pa_cons (pv 4) (pa_cons (pv 5) (pa_cons (pv 2) pa_nil)))))))) pss_nil))))) pss_nil)) (pss_one (by exact (ps_raise rfl (takes_of rfl rfl rfl rfl) (pmk_sup1 IBadLine.sup (okIBadLine IBadLine ER.mS ER.hP) (hr.mono (by decide)) (bIBadLine IBadLine) pass0 rfl (pe_fld (pv 0) rfl))))))))), ?_⟩
    refine ⟨_, rfl, 1, rfl, a, _, rfl, hS, fun l hl1 => ?_⟩
    rw [show cutV (ws.map V.str) none (some 1) = _ from cut_to (n := 1)]
    have S1 := same_new (o := .lst ((ws.take 1).map V.str)) hl1
    refine ⟨by show 1 ≤ sizeLine; decide, fun l2 hl2 => ?_⟩
    have S2 := S1.step (o := .lst [.str "not"]) hl2
    refine ne_words (ws := ws.take 1) (us := [("not" : Str)]) (SqL.of (same_new hl2 _ _ upd_same)) (SqL.of upd_same) (fun w h => hw w (List.mem_of_mem_take h)) (fun w h => by rw [List.mem_singleton.mp h]; exact ⟨by decide +kernel, by decide +kernel⟩) ?_
    have hwM : (!decide (ws.take 1 = [("not" : Str)])) = wantedM ws := rfl
    rw [hwM]
    generalize hwv : wantedM ws = wv
    have rs : restM ws = if wv = true then ws else ws.drop 1 := by
      unfold restM
      rw [hwv]
    have ok0 : ∀ w ∈ restM ws, okW w := fun w h => by
      rw [rs] at h
      split at h
      · exact hw w h
      · exact hw w (List.mem_of_mem_drop h)
    refine ⟨fun σ H' => ∃ b : Addr, σ = [some (.ref r), some (.ref a), some (.bl wv), some (.ref b), none, none] ∧ Same H H' ∧ SqL K H' b ((restM ws).map V.str), ?_, ?_⟩
    · refine ⟨_, rfl, _, rfl, ite2 (fun e => ?_) fun e => ?_⟩
      · exact ⟨_, rfl, a, rfl, S2, by rw [rs, if_pos e]; exact S2.seq hS⟩
      · refine ⟨_, rfl, 1, rfl, a, _, rfl, S2.seq hS, fun l3 hl3 => ?_⟩
        rw [show cutV (ws.map V.str) (some 1) none = _ from cut_from (n := 1)]
        exact ⟨l3, rfl, S2.step hl3, by rw [rs, if_neg e]; exact SqL.of upd_same⟩
    clear rs S1 S2 hl1 hl2 hwM
    rintro σ H1 ⟨b, rfl, S1, hB⟩
    have hR1 := S1 _ _ hR
    have pm : partM ws = (if (restM ws).length = 3 ∧ (restM ws).take 2 = [("there" : Str), ("is" : Str)] ∧ at_ (restM ws) 2 ∈ PAGEL then some (.there (at_ (restM ws) 2) wv)
      else if (restM ws).length = 3 ∧ at_ (restM ws) 0 ≠ at_ (restM ws) 2 then (sideM (at_ (restM ws) 0)).bind fun a => (sideM (at_ (restM ws) 2)).bind fun b => if at_ (restM ws) 1 = "<" ∨ at_ (restM ws) 1 = "<=" then some (.less a b (decide (at_ (restM ws) 1 = "<")) wv) else if at_ (restM ws) 1 = "is" then some (.same a b wv) else none
      else none) := by
      unfold partM
      rw [hwv]
      cases sideM (at_ (restM ws) 0) <;> cases sideM (at_ (restM ws) 2) <;> rfl
    generalize restM ws = us at hB ok0 pm
    have lenE : ∀ {n : Nat}, decide (V.int ((us.map V.str).length : Nat) = V.int (n : Nat)) = true → us.length = n := fun {n} e => by
      have z := V.int.inj (of_decide_eq_true e)
      rw [map_len] at z
      omega
    have lenN : ∀ {n : Nat}, ¬ decide (V.int ((us.map V.str).length : Nat) = V.int (n : Nat)) = true → ¬ us.length = n := fun e z => e (decide_eq_true (by rw [map_len, z]))
    refine ⟨fun σ H' => σ = [some (.ref r), some (.ref a), some (.bl wv), some (.ref b), none, none] ∧ Same H H' ∧ SqL K H' b (us.map V.str) ∧ ¬ (us.length = 3 ∧ us.take 2 = [("there" : Str), ("is" : Str)] ∧ at_ us 2 ∈ PAGEL), ?_, ?_⟩
    · refine ⟨_, rfl, b, _, rfl, .inl hB, rfl, _, rfl, ite2 (fun e => ?_) fun e => ⟨rfl, S1, hB, fun z => lenN (n := 3) e z.1⟩⟩
      have l3 : us.length = 3 := lenE (n := 3) e
      refine ⟨_, rfl, 2, rfl, b, _, rfl, hB, fun l hl1 => ?_⟩
      rw [show cutV (us.map V.str) none (some 2) = _ from cut_to (n := 2)]
      have T1 := same_new (o := .lst ((us.take 2).map V.str)) hl1
      refine ⟨by show 2 ≤ sizeLine; decide, fun l2 hl2 => ?_⟩
      have T2 := T1.step (o := .lst [.str "there", .str "is"]) hl2
      refine eq_words (ws := us.take 2) (us := [("there" : Str), ("is" : Str)]) (SqL.of (same_new hl2 _ _ upd_same)) (SqL.of upd_same) (fun w h => ok0 w (List.mem_of_mem_take h)) (fun w h => by
        simp only [List.mem_cons, List.not_mem_nil, or_false] at h
        rcases h with h | h <;> rw [h] <;> exact ⟨by decide +kernel, by decide +kernel⟩) ?_
      refine ⟨_, rfl, ite2 (fun e1 => ?_) fun e1 => ⟨rfl, S1.trans T2, T2.seq hB, fun z => e1 (decide_eq_true z.2.1)⟩⟩
      refine ⟨_, rfl, b, _, _, .str (at_ us 2), rfl, rfl, T2.seq hB, at2 (by omega), aP, _, rfl, .inr (tP _), rfl, flat_strs, _, rfl, ite2 (fun e2 => ?_) fun e2 => ⟨rfl, S1.trans T2, T2.seq hB, fun z => inN e2 z.2.2⟩⟩
      refine ⟨_, rfl, b, _, _, .str (at_ us 2), rfl, rfl, T2.seq hB, at2 (by omega), _, rfl, by show 3 ≤ sizeLine; decide, fun p hp => ?_⟩
      exact q1 _ (by rw [pm, if_pos ⟨l3, of_decide_eq_true e1, inE e2⟩]) p _ ((S1.trans T2).step hp) ((S1.trans T2).back hp) (.there upd_same)
    rintro σ H2 ⟨rfl, S2, hB2, n1⟩
    rw [if_neg n1] at pm
    have bad : ∀ {H'}, Same H H' → partM ws = none → Err1 K "BadLine" "line" (.int (line : Nat)) H' E := fun s e d H3 s3 n3 => q0 e d H3 (s.trans s3) n3
    refine ⟨fun σ H' => (∃ y4 y5, σ = [some (.ref r), some (.ref a), some (.bl wv), some (.ref b), y4, y5]) ∧ Same H H' ∧ partM ws = none, ?_, ?_⟩
    · refine ⟨_, rfl, b, _, rfl, .inl hB2, rfl, _, rfl, ite2 (fun e => ?_) fun e => ⟨⟨_, _, rfl⟩, S2, by rw [pm, if_neg fun z => lenN (n := 3) e z.1]⟩⟩
      have l3 : us.length = 3 := lenE (n := 3) e
      refine ⟨_, rfl, b, _, _, .str (at_ us 0), rfl, rfl, hB2, at0 (by omega), _, rfl, b, _, _, .str (at_ us 2), rfl, rfl, hB2, at2 (by omega), rfl, _, rfl, ite2 (fun e1 => ?_) fun e1 => ⟨⟨_, _, rfl⟩, S2, by rw [pm, if_neg fun z => z.2 (neN e1)]⟩⟩
      rw [if_pos ⟨l3, neE e1⟩] at pm
      have ow : ∀ {i : Nat}, i < 3 → (at_ us i).length ≤ 1000000 := fun h => (ok0 _ (at_mem (by omega))).1
      refine ⟨_, rfl, b, _, _, .str (at_ us 0), rfl, rfl, hB2, at0 (by omega), ?_⟩
      dsimp only [tNil]
      refine side_any (w := at_ us 0) (ow (i := 0) (by decide)) fun v4 H4 s4 o4 => ?_
      refine ⟨_, rfl, b, _, _, .str (at_ us 2), rfl, rfl, s4.seq hB2, at2 (by omega), ?_⟩
      dsimp only [tNil]
      refine side_any (w := at_ us 2) (ow (i := 2) (by decide)) fun v5 H5 s5 o5 => ?_
      refine ⟨_, _, rfl, ?_⟩
      have S5 := S2.trans (s4.trans s5)
      have hB5 := (s4.trans s5).seq hB2
      have o4 := o4.same s5
      have none_ : (sideM (at_ us 0) = none ∨ sideM (at_ us 2) = none) → partM ws = none := fun z => by
        rw [pm]
        rcases z with z | z
        · rw [z]
          rfl
        · rw [z]
          cases sideM (at_ us 0) <;> rfl
      cases e4 : sideM (at_ us 0) with
      | none =>
        rw [e4] at o4
        have o4 : v4 = .non := o4
        subst o4
        refine ⟨fun σ H' => σ = [some (.ref r), some (.ref a), some (.bl wv), some (.ref b), some .non, some v5] ∧ H' = H5, ⟨_, rfl, _, rfl, rfl, rfl⟩, ?_⟩
        rintro σ H' ⟨rfl, rfl⟩
        exact ⟨_, rfl, _, rfl, ⟨_, _, rfl⟩, S5, none_ (.inl e4)⟩
      | some t4 => cases e5 : sideM (at_ us 2) with
        | none =>
          rw [e5] at o5
          have o5 : v5 = .non := o5
          subst o5
          rw [e4] at o4
          obtain ⟨p4, rfl, h4⟩ := o4
          refine ⟨fun σ H' => σ = [some (.ref r), some (.ref a), some (.bl wv), some (.ref b), some (.ref p4), some .non] ∧ H' = H5, ⟨_, rfl, _, rfl, _, rfl, _, rfl, rfl, rfl⟩, ?_⟩
          rintro σ H' ⟨rfl, rfl⟩
          exact ⟨_, rfl, _, rfl, _, rfl, _, rfl, ⟨_, _, rfl⟩, S5, none_ (.inr e5)⟩
        | some t5 =>
          rw [e5] at o5
          rw [e4] at o4
          obtain ⟨p4, rfl, h4⟩ := o4
          obtain ⟨p5, rfl, h5⟩ := o5
          have pm : partM ws = if at_ us 1 = "<" ∨ at_ us 1 = "<=" then some (.less t4 t5 (decide (at_ us 1 = "<")) wv) else if at_ us 1 = "is" then some (.same t4 t5 wv) else none := by
            rw [pm, e4, e5]
            rfl
          refine ⟨fun σ H' => σ = [some (.ref r), some (.ref a), some (.bl wv), some (.ref b), some (.ref p4), some (.ref p5)] ∧ Same H5 H' ∧ ¬ (at_ us 1 = "<" ∨ at_ us 1 = "<="), ?_, ?_⟩
          · refine ⟨_, rfl, _, rfl, _, rfl, _, rfl, _, rfl, b, _, _, .str (at_ us 1), rfl, rfl, hB5, at1 (by omega), by show 2 ≤ sizeLine; decide, fun t2 ht2 => ?_⟩
            have T := same_new (o := .tup [.str "<", .str "<="]) ht2
            refine ⟨t2, _, rfl, .inr (SqT.of upd_same), rfl, rfl, _, rfl, ite2 (fun e6 => ?_) fun e6 => ⟨rfl, T, fun z => inN (l := ["<", "<="]) e6 (by rcases z with z | z <;> rw [z] <;> simp)⟩⟩
            have m6 : at_ us 1 = "<" ∨ at_ us 1 = "<=" := by
              have z := inE (l := ["<", "<="]) e6
              simpa using z
            refine ⟨_, rfl, _, rfl, _, rfl, b, _, _, .str (at_ us 1), rfl, rfl, T.seq hB5, at1 (by omega), rfl, _, rfl, by show 5 ≤ sizeLine; decide, fun p hp => ?_⟩
            have T2 := same_new (o := .tup [.str "less", .ref p4, .ref p5, .bl (decide (V.str (at_ us 1) = V.str "<")), .bl wv]) hp
            have eD : decide (V.str (at_ us 1) = V.str "<") = decide (at_ us 1 = "<") := decide_eq_decide.mpr ⟨V.str.inj, fun z => by rw [z]⟩
            refine q1 _ (by rw [pm, if_pos m6]) p _ (S5.trans (T.trans T2)) (S5.back (T.back hp)) (.less (p := p4) (q := p5) ?_ (h4.keep (Keeps.same (fr := fun _ => True) (T.trans T2))) (h5.keep (Keeps.same (fr := fun _ => True) (T.trans T2))))
            rw [← eD]
            exact upd_same
          rintro σ H6 ⟨rfl, S6, n6⟩
          refine ⟨_, rfl, _, rfl, _, rfl, _, rfl, _, rfl, b, _, _, .str (at_ us 1), rfl, rfl, S6.seq hB5, at1 (by omega), rfl, _, rfl, ite2 (fun e7 => ?_) fun e7 => ⟨⟨_, _, rfl⟩, S5.trans S6, by rw [pm, if_neg n6, if_neg (strN e7)]⟩⟩
          refine ⟨_, rfl, _, rfl, _, rfl, by show 4 ≤ sizeLine; decide, fun p hp => ?_⟩
          have T2 := same_new (o := .tup [.str "same", .ref p4, .ref p5, .bl wv]) hp
          exact q1 _ (by rw [pm, if_neg n6, if_pos (strE e7)]) p _ (S5.trans (S6.trans T2)) (S5.back (S6.back hp)) (.same upd_same (h4.keep (Keeps.same (fr := fun _ => True) (S6.trans T2))) (h5.keep (Keeps.same (fr := fun _ => True) (S6.trans T2))))
    rintro σ H3 ⟨⟨y4, y5, rfl⟩, S3, e⟩
    exact ⟨_, rfl, r, C, dx, _, .int (line : Nat), rfl, S3 _ _ hR, RD.cls, RD.no _ (by simp), rfl, fun d hd => bad S3 e d _ (Same.refl _) hd⟩
end
end Pk
namespace Pk
open L2 PyProof.Rows PySem.Spec PySem
def spParts (K : PySem.W.Frag) (C : Addr) : Sp := fun vs H Q E => ∃ (r dx tl a : Addr) (line : Nat) (ws : List Str), vs = [.ref r, .ref a] ∧ H r = some (.ins C dx (rdF tl line)) ∧ SqL K H a (ws.map V.str) ∧ ws.length ≤ 900000 ∧ (∀ w ∈ ws, okW w) ∧
  (partsM ws = none → Err1 K "BadLine" "line" (.int (line : Nat)) H E) ∧ ∀ ps, partsM ws = some ps → ∀ t H', Same H H' → H t = none → PartsAt H' t ps → Q (.ref t) H'
theorem paired_snoc {α β : Type} {R : α → β → Prop} {a : α} {b : β} (h : R a b) : ∀ {xs : List α} {ys : List β}, Paired R xs ys → Paired R (xs ++ [a]) (ys ++ [b])
  | _, _, .nil => .cons h .nil
  | _, _, .cons r rs => .cons r (paired_snoc h rs)
structure PartsI (K : PySem.W.Frag) (H0 : Hp) (ws : List Str) (fa pt la : Addr) (i : Nat) (refs : List Addr) (found : List Part) (part : List Str) (H : Hp) : Prop where
  same : Same H0 H
  nf : H0 fa = none
  np : H0 pt = none
  ne : fa ≠ pt
  hf : H fa = some (.lst (refs.map V.ref))
  hp : H pt = some (.lst (part.map V.str))
  hl : H la = some (.lst ((ws ++ [("and" : Str)]).map V.str))
  lf : la ≠ fa
  lp : la ≠ pt
  pr : Paired (PartAt H) refs found
  ok : ∀ w ∈ part, okW w
  len : part.length ≤ i
  fl : found.length ≤ i
  go : partsGo (ws ++ [("and" : Str)]) [] [] = partsGo ((ws ++ [("and" : Str)]).drop i) found part
section
variable {K : PySem.W.Frag} {P : Program} {w : World} {base : Heap} {mg : Str → Option Value} {C fI : Addr}
theorem sc_Reader_read_parts : FnScope ["self", "words", "found", "part", "word"] ["self", "words"] (defScope sParts) := ⟨rfl, rfl, rfl, by decide +kernel, rfl, by decide +kernel, by decide +kernel⟩
theorem ok_Reader_read_parts {f fP : Addr} {fd fdP : FuncData} (F : FunD K "read_parts" "Reader.read_parts" (defArgs sParts) (defBody sParts) (defScope sParts) [] [] f fd) (RD : ReaderC K mg C fI) (FP : FunD K "part" "Reader.part" (defArgs sPart) (defBody sPart) (defScope sPart) [] [] fP fdP)
    (GP : FnOk P w K mg base (L2.CX P w) 4 fP fdP ["self", "words"] (spPart K C)) (mP : Meth K C "part" fP) (mLen : mg "len" = none) (mTuple : mg "tuple" = none) (ER : Errs P K mg) (gMP : ∃ u, mg "MOST_PARTS" = some u ∧ RelV (.int 4) u) : FnOk P w K mg base (L2.CX P w) 5 f fd ["self", "words"] (spParts K C) := by
  have bP : Binds K fdP ["self", "words"] [] := FP.bindsN fun _ _ _ _ _ _ us hl => match us, hl with | [_, _], _ => rfl
  refine F.ok sc_Reader_read_parts (fun vs H Q E h => ?_) (fun cdv A outer s H vs Q E hr h => ?_)
  · obtain ⟨r, dx, tl, a, line, ws, rfl, _⟩ := h
    rfl
  · obtain ⟨r, dx, tl, a, line, ws, rfl, hR, hS, hl, hw, q0, q1⟩ := h
    obtain ⟨_, IBadLine⟩ := ER.iBadLine
    have hand : okW ("and" : Str) := ⟨by decide +kernel, by decide +kernel⟩
    refine ⟨_, (pss_cons (by exact (ps_set (i := 2) sc_Reader_read_parts.nd rfl (Or.inl rfl) (pe_lst pa_nil))) (pss_cons (by exact (ps_set (i := 3) sc_Reader_read_parts.nd rfl (Or.inl rfl) (pe_lst pa_nil))) (pss_cons (by exact (ps_for (passes_of rfl) rfl (pi_list (pe_lst (StX.pa_star (pv 1) (pa_cons pe_str pa_nil)))) (pg_name (i := 4) sc_Reader_read_parts.nd rfl (Or.inl rfl)) (pss_one (by exact (ps_if (pt_cmpR op_eq (pv 4) pe_str (nomark _)) (pss_cons (by exact (ps_expr (pe_bm PySem.F.plainAttrs_list PySem.F.slot_list_append PySem.F.type_list_append mt_append (pv 2) (pa_cons (pe_meth (pv 0) RD.cls mP GP (hr.mono (by decide)) bP .nil (passes_call (takes_of rfl rfl rfl rfl) (fun _ _ _ _ h => h)) (pa_cons (pv 3) pa_nil)) pa_nil)))) (pss_one (by exact (ps_set (i := 3) sc_Reader_read_parts.nd rfl (Or.inl rfl) (pe_lst pa_nil))))) (pss_one (by exact (ps_expr (pe_bm PySem.F.plainAttrs_list PySem.F.slot_list_append PySem.F.type_list_append mt_append (pv 3) (pa_cons (pv 4) pa_nil)))))))))) (pss_cons (by exact (ps_if (pt_cmpR op_gt (pe_callB call_len_seq (by rfl) mLen PySem.boot_len (pa_cons (pv 2) pa_nil)) (C8.pe_gc (v := .int 4) rfl gMP) (nomark _)) (pss_one (by exact (ps_raise rfl (takes_of rfl rfl rfl rfl) (pmk_sup1 IBadLine.sup (okIBadLine IBadLine ER.mS ER.hP) (hr.mono (by decide)) (bIBadLine IBadLine) pass0 rfl (pe_fld (pv 0) rfl))))) pss_nil)) (pss_one (by exact (ps_ret (pe_callTy call_tuple_of (by rfl) mTuple (by decide +kernel) (pa_cons (pv 2) pa_nil))))))))), ?_⟩
    refine ⟨by show 0 ≤ sizeLine; decide, fun fa hfa => ⟨by show 0 ≤ sizeLine; decide, fun pt hpt => ?_⟩⟩
    have S2 := (same_new (o := .lst []) hfa).step (o := .lst []) hpt
    refine ⟨_, rfl, a, _, rfl, .inr (S2.seq hS), by show (ws.map V.str ++ [V.str "and"]).length ≤ sizeLine; rw [List.length_append, List.length_map]; exact Nat.le_trans (Nat.succ_le_succ hl) (by decide), fun la hla => ?_⟩
    have eqL : ws.map V.str ++ [V.str "and"] = (ws ++ [("and" : Str)]).map V.str := by
      rw [List.map_append]
      rfl
    rw [eqL]
    have S3 := S2.step (o := .lst ((ws ++ [("and" : Str)]).map V.str)) hla
    have n1 : fa ≠ pt := fun z => by
      rw [← z, upd_same] at hpt
      cases hpt
    have f1 : upd (upd H fa (.lst [])) pt (.lst []) fa = some (.lst []) := by
      rw [upd_ne n1]
      exact upd_same
    have n2 : la ≠ fa := fun z => by
      rw [z, f1] at hla
      cases hla
    have n3 : la ≠ pt := fun z => by
      rw [z, upd_same] at hla
      cases hla
    have npt : H pt = none := (same_new (o := .lst []) hfa).back hpt
    have lenw : (ws ++ [("and" : Str)]).length ≤ 900001 := by
      rw [List.length_append]
      exact Nat.succ_le_succ hl
    have okA : ∀ w ∈ ws ++ [("and" : Str)], okW w := fun w h => by
      rcases (List.mem_append.mp h) with h | h
      · exact hw w h
      · rw [List.mem_singleton.mp h]
        exact hand
    have bad : ∀ {H'}, Same H H' → partsM ws = none → Err1 K "BadLine" "line" (.int (line : Nat)) H' E := fun s e d H3 s3 n3 => q0 e d H3 (s.trans s3) n3
    refine ⟨la, rfl, ⟨_, SqL.of upd_same⟩, for_list (K := K) (a := la) (xs := (ws ++ [("and" : Str)]).map V.str) (fun i σ H' => ∃ (refs : List Addr) (found : List Part) (part : List Str) (pt : Addr) (v4 : Option V), σ = [some (.ref r), some (.ref a), some (.ref fa), some (.ref pt), v4] ∧ PartsI K H ws fa pt la i refs found part H') ?_ ?_ ?_ ?_⟩
    · refine ⟨[], [], [], pt, none, rfl, S3, hfa, npt, n1, ?_, ?_, upd_same, n2, n3, .nil, fun w h => (by cases h), Nat.le_refl _, Nat.le_refl _, rfl⟩
      · rw [upd_ne (Ne.symm n2)]
        exact f1
      · rw [upd_ne (Ne.symm n3)]
        exact upd_same
    · rintro i σ H' _ ⟨refs, found, part, pt, v4, rfl, I⟩
      exact SqL.of I.hl
    · rintro i v σ H' hi ⟨refs, found, part, pt, v4, rfl, I⟩
      obtain ⟨x, hx, rfl⟩ : ∃ x, (ws ++ [("and" : Str)])[i]? = some x ∧ v = .str x := by
        rw [List.getElem?_map] at hi
        cases e : (ws ++ [("and" : Str)])[i]? with
        | none => rw [e] at hi; cases hi
        | some x => rw [e] at hi; exact ⟨x, rfl, (Option.some.inj hi).symm⟩
      have hlt := (List.getElem?_eq_some_iff.mp hx).1
      have hdr : (ws ++ [("and" : Str)]).drop i = x :: (ws ++ [("and" : Str)]).drop (i + 1) := by
        rw [List.drop_eq_getElem_cons hlt]; rw [List.getElem?_eq_getElem hlt] at hx
        rw [Option.some.inj hx]
      have go := I.go
      rw [hdr] at go
      refine ⟨_, rfl, rfl, _, rfl, ite2 (fun e => ?_) fun e => ?_⟩
      · have ex : x = "and" := strE e
        rw [partsGo, if_pos ex] at go
        refine ⟨_, rfl, .inl ⟨rfl, _, SqL.of I.hf⟩, ?_⟩
        refine ⟨_, rfl, r, dx, _, rfl, I.same _ _ hR, rfl, _, rfl, r, dx, tl, pt, line, part, rfl, I.same _ _ hR, SqL.of I.hp, by have := I.len; omega, I.ok, fun e0 => ?_, fun p e1 t H4 s4 n4 h4 => ?_⟩
        · refine bad I.same ?_
          unfold partsM
          rw [go, e0]
        · rw [e1] at go
          have hf4 := s4 _ _ I.hf
          refine ⟨fa, _, _, rfl, rfl, hf4, ?_, ?_⟩
          · rw [List.length_map, ← paired_len I.pr]
            exact Nat.lt_of_le_of_lt I.fl (Nat.lt_of_lt_of_le (show i < 1000000 by omega) (by decide))
          · refine ⟨by show 0 ≤ sizeLine; decide, fun pn hpn => ?_⟩
            have tf : t ≠ fa := fun z => by
              rw [z, I.hf] at n4
              cases n4
            have kk : ∀ b xs, H4 b = some (.tup xs) → upd H4 fa (.lst (refs.map V.ref ++ [V.ref t])) b = some (.tup xs) := fun b xs h => by
              rw [upd_ne (fun z => by rw [z, hf4] at h; cases h)]
              exact h
            have pnf : pn ≠ fa := fun z => by
              rw [z, upd_same] at hpn
              cases hpn
            have npn : H pn = none := I.same.back (s4.back (by rw [upd_ne pnf] at hpn; exact hpn))
            have kp : Keeps (fun _ => False) H4 (upd (upd H4 fa (.lst (refs.map V.ref ++ [V.ref t]))) pn (.lst [])) := ⟨fun b xs h => same_new hpn _ _ (kk b xs h), fun b xs h => h.elim⟩
            have sm : Same H (upd (upd H4 fa (.lst (refs.map V.ref ++ [V.ref t]))) pn (.lst [])) := fun b o h => by
              refine same_new hpn _ _ ?_
              rw [upd_ne (fun z => by rw [z, I.nf] at h; cases h)]
              exact s4 _ _ (I.same _ _ h)
            refine ⟨refs ++ [t], found ++ [p], [], pn, _, rfl, sm, I.nf, npn, Ne.symm pnf, ?_, upd_same, ?_, I.lf, ?_, ?_, fun w h => (by cases h), Nat.zero_le _, ?_, go⟩
            · rw [upd_ne (Ne.symm pnf), upd_same, List.map_append]
              rfl
            · refine same_new hpn _ _ ?_
              rw [upd_ne I.lf]
              exact s4 _ _ I.hl
            · intro z
              rw [← z, upd_ne I.lf, s4 _ _ I.hl] at hpn
              cases hpn
            · refine paired_snoc (h4.keep kp) (Paired.mapP I.pr fun _ _ h => ?_)
              exact (h.keep (Keeps.same (fr := fun _ => True) s4)).keep kp
            · rw [List.length_append]
              have := I.fl
              show _ + 1 ≤ i + 1
              omega
      · have ex : ¬ x = "and" := strN e
        rw [partsGo, if_neg ex] at go
        refine ⟨_, rfl, .inl ⟨rfl, _, SqL.of I.hp⟩, _, rfl, pt, _, _, rfl, rfl, I.hp, ?_, ?_⟩
        · rw [List.length_map]
          exact Nat.lt_of_le_of_lt I.len (Nat.lt_of_lt_of_le (show i < 1000000 by omega) (by decide))
        · have kp : Keeps (fun _ => False) H' (upd H' pt (.lst (part.map V.str ++ [V.str x]))) := ⟨fun b xs h => by
            rw [upd_ne (fun z => by rw [z, I.hp] at h; cases h)]
            exact h, fun b xs h => h.elim⟩
          refine ⟨refs, found, part ++ [x], pt, _, rfl, ?_, I.nf, I.np, I.ne, ?_, ?_, ?_, I.lf, I.lp, Paired.mapP I.pr fun _ _ h => h.keep kp, ?_, ?_, Nat.le_succ_of_le I.fl, go⟩
          · intro b o h
            rw [upd_ne (fun z => by rw [z, I.np] at h; cases h)]
            exact I.same _ _ h
          · rw [upd_ne I.ne]
            exact I.hf
          · rw [upd_same, List.map_append]
            rfl
          · rw [upd_ne I.lp]
            exact I.hl
          · intro w h
            rcases (List.mem_append.mp h) with h | h
            · exact I.ok w h
            · rw [List.mem_singleton.mp h]
              exact okA x (List.mem_of_getElem? hx)
          · rw [List.length_append]
            have := I.len
            show _ + 1 ≤ i + 1
            omega
    · rintro σ H' ⟨refs, found, part, pt, v4, rfl, I⟩
      have go := I.go
      rw [map_len, List.drop_length, partsGo] at go
      have pm : partsM ws = if found.length ≤ 4 then some found else none := by
        unfold partsM
        rw [go]
      refine ⟨_, rfl, fa, _, rfl, .inl (SqL.of I.hf), _, _, rfl, rfl, _, rfl, ite2 (fun e => ?_) fun e => ?_⟩
      · have k : ((refs.map V.ref).length : Int) > 4 := of_decide_eq_true e
        rw [List.length_map, ← paired_len I.pr] at k
        refine ⟨_, rfl, r, C, dx, _, .int (line : Nat), rfl, I.same _ _ hR, RD.cls, RD.no _ (by simp), rfl, fun d hd => bad I.same (by rw [pm, if_neg (by omega)]) d _ (Same.refl _) hd⟩
      · have k : ¬ ((refs.map V.ref).length : Int) > 4 := fun z => e (decide_eq_true z)
        rw [List.length_map, ← paired_len I.pr] at k
        refine ⟨_, rfl, fa, _, rfl, .inl ⟨SqL.of I.hf, fun t ht => ?_⟩⟩
        have T := same_new (o := .tup (refs.map V.ref)) ht
        exact q1 found (by rw [pm, if_pos (by omega)]) t _ (I.same.trans T) (I.same.back ht) ⟨refs, upd_same, Paired.mapP I.pr fun _ _ h => h.keep (Keeps.same (fr := fun _ => True) T)⟩
end
end Pk
namespace Pk
open L2 PyProof.Rows PySem.Spec PySem
/-! ### the words of a line that can be laid -/
theorem spl_sub (S : List Nat) : ∀ (l : List Nat) (k : Nat) (acc : List Nat), ∀ p ∈ TL.spl S k acc l, ∀ c ∈ p, c ∈ acc ∨ c ∈ l
  | [], k, acc => by
    rw [TL.spl_nil]
    intro p hp c hc
    rw [List.mem_singleton.mp hp] at hc
    exact .inl hc
  | x :: r, 0, acc => by
    intro p hp c hc
    by_cases h : TL.pre S (x :: r) = true
    · rw [TL.spl_hit h] at hp; rcases List.mem_cons.mp hp with e | e
      · rw [e] at hc
        exact .inl hc
      · rcases spl_sub S r (S.length - 1) [] p e c hc with z | z
        · cases z
        · exact .inr (List.mem_cons_of_mem _ z)
    · rw [TL.spl_miss (by simpa using h)] at hp
      rcases spl_sub S r 0 (acc ++ [x]) p hp c hc with z | z
      · rcases List.mem_append.mp z with z | z
        · exact .inl z
        · rw [List.mem_singleton.mp z]; exact .inr (by simp)
      · exact .inr (List.mem_cons_of_mem _ z)
  | x :: r, k + 1, acc => by
    intro p hp c hc
    rcases spl_sub S r k acc p hp c hc with z | z
    · exact .inl z
    · exact .inr (List.mem_cons_of_mem _ z)
def okL (t : Str) : Prop := t.length ≤ 800000 ∧ (PyData.str t).canLay0 = true
theorem lay_tl {a : Str} : (PyData.str a).canLay0 = true ↔ ∀ c ∈ TL.tl a, c < 1114112 := by
  constructor
  · intro h c hc
    have h' : a.cps.all (· < 0x110000) = true := h
    exact of_decide_eq_true (Array.all_eq_true_iff_forall_mem.mp h' c (Array.mem_toList_iff.mp hc))
  · intro h
    show a.cps.all (· < 0x110000) = true
    exact Array.all_eq_true_iff_forall_mem.mpr fun c hc => decide_eq_true (h c (Array.mem_toList_iff.mpr hc))
theorem split_lay {y : Str} (hy : TL.tl y ≠ []) (hk : y.cps.all (· < 256) = true) {s : Str} (h : (PyData.str s).canLay0 = true) : ∀ w ∈ Txt.split s y, (PyData.str w).canLay0 = true := fun w hw => by
  have e := TL.split_spl s y hy (TL.kind_ok hk)
  refine lay_tl.mpr fun c hc => ?_
  have m : TL.tl w ∈ TL.spl (TL.tl y) 0 [] (TL.tl s) := by
    rw [← e]
    exact List.mem_map_of_mem hw
  rcases spl_sub _ _ _ _ _ m c hc with z | z
  · cases z
  · exact lay_tl.mp h c z
theorem okL.words {t : Str} (h : okL t) : ∀ w ∈ Txt.split t " ", okW w := fun w hw => ⟨Nat.le_trans ((split_few t).2 w hw) (Nat.le_trans h.1 (by decide)), split_lay (by decide +kernel) (by decide +kernel) h.2 w hw⟩
theorem okL.few {t : Str} (h : okL t) : (Txt.split t " ").length ≤ 900000 := by
  have := (split_few t).1
  have := h.1
  omega
theorem split_ne (t : Str) : 0 < (Txt.split t " ").length := by
  have e := TL.split_spl t " " (by decide +kernel) (TL.kind_ok (by decide +kernel))
  have n : ∀ (S : List Nat) (l : List Nat) (k : Nat) (acc : List Nat), 0 < (TL.spl S k acc l).length := by
    intro S l
    induction l with
    | nil => intro k acc; rw [TL.spl_nil]; exact Nat.zero_lt_one
    | cons x r ih =>
      intro k acc
      cases k with
      | zero =>
        by_cases h : TL.pre S (x :: r) = true
        · rw [TL.spl_hit h]
          exact Nat.succ_pos _
        · rw [TL.spl_miss (by simpa using h)]
          exact ih _ _
      | succ k => exact ih k acc
  have l := congrArg List.length e
  rw [List.length_map] at l
  rw [l]
  exact n _ _ _ _
/-! ### rows being read -/
def lastV : Option Str → V
  | none => .non
  | some s => .str s
def ErrL (K : PySem.W.Frag) (r : Addr) (H : Hp) (e : Nat) (E : XK) : Prop := ∀ d H1, KeepB r H H1 → H1 d = none → H d = none → E (.ref (He.ga K "BadLine")) (some d) (upd H1 d (.xd [("line", .int (e : Nat))]))
/-- a reader in the middle of its lines -/
structure RdAt (C : Addr) (H : Hp) (r dx tl : Addr) (all : List Str) (line : Nat) (ls : List Str) : Prop where
  hR : H r = some (.ins C dx (rdF tl line))
  hT : H tl = some (.lst (all.map V.str))
  suf : ∃ pre, all = pre ++ ls ∧ line = pre.length
  few : all.length ≤ 900000
  ok : ∀ t ∈ all, okL t
def spRows (K : PySem.W.Frag) (C : Addr) (n : Nat) : Sp := fun vs H Q E => ∃ (r dx tl : Addr) (all : List Str) (line : Nat) (ls : List Str) (inner : Bool), vs = [.ref r, .bl inner] ∧ RdAt C H r dx tl all line ls ∧ ls.length < n ∧
  (∀ e, rowsM n inner line ls = .error e → ErrL K r H e E) ∧ ∀ rows last l2 r2, rowsM n inner line ls = .ok (rows, last, l2, r2) → ∀ p a rr H', KeepB r H H' → RdAt C H' r dx tl all l2 r2 → H p = none → H a = none → H' p = some (.tup [.ref a, lastV last]) → H' a = some (.lst (rr.map V.ref)) → RowsAt (fun b => H b = none) H' rr rows → Q (.ref p) H'
def spRow (K : PySem.W.Frag) (C : Addr) (n : Nat) : Sp := fun vs H Q E => ∃ (r dx tl a : Addr) (all : List Str) (line : Nat) (ls : List Str) (ws : List Str), vs = [.ref r, .ref a] ∧ RdAt C H r dx tl all line ls ∧ ls.length < n ∧ SqL K H a (ws.map V.str) ∧ ws.length ≤ 900000 ∧ 0 < ws.length ∧ (∀ w ∈ ws, okW w) ∧
  (∀ e, rowM (rowsM n) line ws ls = .error e → ErrL K r H e E) ∧ ∀ row l2 r2, rowM (rowsM n) line ws ls = .ok (row, l2, r2) → ∀ p H', KeepB r H H' → RdAt C H' r dx tl all l2 r2 → H p = none → RowAt (fun b => H b = none) H' p row → Q (.ref p) H'
theorem RdAt.same {C : Addr} {H H' : Hp} {r dx tl : Addr} {all : List Str} {line : Nat} {ls : List Str} (h : RdAt C H r dx tl all line ls) (s : Same H H') : RdAt C H' r dx tl all line ls := ⟨s _ _ h.hR, s _ _ h.hT, h.suf, h.few, h.ok⟩
theorem keeps_of {fr : Addr → Prop} {r C dx : Addr} {fs : List (Str × V)} {H H' : Hp} (k : KeepB r H H') (h : H r = some (.ins C dx fs)) : Keeps fr H H' := ⟨fun b xs e => k _ _ (fun z => by rw [z, h] at e; cases e) e, fun b xs _ e => k _ _ (fun z => by rw [z, h] at e; cases e) e⟩
theorem ErrL.later {K : PySem.W.Frag} {r : Addr} {H H' : Hp} {e : Nat} {E : XK} (h : ErrL K r H e E) (k : KeepB r H H') (hr : ∃ o, H' r = some o) : ErrL K r H' e E := fun d H1 k1 n1 n2 => h d H1 (k.trans k1) n1 (by
  cases q : H d with
  | none => rfl
  | some o =>
    by_cases z : d = r
    · obtain ⟨o2, h2⟩ := hr
      rw [z, h2] at n2
      cases n2
    · rw [k _ _ z q] at n2
      cases n2)
theorem free_back {r d : Addr} {H H' : Hp} (k : KeepB r H H') (hr : ∃ o, H' r = some o) (n : H' d = none) : H d = none := by
  cases q : H d with
  | none => rfl
  | some o =>
    by_cases z : d = r
    · obtain ⟨o2, h2⟩ := hr
      rw [z, h2] at n
      cases n
    · rw [k _ _ z q] at n
      cases n
end Pk
namespace Pk
open L2 PyProof.Rows PySem.Spec PySem
theorem lastV_flat (o : Option Str) (s : Str) : scal (lastV o) (V.str s) = true := by cases o <;> rfl
theorem lastV_iff {o : Option Str} {s : Str} : lastV o = V.str s ↔ o = some s := by
  cases o with
  | none => exact ⟨fun z => (by cases z), fun z => (by cases z)⟩
  | some x => exact ⟨fun z => by rw [V.str.inj z], fun z => by rw [Option.some.inj z]; rfl⟩
theorem lastV_E {o : Option Str} {s : Str} (h : decide (lastV o = V.str s) = true) : o = some s := lastV_iff.mp (of_decide_eq_true h)
theorem lastV_N {o : Option Str} {s : Str} (h : ¬ decide (lastV o = V.str s) = true) : ¬ o = some s := fun z => h (decide_eq_true (lastV_iff.mpr z))
theorem lastV_NE {o : Option Str} {s : Str} (h : (!decide (lastV o = V.str s)) = true) : ¬ o = some s := fun z => by
  rw [decide_eq_true (lastV_iff.mpr z)] at h
  cases h
theorem lastV_EN {o : Option Str} {s : Str} (h : ¬ (!decide (lastV o = V.str s)) = true) : o = some s := Classical.byContradiction fun z => h (by
  rw [decide_eq_false (fun q => z (lastV_iff.mp q))]
  rfl)
section
variable {K : PySem.W.Frag} {P : Program} {w : World} {base : Heap} {mg : Str → Option Value} {C fI : Addr}
theorem sc_Reader_read_row : FnScope ["self", "words", "line", "parts", "rows", "last", "others", "row"] ["self", "words"] (defScope sRow) := ⟨rfl, rfl, rfl, by decide +kernel, rfl, by decide +kernel, by decide +kernel⟩
theorem ok_Reader_read_row {f fP fR fD : Addr} {fd fdP fdR fdD : FuncData} (n : Nat) (F : FunD K "read_row" "Reader.read_row" (defArgs sRow) (defBody sRow) (defScope sRow) [] [] f fd) (RD : ReaderC K mg C fI) (FP : FunD K "read_parts" "Reader.read_parts" (defArgs sParts) (defBody sParts) (defScope sParts) [] [] fP fdP)
    (FR : FunD K "read_rows" "Reader.read_rows" (defArgs sRows) (defBody sRows) (defScope sRows) [] [] fR fdR) (FD : FunD K "deed" "Reader.deed" (defArgs sDeed) (defBody sDeed) (defScope sDeed) [] [] fD fdD) (GP : FnOk P w K mg base (L2.CX P w) 5 fP fdP ["self", "words"] (spParts K C)) (GD : FnOk P w K mg base CX0 5 fD fdD ["self", "words"] (spDeed K C deedM))
    (GR : FnOk P w K mg base (L2.CX P w) (6 + 2 * n) fR fdR ["self", "inner"] (spRows K C n)) (mP : Meth K C "read_parts" fP) (mR : Meth K C "read_rows" fR) (mD : Meth K C "deed" fD) (mLen : mg "len" = none) (ER : Errs P K mg) : FnOk P w K mg base (L2.CX P w) ((6 + 2 * n) + 1) f fd ["self", "words"] (spRow K C n) := by
  have bP : Binds K fdP ["self", "words"] [] := FP.bindsN fun _ _ _ _ _ _ us hl => match us, hl with | [_, _], _ => rfl
  have bR : Binds K fdR ["self", "inner"] [] := FR.bindsN fun _ _ _ _ _ _ us hl => match us, hl with | [_, _], _ => rfl
  have bD : Binds K fdD ["self", "words"] [] := FD.bindsN fun _ _ _ _ _ _ us hl => match us, hl with | [_, _], _ => rfl
  refine F.ok sc_Reader_read_row (fun vs H Q E h => ?_) (fun cdv A outer s H vs Q E hr h => ?_)
  · obtain ⟨r, dx, tl, a, all, line, ls, ws, rfl, _⟩ := h
    rfl
  · obtain ⟨r, dx, tl, a, all, line, ls, ws, rfl, R, hn, hS, hl, h0, hw, q0, q1⟩ := h
    obtain ⟨_, IBadLine⟩ := ER.iBadLine
    refine ⟨_, (pss_cons (by exact (ps_set (i := 2) sc_Reader_read_row.nd rfl (Or.inl rfl) (pe_fld (pv 0) rfl))) (C8.pss_cut (by exact (ps_if (PW.pt (pw_and (pt_cmpR op_eq (pe_ix (ix_listK K rfl) (pv 1) pe_int (fun _ _ => rfl)) pe_str (nomark _)) (pw_and1 (pt_cmpR op_gt (pe_callB call_len_seq (by rfl) mLen PySem.boot_len (pa_cons (pv 1) pa_nil)) pe_int (nomark _))))) (pss_cons (by exact (ps_set (i := 3) sc_Reader_read_row.nd rfl (Or.inl rfl) (pe_meth (pv 0) RD.cls mP GP (hr.mono (by omega)) bP .nil (passes_call (takes_of rfl rfl rfl rfl) (fun _ _ _ _ h => h)) (pa_cons (pe_slice (sl_listK K rfl) (pv 1) (po_some pe_int) po_none) pa_nil)))) (pss_cons (by exact (ps_asg (pe_meth (pv 0) RD.cls mR GR hr bR .nil (passes_call (takes_of rfl rfl rfl rfl) (fun _ _ _ _ h => h)) (pa_cons pe_bl pa_nil)) (pg_tupK (n := 2) K rfl rfl (pgs_cons (pg_name (i := 4) sc_Reader_read_row.nd rfl (Or.inl rfl)) (pgs_cons (pg_name (i := 5) sc_Reader_read_row.nd rfl (Or.inl rfl)) pgs_nil))))) (pss_cons (by exact (ps_set (i := 6) sc_Reader_read_row.nd rfl (Or.inl rfl) (pe_lst pa_nil))) (C8.pss_cut (by exact (ps_if (pt_cmpR op_eq (pv 5) pe_str (nomark _)) (pss_one (by exact (ps_asg (pe_meth (pv 0) RD.cls mR GR hr bR .nil (passes_call (takes_of rfl rfl rfl rfl) (fun _ _ _ _ h => h)) (pa_cons pe_bl pa_nil)) (pg_tupK (n := 2) K rfl rfl (pgs_cons (pg_name (i := 6) sc_Reader_read_row.nd rfl (Or.inl rfl)) (pgs_cons (pg_name (i := 5) sc_Reader_read_row.nd rfl (Or.inl rfl)) pgs_nil)))))) pss_nil)) (pss_cons (by exact (ps_if (pt_cmpR op_ne (pv 5) pe_str (nomark _)) (pss_one (by exact (ps_raise rfl (takes_of rfl rfl rfl rfl) (pmk_sup1 IBadLine.sup (okIBadLine IBadLine ER.mS ER.hP) (hr.mono (by omega)) (bIBadLine IBadLine) pass0 rfl (pe_fld (pv 0) rfl))))) pss_nil)) (pss_one (by exact (ps_ret (pe_tup (pa_cons pe_str (pa_cons (pv 2) (pa_cons (pv 3) (pa_cons (pv 4) (pa_cons (pv 6) pa_nil)))))))))))))) pss_nil)) (pss_cons (by exact (ps_set (i := 7) sc_Reader_read_row.nd rfl (Or.inl rfl) (pe_meth (pv 0) RD.cls mD GD (hr.mono (by omega)) bD .nil pass0 (pa_cons (pv 1) pa_nil)))) (pss_cons (by exact (ps_if (pt_cmp (pc_isN (pv 7))) (pss_one (by exact (ps_raise rfl (takes_of rfl rfl rfl rfl) (pmk_sup1 IBadLine.sup (okIBadLine IBadLine ER.mS ER.hP) (hr.mono (by omega)) (bIBadLine IBadLine) pass0 rfl (pv 2))))) pss_nil)) (pss_one (by exact (ps_ret (pv 7)))))))), ?_⟩
    refine ⟨_, rfl, r, C, dx, _, .int (line : Nat), rfl, R.hR, RD.cls, RD.no _ (by simp), rfl, ?_⟩
    refine ⟨fun σ H' => σ = [some (.ref r), some (.ref a), some (.int (line : Nat)), none, none, none, none, none] ∧ H' = H ∧ ¬ (at_ ws 0 = "if" ∧ 1 < ws.length), ?_, ?_⟩
    · refine ⟨_, rfl, a, _, _, .str (at_ ws 0), rfl, rfl, hS, at0 h0, rfl, _, rfl, ite2 (fun e => ?_) fun e => ⟨rfl, rfl, fun z => strN e z.1⟩⟩
      refine ⟨_, rfl, a, _, rfl, .inl hS, _, _, rfl, rfl, _, rfl, ite2 (fun e1 => ?_) fun e1 => ⟨rfl, rfl, fun z => e1 (decide_eq_true (by rw [map_len]; have := z.2; omega))⟩⟩
      have l1 : 1 < ws.length := by
        have z : ((ws.map V.str).length : Int) > 1 := of_decide_eq_true e1
        rw [map_len] at z
        omega
      have C1 : at_ ws 0 = "if" ∧ 1 < ws.length := ⟨strE e, l1⟩
      refine ⟨_, rfl, r, dx, _, rfl, R.hR, rfl, _, rfl, 1, rfl, a, _, rfl, hS, fun l hl1 => ?_⟩
      rw [show cutV (ws.map V.str) (some 1) none = _ from cut_from (n := 1)]
      have T1 := same_new (o := .lst ((ws.drop 1).map V.str)) hl1
      have R1 := R.same T1
      refine ⟨r, dx, tl, l, line, ws.drop 1, rfl, R1.hR, SqL.of upd_same, by rw [List.length_drop]; omega, fun w h => hw w (List.mem_of_mem_drop h), fun e0 d H1 s1 n1 => ?_, fun ps eP t H1 s1 nt ht => ?_⟩
      · exact q0 line (rowM_p0 C1 e0) d H1 (T1.trans s1).keepB n1 ((T1.trans s1).back n1)
      have S1 := T1.trans s1
      have R1 := R.same S1
      refine ⟨_, rfl, r, dx, _, rfl, R1.hR, rfl, r, dx, tl, all, line, ls, true, rfl, R1, hn, fun x ex d H2 k2 m1 m2 => ?_, fun rows last l2 r2 ex p2 a2 rr2 H2 k2 R2 np2 na2 hp2 ha2 hr2 => ?_⟩
      · exact q0 x (rowM_r1 C1 eP ex) d H2 (S1.keepB.trans k2) m1 (S1.back m2)
      have k02 := S1.keepB.trans k2
      have ht2 : PartsAt H2 t ps := ht.keep (keeps_of (fr := fun _ => True) k2 R1.hR)
      have fb := fun {b : Addr} (z : H1 b = none) => S1.back z
      have left2 : r2.length ≤ ls.length := (rowsM_left _ _ _ _ _ _ _ _ ex).le
      refine ⟨p2, _, rfl, SqT.of hp2, rfl, _, _, rfl, _, _, rfl, rfl, ?_⟩
      refine ⟨by show 0 ≤ sizeLine; decide, fun o2 ho2 => ?_⟩
      have T2 := same_new (o := .lst []) ho2
      have k03 := k02.trans T2.keepB
      have R3 := R2.same T2
      have ne2 : a2 ≠ o2 := fun z => by
        rw [z, ho2] at ha2
        cases ha2
      have no2 : H o2 = none := free_back k02 ⟨_, R2.hR⟩ ho2
      have rows2 : RowsAt (fun b => H b = none) (upd H2 o2 (.lst [])) rr2 rows := hr2.keep (Keeps.same T2) fun b z => fb z
      refine ⟨fun σ H' => ∃ (oa : Addr) (v6 : Option V) (lastf : Option Str) (others : List Row) (orr : List Addr) (l3 : Nat) (r3 : List Str), σ = [some (.ref r), some (.ref a), some (.int (line : Nat)), some (.ref t), some (.ref a2), some (lastV lastf), some (.ref oa), none] ∧ KeepB r H H' ∧ RdAt C H' r dx tl all l3 r3 ∧ PartsAt H' t ps ∧ H a2 = none ∧ H' a2 = some (.lst (rr2.map V.ref)) ∧ RowsAt (fun b => H b = none) H' rr2 rows ∧ H oa = none ∧ H' oa = some (.lst (orr.map V.ref)) ∧ RowsAt (fun b => H b = none) H' orr others ∧
        (lastf = some ("end" : Str) → rowM (rowsM n) line ws ls = .ok (.ifr line ps rows others, l3, r3)) ∧ (¬ lastf = some ("end" : Str) → rowM (rowsM n) line ws ls = .error l3), ?_, ?_⟩
      · refine ⟨_, rfl, lastV_flat last _, _, rfl, ite2 (fun e2 => ?_) fun e2 => ?_⟩
        · have el := lastV_E e2
          refine ⟨_, rfl, r, dx, _, rfl, R3.hR, rfl, r, dx, tl, all, l2, r2, true, rfl, R3, by omega, fun x ex2 d H4 k4 m1 m2 => ?_, fun others last2 l3 r3 ex2 p4 a4 rr4 H4 k4 R4 np4 na4 hp4 ha4 hr4 => ?_⟩
          · exact q0 x (rowM_r2 C1 eP ex el ex2) d H4 (k03.trans k4) m1 (free_back k03 ⟨_, R3.hR⟩ m2)
          · refine ⟨p4, _, rfl, SqT.of hp4, rfl, _, _, rfl, _, _, rfl, rfl, ?_⟩
            have kp := keeps_of (fr := fun b => H b = none) k4 R3.hR
            have n24 : a2 ≠ r := fun z => by
              have z2 := T2 _ _ ha2
              rw [z, R3.hR] at z2
              cases z2
            exact ⟨a4, none, last2, others, rr4, l3, r3, rfl, k03.trans k4, R4, (ht2.keep (Keeps.same (fr := fun _ => True) T2)).keep (keeps_of (fr := fun _ => True) k4 R3.hR), fb na2, k4 _ _ n24 (T2 _ _ ha2), rows2.keep kp fun _ z => z, free_back k03 ⟨_, R3.hR⟩ na4, ha4, hr4.keep (Keeps.same (Same.refl _)) fun b z => free_back k03 ⟨_, R3.hR⟩ z,
              fun z => rowM_r3 C1 eP ex el ex2 z, fun z => rowM_r4 C1 eP ex el ex2 z⟩
        · have el := lastV_N e2
          exact ⟨o2, none, last, [], [], l2, r2, rfl, k03, R3, ht2.keep (Keeps.same (fr := fun _ => True) T2), fb na2, T2 _ _ ha2, rows2, no2, upd_same, .nil, fun z => rowM_r5 C1 eP ex el z, fun z => rowM_r6 C1 eP ex el z⟩
      rintro σ H4 ⟨oa, v6, lastf, others, orr, l3, r3, rfl, k4, R4, ht4, n2, hl2, hr4, no4, ho4, hor4, w1, w2⟩
      refine ⟨_, rfl, lastV_flat lastf _, _, rfl, ite2 (fun e2 => ?_) fun e2 => ?_⟩
      · have el := lastV_NE e2
        exact ⟨_, rfl, r, C, dx, _, .int (l3 : Nat), rfl, R4.hR, RD.cls, RD.no _ (by simp), rfl, fun d hd => q0 l3 (w2 el) d H4 k4 hd (free_back k4 ⟨_, R4.hR⟩ hd)⟩
      · have el := lastV_EN e2
        refine ⟨_, rfl, _, rfl, _, rfl, _, rfl, by show 5 ≤ sizeLine; decide, fun p hp => ?_⟩
        have T := same_new (o := .tup [.str "if", .int (line : Nat), .ref t, .ref a2, .ref oa]) hp
        have kp := Keeps.same (fr := fun b => H b = none) T
        exact q1 _ l3 r3 (w1 el) p _ (k4.trans T.keepB) (R4.same T) (free_back k4 ⟨_, R4.hR⟩ hp) (.ifr upd_same (ht4.keep kp) n2 (T _ _ hl2) (hr4.keep kp fun _ z => z) no4 (T _ _ ho4) (hor4.keep kp fun _ z => z))
    rintro σ H1 ⟨rfl, rfl, n1⟩
    have rm : rowM (rowsM n) line ws ls = (match deedM line ws with
      | none => .error line
      | some row => .ok (row, line, ls)) := by
      unfold rowM
      rw [if_neg n1]
      all_goals (cases deedM line ws <;> rfl)
    refine ⟨_, rfl, r, dx, _, rfl, R.hR, rfl, _, rfl, r, dx, tl, a, line, ws, rfl, R.hR, hS, by omega, hw, fun e H' s' => ?_, fun row e p H' s' np hp => ?_⟩
    · refine ⟨_, rfl, _, rfl, ite2 (fun _ => ?_) fun z => absurd rfl z⟩
      exact ⟨_, rfl, fun d hd => q0 line (by rw [rm, e]) d _ s'.keepB hd (s'.back hd)⟩
    · refine ⟨_, rfl, _, rfl, ite2 (fun z => nomatch z) fun _ => ?_⟩
      exact ⟨_, rfl, q1 row line ls (by rw [rm, e]) p H' s'.keepB (R.same s') np (hp.keep (Keeps.same (Same.refl _)) fun _ z => z.elim)⟩
end
end Pk
namespace Pk
open L2 PyProof.Rows PySem.Spec PySem
def lineOf (H : Hp) (r : Addr) : Nat := match H r with
  | some (.ins _ _ [_, (_, .int l)]) => l.toNat
  | _ => 0
theorem lineOf_at {C : Addr} {H : Hp} {r dx tl : Addr} {all : List Str} {line : Nat} {ls : List Str} (h : RdAt C H r dx tl all line ls) : lineOf H r = line := by
  unfold lineOf
  rw [h.hR]
  show ((line : Nat) : Int).toNat = line
  exact Int.toNat_natCast line
theorem RdAt.sum {C : Addr} {H : Hp} {r dx tl : Addr} {all : List Str} {line : Nat} {ls : List Str} (h : RdAt C H r dx tl all line ls) : line + ls.length = all.length := by
  obtain ⟨pre, e1, e2⟩ := h.suf
  rw [e1, e2, List.length_append]
theorem RdAt.next {C : Addr} {H : Hp} {r dx tl : Addr} {all : List Str} {line : Nat} {t : Str} {ls : List Str} (h : RdAt C H r dx tl all line (t :: ls)) : RdAt C (upd H r (.ins C dx (rdF tl (line + 1)))) r dx tl all (line + 1) ls := by
  have ne : tl ≠ r := fun z => by
    have e := h.hT
    rw [z, h.hR] at e
    cases e
  obtain ⟨pre, e1, e2⟩ := h.suf
  refine ⟨upd_same, by rw [upd_ne ne]; exact h.hT, ⟨pre ++ [t], ?_, ?_⟩, h.few, h.ok⟩
  · rw [e1, List.append_assoc]
    rfl
  · rw [e2, List.length_append]
    rfl
section
variable {K : PySem.W.Frag} {P : Program} {w : World} {base : Heap} {mg : Str → Option Value} {C fI : Addr}
theorem sc_Reader_read_rows : FnScope ["self", "inner", "found", "text"] ["self", "inner"] (defScope sRows) := ⟨rfl, rfl, rfl, by decide +kernel, rfl, by decide +kernel, by decide +kernel⟩
theorem ok_Reader_read_rows {f fR : Addr} {fd fdR : FuncData} (n : Nat) (F : FunD K "read_rows" "Reader.read_rows" (defArgs sRows) (defBody sRows) (defScope sRows) [] [] f fd) (RD : ReaderC K mg C fI) (FR : FunD K "read_row" "Reader.read_row" (defArgs sRow) (defBody sRow) (defScope sRow) [] [] fR fdR)
    (GR : FnOk P w K mg base (L2.CX P w) (7 + 2 * n) fR fdR ["self", "words"] (spRow K C n)) (mR : Meth K C "read_row" fR) (mLen : mg "len" = none) (ER : Errs P K mg) : FnOk P w K mg base (L2.CX P w) ((7 + 2 * n) + 1) f fd ["self", "inner"] (spRows K C (n + 1)) := by
  have bR : Binds K fdR ["self", "words"] [] := FR.bindsN fun _ _ _ _ _ _ us hl => match us, hl with | [_, _], _ => rfl
  refine F.ok sc_Reader_read_rows (fun vs H Q E h => ?_) (fun cdv A outer s H vs Q E hr h => ?_)
  · obtain ⟨r, dx, tl, all, line, ls, inner, rfl, _⟩ := h
    rfl
  · obtain ⟨r, dx, tl, all, line, ls, inner, rfl, R, hn, q0, q1⟩ := h
    obtain ⟨_, IBadLine⟩ := ER.iBadLine
    refine ⟨_, (pss_cons (by exact (ps_set (i := 2) sc_Reader_read_rows.nd rfl (Or.inl rfl) (pe_lst pa_nil))) (pss_cons (by exact (ps_while (passes_of rfl) (pt_cmpR op_lt (pe_fld (pv 0) rfl) (pe_callB call_len_seq (by rfl) mLen PySem.boot_len (pa_cons (pe_fld (pv 0) rfl) pa_nil)) (nomark _)) (pss_cons (by exact (ps_set (i := 3) sc_Reader_read_rows.nd rfl (Or.inl rfl) (pe_ix (ix_listK K rfl) (pe_fld (pv 0) rfl) (pe_fld (pv 0) rfl) (fun _ _ => rfl)))) (pss_cons (by exact (ps_fldaug (pv 0) pe_int iop_add)) (C8.pss_cut (by exact (ps_if (PW.pt (pw_and (pt_val (pv 1)) (pw_and1 (pt_cmpR (op_inK K rfl) (pv 3) (pe_tup (pa_cons pe_str (pa_cons pe_str pa_nil))) rfl)))) (pss_one (by exact (ps_ret (pe_tup (pa_cons (pv 2) (pa_cons (pv 3) pa_nil)))))) pss_nil)) (pss_one (by exact (ps_expr (pe_bm PySem.F.plainAttrs_list PySem.F.slot_list_append PySem.F.type_list_append mt_append (pv 2) (pa_cons (pe_meth (pv 0) RD.cls mR GR hr bR .nil (passes_call (takes_of rfl rfl rfl rfl) (fun _ _ _ _ h => h)) (pa_cons (pe_split (pv 3) pe_str) pa_nil)) pa_nil)))))))))) (pss_cons (by exact (ps_if (pt_val (pv 1)) (pss_one (by exact (ps_raise rfl (takes_of rfl rfl rfl rfl) (pmk_sup1 IBadLine.sup (okIBadLine IBadLine ER.mS ER.hP) (hr.mono (by omega)) (bIBadLine IBadLine) pass0 rfl (pe_op op_add (pe_fld (pv 0) rfl) pe_int))))) pss_nil)) (pss_one (by exact (ps_ret (pe_tup (pa_cons (pv 2) (pa_cons pe_non pa_nil))))))))), ?_⟩
    refine ⟨by show 0 ≤ sizeLine; decide, fun fa hfa => ?_⟩
    have T0 := same_new (o := .lst []) hfa
    refine while_by (fun σ H' => ∃ (v3 : Option V) (refs : List Addr) (done : List Row) (l' : Nat) (ls' : List Str), σ = [some (.ref r), some (.bl inner), some (.ref fa), v3] ∧ KeepB r H H' ∧ RdAt C H' r dx tl all l' ls' ∧ H' fa = some (.lst (refs.map V.ref)) ∧ RowsAt (fun b => H b = none ∧ b ≠ fa) H' refs done ∧ ls'.length < n + 1 ∧ refs.length + ls'.length ≤ all.length ∧ rowsM (n + 1) inner line ls = preps done (rowsM (n + 1) inner l' ls'))
      (fun _ H' => all.length - lineOf H' r) ⟨none, [], [], line, ls, rfl, T0.keepB, R.same T0, upd_same, .nil, hn, by have := R.sum; rw [List.length_nil]; omega, (preps_nil _).symm⟩ ?_ ?_
    · rintro σ H1 ⟨v3, refs, done, l', ls', rfl, k1, R1, hf, hrr, hn1, hsz, go⟩
      have nrf : fa ≠ r := fun z => by
        rw [z, R.hR] at hfa
        cases hfa
      refine ⟨_, rfl, r, C, dx, _, .int (l' : Nat), rfl, R1.hR, RD.cls, RD.no _ (by simp), rfl, _, rfl, r, C, dx, _, .ref tl, rfl, R1.hR, RD.cls, RD.no _ (by simp), rfl, tl, _, rfl, .inl (SqL.of R1.hT), _, _, rfl, rfl, _, rfl, ite2 (fun e => ?_) fun e => ?_⟩
      · have lt : l' < all.length := by
          have z : (l' : Int) < ((all.map V.str).length : Nat) := of_decide_eq_true e
          rw [map_len] at z
          omega
        obtain ⟨t, r', els⟩ : ∃ t r', ls' = t :: r' := by
          have := R1.sum
          cases ls' with
          | nil => simp at this; omega
          | cons t r' => exact ⟨t, r', rfl⟩
        subst els
        have hat : all[l']? = some t := by
          obtain ⟨pre, e1, e2⟩ := R1.suf
          rw [e1, e2, List.getElem?_append_right (Nat.le_refl _), Nat.sub_self]
          rfl
        have okt := R1.ok t (List.mem_of_getElem? hat)
        refine ⟨_, rfl, r, C, dx, _, .ref tl, rfl, R1.hR, RD.cls, RD.no _ (by simp), rfl, _, rfl, r, C, dx, _, .int (l' : Nat), rfl, R1.hR, RD.cls, RD.no _ (by simp), rfl, tl, _, _, .str t, rfl, rfl, SqL.of R1.hT, atI_nat (by rw [List.getElem?_map, hat]; rfl), ?_⟩
        refine ⟨_, rfl, r, C, dx, _, .int (l' : Nat), rfl, R1.hR, RD.cls, RD.no _ (by simp), rfl, _, _, rfl, rfl, dx, _, R1.hR, by show 2 < 1000; decide, ?_⟩
        have R2 := R1.next
        have kr : KeepB r H1 (upd H1 r (.ins C dx (rdF tl (l' + 1)))) := KeepB.upd
        have hf2 : upd H1 r (.ins C dx (rdF tl (l' + 1))) fa = some (.lst (refs.map V.ref)) := by
          rw [upd_ne nrf]
          exact hf
        have rr2 := hrr.keep (keeps_of (fr := fun b => H b = none ∧ b ≠ fa) kr R1.hR) fun _ z => z
        refine ⟨fun σ H' => σ = [some (.ref r), some (.bl inner), some (.ref fa), some (.str t)] ∧ Same (upd H1 r (.ins C dx (rdF tl (l' + 1)))) H' ∧ ¬ (inner = true ∧ (t = "end" ∨ t = "else")), ?_, ?_⟩
        · refine ⟨_, rfl, inner, rfl, ite2 (fun ei => ?_) fun ei => ⟨rfl, Same.refl _, fun z => ei z.1⟩⟩
          refine ⟨_, rfl, by show 2 ≤ sizeLine; decide, fun t2 ht2 => ?_⟩
          have T := same_new (o := .tup [.str "end", .str "else"]) ht2
          refine ⟨t2, _, rfl, .inr (SqT.of upd_same), rfl, rfl, _, rfl, ite2 (fun e2 => ?_) fun e2 => ⟨rfl, T, fun z => inN (l := ["end", "else"]) e2 (by rcases z.2 with z | z <;> rw [z] <;> simp)⟩⟩
          have m2 : t = "end" ∨ t = "else" := by
            have z := inE (l := ["end", "else"]) e2
            simpa using z
          refine ⟨_, rfl, _, rfl, by show 2 ≤ sizeLine; decide, fun p hp => ?_⟩
          have T3 := T.step (o := .tup [.ref fa, .str t]) hp
          have kk := (k1.trans kr).trans T3.keepB
          have e3 : rowsM (n + 1) inner l' (t :: r') = .ok ([], some t, l' + 1, r') := by
            rw [rowsM, if_pos ⟨ei, m2⟩]
          refine q1 done (some t) (l' + 1) r' ?_ p fa refs _ kk (R2.same T3) (free_back ((k1.trans kr).trans T.keepB) ⟨_, T _ _ R2.hR⟩ hp) hfa upd_same (T3 _ _ hf2) (rr2.keep (Keeps.same T3) fun _ z => z.1)
          rw [go, e3]
          show Except.ok (done ++ [], some t, l' + 1, r') = _
          rw [List.append_nil]
        rintro σ H3 ⟨rfl, S3, ni⟩
        have R3 := R2.same S3
        have hf3 := S3 _ _ hf2
        have rr3 := rr2.keep (Keeps.same S3) fun _ z => z
        have k3 := (k1.trans kr).trans S3.keepB
        obtain ⟨w1, w2⟩ := split_few t
        refine ⟨_, rfl, .inl ⟨rfl, _, SqL.of hf3⟩, _, rfl, r, dx, _, rfl, R3.hR, rfl, _, rfl, ⟨_, rfl⟩, t, " ", rfl, rfl, rfl, ?_, fun l hl => ?_⟩
        · exact Nat.le_trans (Nat.add_le_add_right okt.1 2) (by decide)
        have T4 := same_new (o := .lst ((Txt.split t " ").map V.str)) hl
        have R4 := R3.same T4
        have k4 := k3.trans T4.keepB
        refine ⟨r, dx, tl, l, all, l' + 1, r', Txt.split t " ", rfl, R4, by rw [List.length_cons] at hn1; omega, SqL.of upd_same, okt.few, split_ne t, okt.words, fun x ex => ?_, fun row l2 r2 ex p H5 k5 R5 np hp => ?_⟩
        · refine (q0 x ?_).later k4 ⟨_, R4.hR⟩
          rw [go, rowsM, if_neg ni, ex]
          rfl
        · have step := rowsM_row (n := n) (i := inner) (l := l') (t := t) (r := r') ni ex (by rw [List.length_cons] at hn1; omega)
          have lft := rowM_left (rowsM_left n) ex
          have hf5 := k5 _ _ nrf (T4 _ _ hf3)
          have npf : p ≠ fa := fun z => by
            rw [z, T4 _ _ hf3] at np
            cases np
          refine ⟨fa, _, _, rfl, rfl, hf5, ?_, ?_⟩
          · rw [List.length_map]
            have := R1.few
            exact Nat.lt_of_lt_of_le (show refs.length < 900001 by omega) (by decide)
          · have kp : Keeps (fun b => H b = none ∧ b ≠ fa) H5 (upd H5 fa (.lst (refs.map V.ref ++ [V.ref p]))) := ⟨fun b xs h => by
              rw [upd_ne (fun z => by rw [z, hf5] at h; cases h)]
              exact h, fun b xs hb h => by
              rw [upd_ne hb.2]
              exact h⟩
            have rr5 := (rr3.keep (Keeps.same T4) fun _ z => z).keep (keeps_of (fr := fun b => H b = none ∧ b ≠ fa) k5 R4.hR) fun _ z => z
            have hp5 : RowAt (fun b => H b = none ∧ b ≠ fa) H5 p row := hp.keep (Keeps.same (Same.refl _)) fun b z => ⟨free_back k4 ⟨_, R4.hR⟩ z, fun y => by rw [y, T4 _ _ hf3] at z; cases z⟩
            have neR : r ≠ fa := Ne.symm nrf
            have R6 : RdAt C (upd H5 fa (.lst (refs.map V.ref ++ [V.ref p]))) r dx tl all l2 r2 := ⟨by rw [upd_ne neR]; exact R5.hR, by
              rw [upd_ne (fun z => by have e := R.hT; rw [z, hfa] at e; cases e)]
              exact R5.hT, R5.suf, R5.few, R5.ok⟩
            refine ⟨⟨_, refs ++ [p], done ++ [row], l2, r2, rfl, ?_, R6, ?_, RowsAt.snoc (hp5.keep kp fun _ z => z) (rr5.keep kp fun _ z => z), ?_, ?_, ?_⟩, ?_⟩
            · intro b o nb hb
              rw [upd_ne (fun z => by rw [z, hfa] at hb; cases hb)]
              exact (k4.trans k5) b o nb hb
            · rw [upd_same, List.map_append]
              rfl
            · have := lft.le
              rw [List.length_cons] at hn1
              omega
            · have := lft.le
              rw [List.length_cons] at hsz
              rw [List.length_append]
              show refs.length + 1 + r2.length ≤ all.length
              omega
            · rw [go, step]
              cases rowsM (n + 1) inner l2 r2 with
              | error e => rfl
              | ok y =>
                show Except.ok (done ++ row :: y.1, y.2) = Except.ok ((done ++ [row]) ++ y.1, y.2)
                rw [List.append_assoc]
                rfl
            · rw [lineOf_at R6, lineOf_at R1]
              have := lft.sum
              have := lft.le
              omega
      · have ge : ¬ l' < all.length := fun z => e (decide_eq_true (by rw [map_len]; omega))
        have els : ls' = [] := by
          have := R1.sum
          exact List.eq_nil_of_length_eq_zero (by omega)
        subst els
        refine ⟨_, rfl, inner, rfl, ite2 (fun ei => ?_) fun ei => ?_⟩
        · refine ⟨_, rfl, r, C, dx, _, .int (l' : Nat), rfl, R1.hR, RD.cls, RD.no _ (by simp), rfl, _, _, rfl, rfl, fun d hd => ?_⟩
          refine q0 (l' + 1) ?_ d H1 k1 hd (free_back k1 ⟨_, R1.hR⟩ hd)
          rw [go, rowsM, if_pos ei]
          rfl
        · refine ⟨_, rfl, by show 2 ≤ sizeLine; decide, fun p hp => ?_⟩
          have T := same_new (o := .tup [.ref fa, .non]) hp
          refine q1 done none l' [] ?_ p fa refs _ (k1.trans T.keepB) (R1.same T) (free_back k1 ⟨_, R1.hR⟩ hp) hfa upd_same (T _ _ hf) (hrr.keep (Keeps.same T) fun _ z => z.1)
          rw [go, rowsM, if_neg ei]
          show Except.ok (done ++ [], none, l', []) = _
          rw [List.append_nil]
    · rintro σ H' Z Z' hm ⟨x, hx, p, C', dx', fs, v, e1, e2, e3, e4, e5, x2, hx2, p2, C2, dx2, fs2, v2, e6, e7, e8, e9, e10, h⟩
      obtain ⟨p3, ys, e11, e12, i, j, e13, e14, k, e15, z⟩ := h
      exact ⟨x, hx, p, C', dx', fs, v, e1, e2, e3, e4, e5, x2, hx2, p2, C2, dx2, fs2, v2, e6, e7, e8, e9, e10, p3, ys, e11, e12, i, j, e13, e14, k, e15, hm _ _ z⟩
end
end Pk
namespace Pk
open L2 PyProof.Rows PySem.Spec PySem
/-- the text of a code: short enough, of signs that are some -/
def okT (t : Str) : Prop := t.length ≤ 800000 ∧ (PyData.str t).canLay0 = true
theorem okT.lines {t : Str} (h : okT t) : ∀ l ∈ linesM t, okL l := fun l hl => by
  unfold linesM at hl
  split at hl
  · cases hl
  · have e := TL.split_spl t "\n" (by decide +kernel) (TL.kind_ok (by decide +kernel))
    refine ⟨?_, split_lay (by decide +kernel) (by decide +kernel) h.2 l hl⟩
    have m : TL.tl l ∈ TL.spl (TL.tl "\n") 0 [] (TL.tl t) := by
      rw [← e]
      exact List.mem_map_of_mem hl
    have q := (spl_few _ _ _ _).2 _ m
    rw [List.length_nil, Nat.zero_add] at q
    rw [TL.len_tl l]
    exact Nat.le_trans q (Nat.le_trans (Nat.le_of_eq (TL.len_tl t).symm) h.1)
def spReadI (C : Addr) : Sp := fun vs H Q _ => ∃ (r dx : Addr) (t : Str), vs = [.ref r, .str t] ∧ H r = some (.ins C dx []) ∧ okT t ∧ ∀ tl H', KeepB r H H' → H tl = none → H' r = some (.ins C dx (rdF tl 0)) → H' tl = some (.lst ((linesM t).map V.str)) → Q .non H'
def spRead (K : PySem.W.Frag) : Sp := fun vs H Q E => ∃ t : Str, vs = [.str t] ∧ okT t ∧ (linesM t).length ≤ 40 ∧ (∀ e, readM t = .error e → Err1 K "BadLine" "line" (.int (e : Nat)) H E) ∧
  ∀ rows, readM t = .ok rows → ∀ a rr H', Same H H' → H a = none → H' a = some (.lst (rr.map V.ref)) → RowsAt (fun b => H b = none) H' rr rows → Q (.ref a) H'
section
variable {K : PySem.W.Frag} {P : Program} {w : World} {base : Heap} {mg : Str → Option Value} {C fI : Addr}
/-- read_rows, for any number of lines left -/
theorem rows_all {fP fR fW fD : Addr} {fdP fdR fdW fdD : FuncData} (FR : FunD K "read_rows" "Reader.read_rows" (defArgs sRows) (defBody sRows) (defScope sRows) [] [] fR fdR) (FW : FunD K "read_row" "Reader.read_row" (defArgs sRow) (defBody sRow) (defScope sRow) [] [] fW fdW) (RD : ReaderC K mg C fI)
    (FP : FunD K "read_parts" "Reader.read_parts" (defArgs sParts) (defBody sParts) (defScope sParts) [] [] fP fdP) (FD : FunD K "deed" "Reader.deed" (defArgs sDeed) (defBody sDeed) (defScope sDeed) [] [] fD fdD) (GP : FnOk P w K mg base (L2.CX P w) 5 fP fdP ["self", "words"] (spParts K C)) (GD : FnOk P w K mg base CX0 5 fD fdD ["self", "words"] (spDeed K C deedM))
    (mP : Meth K C "read_parts" fP) (mR : Meth K C "read_rows" fR) (mW : Meth K C "read_row" fW) (mD : Meth K C "deed" fD) (mLen : mg "len" = none) (ER : Errs P K mg) : ∀ n, FnOk P w K mg base (L2.CX P w) (6 + 2 * n) fR fdR ["self", "inner"] (spRows K C n)
  | 0 => by
    refine FR.ok (k := 5) sc_Reader_read_rows (fun vs H Q E h => ?_) (fun cdv A outer s H vs Q E hr h => ?_)
    · obtain ⟨r, dx, tl, all, line, ls, inner, rfl, _⟩ := h
      rfl
    · obtain ⟨r, dx, tl, all, line, ls, inner, rfl, R, hn, _⟩ := h
      exact absurd hn (Nat.not_lt_zero _)
  | n + 1 => by
    have ih := rows_all FR FW RD FP FD GP GD mP mR mW mD mLen ER n
    have row := ok_Reader_read_row n FW RD FP FR FD GP GD ih mP mR mD mLen ER
    rw [show 6 + 2 * n + 1 = 7 + 2 * n by omega] at row
    have r2 := ok_Reader_read_rows n FR RD FW row mW mLen ER
    rw [show 7 + 2 * n + 1 = 6 + 2 * (n + 1) by omega] at r2
    exact r2
theorem sc_Reader_init : FnScope ["self", "text"] ["self", "text"] (defScope sRdI) := ⟨rfl, rfl, rfl, by decide +kernel, rfl, by decide +kernel, by decide +kernel⟩
theorem ok_Reader_init {f : Addr} {fd : FuncData} (F : FunD K "__init__" "Reader.__init__" (defArgs sRdI) (defBody sRdI) (defScope sRdI) [] [] f fd) (RD : ReaderC K mg C fI) : FnOk P w K mg base CX0 1 f fd ["self", "text"] (spReadI C) := by
  refine F.ok sc_Reader_init (fun vs H Q E h => ?_) (fun cdv A outer s H vs Q E hr h => ?_)
  · obtain ⟨r, dx, t, rfl, _⟩ := h
    rfl
  · obtain ⟨r, dx, t, rfl, hR, ht, q⟩ := h
    refine ⟨_, PSs.nox (pss_cons (by exact (ps_fld (pv 0) (pe_ifExp (pt_cmpR op_ne (pv 1) pe_str (nomark _)) (pe_split (pv 1) pe_str) (pe_lst pa_nil)) rfl)) (pss_one (by exact (ps_fld (pv 0) pe_int rfl)))), ?_⟩
    have fin : ∀ (ls : List Str) (tl : Addr), ls = linesM t → H tl = none → Q .non (upd (upd (upd H tl (.lst (ls.map V.str))) r (.ins C dx [("texts", .ref tl)])) r (.ins C dx (rdF tl 0))) := fun ls tl e n => by
      have ne : tl ≠ r := fun z => by
        rw [z, hR] at n
        cases n
      refine q tl _ (fun b o nb h => ?_) n upd_same ?_
      · rw [upd_ne nb, upd_ne nb]
        exact same_new n _ _ h
      · rw [upd_ne ne, upd_ne ne, upd_same, e]
    refine ⟨_, rfl, rfl, _, rfl, ite2 (fun e => ?_) fun e => ?_⟩
    · have ne := neE e
      refine ⟨_, rfl, ⟨_, rfl⟩, t, "\n", rfl, rfl, rfl, Nat.le_trans (Nat.add_le_add_right ht.1 2) (by decide), fun tl htl => ?_⟩
      have T := same_new (o := .lst ((Txt.split t "\n").map V.str)) htl
      refine ⟨_, rfl, r, C, dx, _, rfl, T _ _ hR, RD.cls, RD.no _ (by simp), by show 0 < 1000; decide, ?_⟩
      refine ⟨_, rfl, r, C, dx, _, rfl, upd_same, RD.cls, RD.no _ (by simp), by show 1 < 1000; decide, ?_⟩
      exact fin _ tl (by unfold linesM; rw [if_neg ne]) htl
    · have ne := neN e
      refine ⟨by show 0 ≤ sizeLine; decide, fun tl htl => ?_⟩
      have T := same_new (o := .lst []) htl
      refine ⟨_, rfl, r, C, dx, _, rfl, T _ _ hR, RD.cls, RD.no _ (by simp), by show 0 < 1000; decide, ?_⟩
      refine ⟨_, rfl, r, C, dx, _, rfl, upd_same, RD.cls, RD.no _ (by simp), by show 1 < 1000; decide, ?_⟩
      exact fin [] tl (by unfold linesM; rw [if_pos ne]) htl
theorem sc_read : FnScope ["text"] ["text"] (defScope sRead) := ⟨rfl, rfl, rfl, by decide +kernel, rfl, by decide +kernel, by decide +kernel⟩
theorem ok_read {f fR : Addr} {fd fdR fdI : FuncData} (F : FunD K "read" "read" (defArgs sRead) (defBody sRead) (defScope sRead) [] [] f fd) (RD : ReaderC K mg C fI) (FI : FunD K "__init__" "Reader.__init__" (defArgs sRdI) (defBody sRdI) (defScope sRdI) [] [] fI fdI) (FR : FunD K "read_rows" "Reader.read_rows" (defArgs sRows) (defBody sRows) (defScope sRows) [] [] fR fdR)
    (GI : FnOk P w K mg base CX0 1 fI fdI ["self", "text"] (spReadI C)) (GR : FnOk P w K mg base (L2.CX P w) 88 fR fdR ["self", "inner"] (spRows K C 41)) (mR : Meth K C "read_rows" fR) : FnOk P w K mg base (L2.CX P w) 89 f fd ["text"] (spRead K) := by
  have bI : Binds K fdI ["self", "text"] [] := FI.bindsN fun _ _ _ _ _ _ us hl => match us, hl with | [_, _], _ => rfl
  have bR : Binds K fdR ["self", "inner"] [] := FR.bindsN fun _ _ _ _ _ _ us hl => match us, hl with | [_, _], _ => rfl
  refine F.ok sc_read (fun vs H Q E h => ?_) (fun cdv A outer s H vs Q E hr h => ?_)
  · obtain ⟨t, rfl, _⟩ := h
    rfl
  · obtain ⟨t, rfl, ht, hl, q0, q1⟩ := h
    refine ⟨_, (pss_one (by exact (ps_ret (pe_ix (ix_tupK K rfl) (pe_meth (pe_make RD.made GI (hr.mono (by decide)) rfl RD.g bI .nil pass0 (pa_cons (pv 0) pa_nil)) RD.cls mR GR hr bR .nil (passes_call (takes_of rfl rfl rfl rfl) (fun _ _ _ _ h => h)) (pa_cons pe_bl pa_nil)) pe_int (fun _ _ => rfl))))), ?_⟩
    refine ⟨_, rfl, ?_⟩
    intro x dx nx nd ndx
    have nx' : upd H dx (.own x) x = none := by
      rw [upd_ne (Ne.symm ndx)]
      exact nx
    have sA : Same H (upd (upd H dx (.own x)) x (.ins C dx [])) := (same_new nd).step nx'
    refine ⟨x, dx, t, rfl, upd_same, ht, fun tl H1 k1 ntl h1 h2 => ⟨rfl, ?_⟩⟩
    have s1 : Same H H1 := fun b o h => k1 b o (fun z => by rw [z, nx] at h; cases h) (sA b o h)
    refine ⟨x, dx, _, rfl, h1, rfl, ?_⟩
    have R : RdAt C H1 x dx tl (linesM t) 0 (linesM t) := ⟨h1, h2, ⟨[], rfl, rfl⟩, by omega, ht.lines⟩
    have e41 : rowsM 41 false 0 (linesM t) = rowsM ((linesM t).length + 1) false 0 (linesM t) := by
      have m := rowsM_more ((linesM t).length + 1) (40 - (linesM t).length) false 0 (linesM t) (Nat.lt_succ_self _)
      rw [m]
      congr 1
      omega
    refine ⟨x, dx, tl, linesM t, 0, linesM t, false, rfl, R, by omega, fun e ex d H2 k2 n1 n2 => ?_, fun rows last l2 r2 ex p a rr H2 k2 R2 np na hp ha hrr => ?_⟩
    · refine q0 e ?_ d H2 (fun b o h => k2 b o (fun z => by rw [z, nx] at h; cases h) (s1 b o h)) n1
      unfold readM
      rw [← e41, ex]
    · refine ⟨p, _, _, .ref a, rfl, rfl, SqT.of hp, rfl, ?_⟩
      have s2 : Same H H2 := fun b o h => k2 b o (fun z => by rw [z, nx] at h; cases h) (s1 b o h)
      refine q1 rows ?_ a rr H2 s2 (s1.back na) ha (hrr.keep (Keeps.same (Same.refl _)) fun b z => s1.back z)
      unfold readM
      rw [← e41, ex]
end
end Pk
namespace Pk
open L2 PyProof.Rows PySem.Spec PySem
/-! ### limits of codes: plain functions -/
mutual
def countR : Row → Nat
  | .ifr _ _ a b => 1 + countM a + countM b
  | _ => 0
def countM : List Row → Nat
  | [] => 0
  | r :: rs => countR r + countM rs
end
mutual
def depthR : Row → Nat
  | .ifr _ _ a b => 1 + max (depthM a) (depthM b)
  | _ => 0
def depthM : List Row → Nat
  | [] => 0
  | r :: rs => max (depthR r) (depthM rs)
end
mutual
def sizeR : Row → Nat
  | .ifr _ _ a b => 1 + sizeM a + sizeM b
  | _ => 1
def sizeM : List Row → Nat
  | [] => 0
  | r :: rs => sizeR r + sizeM rs
end
mutual
def marksR : Row → List Nat
  | .mark l _ => [l]
  | .ifr _ _ a b => marksM a ++ marksM b
  | _ => []
def marksM : List Row → List Nat
  | [] => []
  | r :: rs => marksR r ++ marksM rs
end
abbrev Way := List Row × Bool
def isQuit : Row → Bool
  | .quit _ => true
  | _ => false
mutual
/-- what comes of a way when a row follows it -/
def longerR : Row → Way → List Way
  | .ifr l ps a b, (told, goes) => if goes = true then ((waysFrom a [([], true)]) ++ (waysFrom b [([], true)])).map fun w => (told ++ (.ifr l ps a b) :: w.1, w.2) else [(told, false)]
  | r, (told, goes) => if goes = true then [(told ++ [r], !isQuit r)] else [(told, false)]
def waysFrom : List Row → List Way → List Way
  | [], ws => ws
  | r :: rs, ws => waysFrom rs (ws.flatMap (longerR r))
end
def waysM (rows : List Row) : List Way := waysFrom rows [([], true)]
def lineR : Row → Nat
  | .set l _ _ _ => l
  | .cut l _ _ _ => l
  | .join l _ _ => l
  | .shift l _ _ _ => l
  | .mark l _ => l
  | .quit l => l
  | .ifr l _ _ _ => l
/-- settings of registers so far, divisions, their product; the lines that break a limit -/
structure Much where
  sets : List (Str × Nat)
  divs : Nat
  prod : Nat
  found : List Nat
def getS (ks : List (Str × Nat)) (r : Str) : Nat := (ks.lookup r).getD 0
def muchStep (m : Much) : Row → Much
  | .set l r _ d =>
    let n := getS m.sets r + 1
    let f1 := if n > 2 then m.found ++ [l] else m.found
    match d with
    | none => ⟨(r, n) :: m.sets, m.divs, m.prod, f1⟩
    | some d => ⟨(r, n) :: m.sets, m.divs + 1, m.prod * d, if m.divs + 1 > 2 ∨ m.prod * d > 144 then f1 ++ [l] else f1⟩
  | _ => m
def tooMuchM (told : List Row) (product : Nat) : List Nat := (told.foldl muchStep ⟨[], 0, product, []⟩).found
def PLAINL : List (Option Str) := [none, some ("k" : Str), some ("cap" : Str), some ("low" : Str)]
def oddSum (ts : List Term) : Bool := ts.any fun t => !decide (t.2 ∈ PLAINL)
def mvLine : Row → Option Nat
  | .cut l _ ts _ => if oddSum ts = true then some l else none
  | .shift l ts _ _ => if oddSum ts = true then some l else none
  | _ => none
def movesM (told : List Row) : List Nat := told.filterMap mvLine
def wrongM (rows : List Row) (taken : Bool) (product : Nat) : List Nat := (if taken = true then marksM rows else []) ++ (waysM rows).flatMap fun w => tooMuchM w.1 product ++ ((movesM w.1).drop 3).take 1
inductive LimR where
  | fine
  | many (n : Nat)
  | refused (l : Nat)
def limitsM (rows : List Row) (taken : Bool) (product : Nat) : LimR :=
  if countM rows > 7 then .many (countM rows) else match wrongM rows taken product with
    | [] => .fine
    | l :: ls => .refused (ls.foldl min l)
/-! ### how many ways, how long -/
theorem two_le (a b : Nat) : 2 ^ a + 2 ^ b ≤ 2 ^ (1 + a + b) := by
  have h1 : 2 ^ a ≤ 2 ^ (a + b) := Nat.pow_le_pow_right (by decide) (Nat.le_add_right a b)
  have h2 : 2 ^ b ≤ 2 ^ (a + b) := Nat.pow_le_pow_right (by decide) (Nat.le_add_left b a)
  have e : 2 ^ (1 + a + b) = 2 * 2 ^ (a + b) := by
    rw [Nat.add_assoc, Nat.pow_add]
  omega
theorem flatMap_le {α β : Type} (f : α → List β) (n : Nat) : ∀ l : List α, (∀ x ∈ l, (f x).length ≤ n) → (l.flatMap f).length ≤ l.length * n
  | [], _ => by simp
  | x :: l, h => by
    rw [List.flatMap_cons, List.length_append, List.length_cons, Nat.succ_mul]
    have a := h x (by simp)
    have b := flatMap_le f n l fun y hy => h y (List.mem_cons_of_mem _ hy)
    omega
mutual
theorem longer_len : ∀ (r : Row) (w : Way), (longerR r w).length ≤ 2 ^ countR r
  | .ifr l ps a b, (told, goes) => by
    have h1 := ways_len a [([], true)]
    have h2 := ways_len b [([], true)]
    have t := two_le (countM a) (countM b)
    unfold longerR
    split
    · rw [List.length_map, List.length_append]
      rw [List.length_singleton, Nat.one_mul] at h1 h2
      show _ ≤ 2 ^ (1 + countM a + countM b)
      omega
    · exact Nat.one_le_two_pow
  | .set .., (told, goes) => by unfold longerR; split <;> exact Nat.le_refl _
  | .cut .., (told, goes) => by unfold longerR; split <;> exact Nat.le_refl _
  | .join .., (told, goes) => by unfold longerR; split <;> exact Nat.le_refl _
  | .shift .., (told, goes) => by unfold longerR; split <;> exact Nat.le_refl _
  | .mark .., (told, goes) => by unfold longerR; split <;> exact Nat.le_refl _
  | .quit .., (told, goes) => by unfold longerR; split <;> exact Nat.le_refl _
theorem ways_len : ∀ (rows : List Row) (ws : List Way), (waysFrom rows ws).length ≤ ws.length * 2 ^ countM rows
  | [], ws => by unfold waysFrom countM; omega
  | r :: rs, ws => by
    have h1 := ways_len rs (ws.flatMap (longerR r))
    have h2 := flatMap_le (longerR r) (2 ^ countR r) ws fun w _ => longer_len r w
    unfold waysFrom countM
    rw [Nat.pow_add, ← Nat.mul_assoc]
    exact Nat.le_trans h1 (Nat.mul_le_mul_right _ h2)
end
mutual
theorem longer_told : ∀ (r : Row) (w : Way), ∀ v ∈ longerR r w, v.1.length ≤ w.1.length + sizeR r
  | .ifr l ps a b, (told, goes) => fun v hv => by
    unfold longerR at hv
    split at hv
    · obtain ⟨u, hu, rfl⟩ := List.mem_map.mp hv
      show (told ++ _ :: u.1).length ≤ told.length + (1 + sizeM a + sizeM b)
      rw [List.length_append, List.length_cons]; rcases List.mem_append.mp hu with hu | hu
      · have h := ways_told a _ 0 (fun w hw => by rw [List.mem_singleton.mp hw]; exact Nat.le_refl _) u hu
        omega
      · have h := ways_told b _ 0 (fun w hw => by rw [List.mem_singleton.mp hw]; exact Nat.le_refl _) u hu
        omega
    · rw [List.mem_singleton.mp hv]
      exact Nat.le_add_right _ _
  | .set .., (told, goes) => fun v hv => by
    unfold longerR at hv
    split at hv <;> rw [List.mem_singleton.mp hv]
    · show (told ++ [_]).length ≤ told.length + 1
      rw [List.length_append]
      exact Nat.le_refl _
    · exact Nat.le_add_right _ _
  | .cut .., (told, goes) => fun v hv => by
    unfold longerR at hv
    split at hv <;> rw [List.mem_singleton.mp hv]
    · show (told ++ [_]).length ≤ told.length + 1
      rw [List.length_append]
      exact Nat.le_refl _
    · exact Nat.le_add_right _ _
  | .join .., (told, goes) => fun v hv => by
    unfold longerR at hv
    split at hv <;> rw [List.mem_singleton.mp hv]
    · show (told ++ [_]).length ≤ told.length + 1
      rw [List.length_append]
      exact Nat.le_refl _
    · exact Nat.le_add_right _ _
  | .shift .., (told, goes) => fun v hv => by
    unfold longerR at hv
    split at hv <;> rw [List.mem_singleton.mp hv]
    · show (told ++ [_]).length ≤ told.length + 1
      rw [List.length_append]
      exact Nat.le_refl _
    · exact Nat.le_add_right _ _
  | .mark .., (told, goes) => fun v hv => by
    unfold longerR at hv
    split at hv <;> rw [List.mem_singleton.mp hv]
    · show (told ++ [_]).length ≤ told.length + 1
      rw [List.length_append]
      exact Nat.le_refl _
    · exact Nat.le_add_right _ _
  | .quit .., (told, goes) => fun v hv => by
    unfold longerR at hv
    split at hv <;> rw [List.mem_singleton.mp hv]
    · show (told ++ [_]).length ≤ told.length + 1
      rw [List.length_append]
      exact Nat.le_refl _
    · exact Nat.le_add_right _ _
theorem ways_told : ∀ (rows : List Row) (ws : List Way) (n : Nat), (∀ w ∈ ws, w.1.length ≤ n) → ∀ v ∈ waysFrom rows ws, v.1.length ≤ n + sizeM rows
  | [], ws, n, h => fun v hv => by
    unfold waysFrom at hv
    exact Nat.le_trans (h v hv) (Nat.le_add_right _ _)
  | r :: rs, ws, n, h => fun v hv => by
    unfold waysFrom at hv
    have q := ways_told rs _ (n + sizeR r) (fun w hw => by
      obtain ⟨u, hu, hw⟩ := List.mem_flatMap.mp hw
      exact Nat.le_trans (longer_told r u w hw) (Nat.add_le_add_right (h u hu) _)) v hv
    show v.1.length ≤ n + (sizeR r + sizeM rs)
    omega
end
/-! ### rows that were read: how deep, how many -/
structure Few (n l l2 : Nat) (rows : List Row) : Prop where
  deep : depthM rows ≤ n
  size : sizeM rows + l ≤ l2
theorem rowM_few {n : Nat} (hr : ∀ i l ls rows last l2 r2, rowsM n i l ls = .ok (rows, last, l2, r2) → Few n l l2 rows) {line : Nat} {ws r : List Str} {row : Row} {l2 : Nat} {r2 : List Str} (h : rowM (rowsM n) line ws r = .ok (row, l2, r2)) : depthR row ≤ n + 1 ∧ sizeR row + line ≤ l2 + 1 := by
  have plain : ∀ {row}, deedM line ws = some row → depthR row = 0 ∧ sizeR row = 1 := fun {row} e => by
    have k : ∀ (o : Option (List Term)) (f : List Term → Option Row), (∀ ts row, f ts = some row → depthR row = 0 ∧ sizeR row = 1) → (match o with
      | some ts => f ts
      | none => none) = some row → depthR row = 0 ∧ sizeR row = 1 := fun o f hf z => by
      cases o with
      | none => cases z
      | some ts => exact hf ts row z
    unfold deedM at e
    split at e
    · cases e
      exact ⟨rfl, rfl⟩
    · split at e
      · cases q : divM (ws.drop 2) 12 with
        | none => (rw [q] at e; cases e)
        | some x =>
          rw [q] at e
          cases e
          exact ⟨rfl, rfl⟩
      · split at e
        · cases e
          exact ⟨rfl, rfl⟩
        · split at e
          · split at e
            · cases e
              exact ⟨rfl, rfl⟩
            · cases e
          · unfold movingM at e
            split at e
            · cases e
            · split at e
              · split at e
                · split at e
                  · cases e
                    exact ⟨rfl, rfl⟩
                  · cases e
                · cases e
              · split at e
                · cases e
                · split at e
                  · split at e
                    · cases e
                      exact ⟨rfl, rfl⟩
                    · cases e
                  · cases e
  unfold rowM at h
  split at h
  · split at h
    · cases h
    · split at h
      · cases h
      · rename_i e
        have a := hr _ _ _ _ _ _ _ e
        split at h
        · split at h
          · cases h
          · rename_i e2
            have b := hr _ _ _ _ _ _ _ e2
            split at h
            · cases h
              have := a.deep
              have := b.deep
              have := a.size
              have := b.size
              refine ⟨?_, ?_⟩
              · show 1 + max _ _ ≤ n + 1
                omega
              · show 1 + sizeM _ + sizeM _ + line ≤ _
                omega
            · cases h
        · split at h
          · cases h
            have := a.deep
            have := a.size
            refine ⟨?_, ?_⟩
            · show 1 + max _ (depthM []) ≤ n + 1
              unfold depthM at *
              omega
            · show 1 + sizeM _ + sizeM [] + line ≤ _
              have z : sizeM [] = 0 := rfl
              omega
          · cases h
  · split at h
    · cases h
    · rename_i e
      cases h
      obtain ⟨a, b⟩ := plain e
      omega
theorem rowsM_few : ∀ (n : Nat) (i : Bool) (l : Nat) (ls : List Str) (rows : List Row) (last : Option Str) (l2 : Nat) (r2 : List Str), rowsM n i l ls = .ok (rows, last, l2, r2) → Few n l l2 rows
  | 0, _, _, _, _, _, _, _, h => by cases h
  | n + 1, i, l, ls, rows, last, l2, r2, h => by
    unfold rowsM at h
    split at h
    · split at h
      · cases h
      · cases h
        exact ⟨Nat.zero_le _, Nat.le_of_eq (Nat.zero_add _)⟩
    · split at h
      · cases h
        exact ⟨Nat.zero_le _, by show 0 + l ≤ l + 1; omega⟩
      · split at h
        · cases h
        · rename_i e
          have a := rowM_few (rowsM_few n) e
          split at h
          · cases h
          · rename_i e2
            have b := rowsM_few n _ _ _ _ _ _ _ e2
            cases h
            have := b.deep
            have := b.size
            refine ⟨?_, ?_⟩
            · show max (depthR _) (depthM _) ≤ n + 1
              omega
            · show sizeR _ + sizeM _ + l ≤ l2
              omega
theorem readM_few {t : Str} {rows : List Row} (h : readM t = .ok rows) : depthM rows ≤ (linesM t).length + 1 ∧ sizeM rows ≤ (linesM t).length := by
  unfold readM at h
  split at h
  · cases h
  · rename_i x e
    cases h
    obtain ⟨rows, last, l2, r2⟩ := x
    have a := rowsM_few _ _ _ _ _ _ _ _ e
    have b := (rowsM_left _ _ _ _ _ _ _ _ e).sum
    have := a.size
    exact ⟨a.deep, by show sizeM rows ≤ _; omega⟩
end Pk
namespace LamX
open L2 PyProof.Rows PySem.Spec PySem
/-! ### lambdas that are kept in a list and called later, where they were made -/
def LamO (cells : List (Str × Addr)) (q : Str) (params : Arguments) (body : Expr) (scope : Scope) (c' f : Addr) : HO :=
  .ext fun h => ∃ pm ctv, h.get? f = some (PySem.W.kla_obj "<lambda>" q params body scope (cloFrom cells scope.names []) pm c' ctv)
section
variable {pins : List (Addr × Obj)} {X : Cx} {s : Shared} {H : Hp} {σ : L2.St}
theorem lam_make3 {T : List (Addr × Str)} {c P : Addr} {params : Arguments} {body : Expr} {scope : Scope} {pos : Pos} {E : Value → Shared → Prop} {Q : Value → Shared → Prop} (I : Inv X pins σ H s) (TB : TabB X.base X.mg c P) (hcode : X.env.code = .ref c)
    (hm : (P, X.env.qual ++ "<lambda>") ∈ T) (hu : ∀ tq ∈ T, tq.1 = P → tq.2 = X.env.qual ++ "<lambda>") (hT : Tabs T H) (hdef : defaultsOf params X.env = ([], [])) (hfree : ∀ nk ∈ scope.names, nk.2 = .free → ∃ c, X.env.cells.lookup nk.1 = some c)
    (h : ∀ (f c' : Addr) (H1 : Hp) (s' : Shared), Inv X pins σ (upd H1 f (LamO X.env.cells (X.env.qual ++ "<lambda>") params body scope c' f)) s' → ExtN H H1 → Tabs T H1 → H1 f = none → H1 c' = some (CodeO c' (X.env.qual ++ "<lambda>")) → Q (.ref f) s') :
    (wpAny (model X.prog X.w) X.A (eval (.Lambda params body scope pos) X.env) Q E s) := by
  obtain ⟨ps, hP, ht, ha⟩ := hT _ hm; refine PySem.W.kla_eval hdef ?_
  have bP : s.heap.BuiltinsAt X.mg P := TB.bm.keeps I.bk; have hP' : s.heap.get? P = some { cls := .none, data := .fields ps } := I.hok P _ hP
  have track : ∀ {H1 : Hp} {h' : Heap} {tk : Tok} {c' : Addr} {ctv : Value}, Inv X pins σ H1 { s with heap := h', toks := tk } → Inv X pins σ (upd H1 h'.objs.size (LamO X.env.cells (X.env.qual ++ "<lambda>") params body scope c' h'.objs.size)) { s with heap := h'.push (PySem.W.kla_obj "<lambda>" (X.env.qual ++ "<lambda>") params body scope (cloFrom X.env.cells scope.names []) ((X.mg "__name__").getD .none) c' ctv), toks := tk } := fun {H1 h' tk c' ctv} J => by
    have e0 := Heap.get?_push_size h' (o := PySem.W.kla_obj "<lambda>" (X.env.qual ++ "<lambda>") params body scope (cloFrom X.env.cells scope.names []) ((X.mg "__name__").getD .none) c' ctv) rfl
    exact J.laid (a := h'.objs.size) (t' := tk) (fun b u q => Heap.get?_push_of_some _ q) (Nat.le_refl _) ⟨⟨_, _, e0⟩, ⟨_, e0⟩, fun h1 h2 ⟨pm, ct, e⟩ st => ⟨pm, ct, st _ e⟩⟩
  cases hc : (codeAmong pos ps.toList) with
  | none =>
    refine PySem.W.kla_makeFunction (mg := X.mg) (c := c) (P := P) (ps := ps) (closure_ok hfree) I.ok.glob (I.mod.glob.keeps I.bk) hcode (TB.code.keeps I.bk) hP' ht hc TB.gP bP fun c' ctv h' tk hx hge hlt hrec htb => ?_; obtain ⟨c2, oc, vs, t, e2, hoc, hd, hv⟩ := hrec
    cases e2
    have hsz : s.heap.objs.size ≤ h'.objs.size := Nat.le_trans hge (Nat.le_of_lt hlt); have nC : H c' = none := I.hok.fresh hge
    have I1 := inv_table (t' := tk) (more := #[rawInt pos.line, rawInt pos.col, .ref c']) (h' := h') I hP
      (fun b o hb e => hx b o hb e) htb hge ⟨oc, vs, t, hoc, hd, hv⟩
    have hE : (ExtN H (upd (upd H P (.tbl (ps ++ #[rawInt pos.line, rawInt pos.col, .ref c']))) c' (CodeO c' (X.env.qual ++ "<lambda>")))) := fun b o e n => by
      rw [upd_ne (ne_of_none e nC), upd_ne (fun z => n ps (Option.some.inj (e.symm.trans (by rw [z]; exact hP))))]; exact e
    have eL : (ps ++ #[rawInt pos.line, rawInt pos.col, .ref c']).toList = ps.toList ++ [rawInt pos.line, rawInt pos.col, .ref c'] := (by simp)
    refine h h'.objs.size c' _ _ (track I1) hE (fun p hp => ?_) ?_ upd_same
    · by_cases hb : p.1 = P
      · rw [hu p hp hb, hb]; refine ⟨_, by rw [upd_ne (ne_of_none hP nC), upd_same], by rw [eL]; exact PySem.TriplesOk_snoc _ _ _ _ ht, fun p' cv hcv => ?_⟩
        rw [eL] at hcv; rcases among_app _ ht hcv with z | z
        · obtain ⟨c0, e1, e2⟩ := ha p' cv z; exact ⟨c0, e1, hE _ _ e2 codeO_ne⟩
        · exact ⟨c', z, upd_same⟩
      · obtain ⟨ps', a1, a2, a3⟩ := hT p hp; refine ⟨ps', by rw [upd_ne (ne_of_none a1 nC), upd_ne hb]; exact a1, a2, fun p' cv hcv => ?_⟩
        obtain ⟨c0, e1, e2⟩ := a3 p' cv hcv; exact ⟨c0, e1, hE _ _ e2 codeO_ne⟩
    · have n1 : h'.objs.size ≠ c' := Nat.ne_of_gt hlt; have n2 : h'.objs.size ≠ P := Nat.ne_of_gt (Nat.lt_of_lt_of_le (Heap.lt_size hP') hsz)
      rw [upd_ne n1, upd_ne n2]
      exact I.hok.fresh hsz
  | some cv =>
    obtain ⟨c', e, hco⟩ := ha pos cv hc; subst e
    refine PySem.W.kla_makeFunctionHit (mg := X.mg) (c := c) (P := P) (ps := ps) (closure_ok hfree) I.ok.glob (I.mod.glob.keeps I.bk) hcode (TB.code.keeps I.bk) hP' ht hc bP fun ctv h' tk hx hsz => ?_; have I1 : Inv X pins σ H { s with heap := h', toks := tk } := I.kept hx
    exact h h'.objs.size c' H _ (track I1) (ExtN.refl H) hT (I.hok.fresh hsz) hco
end
def tLamV (T : List (Addr × Str)) (ce : List (Str × Addr)) (q : Str) (params : Arguments) (body : Expr) (scope : Scope) : TE := fun _ H Q =>
  Tabs T H ∧ ∀ f c' H1, ExtN H H1 → Tabs T H1 → H1 f = none → H1 c' = some (CodeO c' q) → Q (.ref f) (upd H1 f (LamO ce q params body scope c' f))
section
variable {X : Cx}
/-- lambda: body, as a value -/
theorem pe_lamV {T : List (Addr × Str)} {ce : List (Str × Addr)} {q : Str} {c P : Addr} {params : Arguments} {body : Expr} {scope : Scope} {lpos : Pos} (eC : X.env.cells = ce) (eQ : X.env.qual ++ "<lambda>" = q) (TB : TabB X.base X.mg c P) (hcode : X.env.code = .ref c) (hmT : (P, q) ∈ T) (hu : ∀ p ∈ T, p.1 = P → p.2 = q)
    (L : LamS X.env.scope scope) (hdef : defaultsOf params X.env = ([], [])) : PE X (.Lambda params body scope lpos) (tLamV T ce q params body scope) := by
  refine ⟨fun pins s σ H Q I h => ?_⟩; obtain ⟨hT, h⟩ := h
  subst eC eQ
  exact lam_make3 I TB hcode hmT hu hT hdef (L.has I.ok) fun f c' H1 s' I1 eN T1 hf hc => ⟨.ref f, _, I1, rfl, h f c' H1 eN T1 hf hc⟩
/-- x(), where the lambda was made; ι: which of them it is -/
theorem pe_lamS {ι : Type} {params : ι → Arguments} {body : ι → Expr} {scope : ι → Scope} {ce : List (Str × Addr)} {q a : Str} {i k : Nat} {W : WX} {tb : ι → XK → TE} {p1 p2 : Pos} (eC : X.env.cells = ce) (eQ : X.env.qual ++ "<lambda>" = q) (L : ∀ j, LamS X.env.scope (scope j)) (tk : Takes X W) (hr : Room (k + 1) X.A)
    (hbind : ∀ (j : ι) (q : Str) (cl : List (Str × Addr)) (pm cv ctv : Value), bindArgs (PySem.W.kla_fn "<lambda>" q (params j) (body j) (scope j) cl pm cv ctv) ⟨[], []⟩ = pure [])
    (hbody : ∀ (j : ι) (A : Around) (outer : List Env) (s : Shared) (H : Hp) (E : XK) (f c' : Addr), Room k (A.deeper (lamEnv X (scope j) s.heap.objs.size f c')) → PE (lamCx X A outer s H E (scope j) f c') (body j) (tb j E))
    (hN : X.N[i]? = some a) (hv : Vis X.env.scope a) (hd : (a == ("__debug__" : Str)) = false := by decide) (hcd : (a == ("__classdict__" : Str)) = false := by decide) :
    PE X (.Call (.Name a p1) [] [] p2) (fun σ H Q => ∃ j f c', σ[i]? = some (some (.ref f)) ∧ H f = some (LamO ce q (params j) (body j) (scope j) c' f) ∧ H c' = some (CodeO c' q) ∧ tb j (fun cls d H => W cls d σ H) σ H Q) := by
  subst eC eQ
  refine ⟨fun pins s σ H Q I h => ?_⟩; obtain ⟨j, f, c', hs, hf, hc, ht⟩ := h
  refine wpAny_Call_Name_kw (thn ((pe_var (pos := p1) (i := i) hN hv hd hcd).run pins s σ H (fun v H1 => v = .ref f ∧ H1 = H) I ⟨.ref f, hs, rfl, rfl⟩) fun u s1 ⟨v, H1, I1, r1, q1⟩ => ?_)
  obtain ⟨ev, eH⟩ := q1
  subst ev
  rw [eH] at I1
  obtain rfl : u = Value.ref f := r1; obtain ⟨⟨pm, ctv, of1⟩, _, _⟩ := I1.hok f _ hf
  refine PySem.W.callWith_F0 ⟨_, _, _, _, of1⟩ ?_; obtain ⟨⟨oc, vs, t, hoc, hdc, hvc⟩, _, _⟩ := I1.hok c' _ hc
  have rc : codeAny (model X.prog X.w) X.A (.call (.ref f) ⟨[], []⟩) (CR (L2.CX X.prog X.w) X.stack X.prog X.w H s1 Q (fun cls d H => W cls d σ H)) s1 := by
    refine PySem.W.kla_callFunE hr.depth of1 rfl (L j).co (L j).gen rfl ⟨c', oc, vs, t, rfl, hoc, hdc, hvc⟩ ?_
    rw [hbind]
    refine wpAny_pure (wpAny_newFunctionEnv (fun y hy => ((L j).own y hy).2) (fun y hy => absurd hy (by simp)) (fun h₁ hns hsb => ⟨I1.nolimit.fresh _ hsb, ?_⟩) (L j).kind)
    show codeAny _ _ (.expr (body j) (lamEnv X (scope j) s1.heap.objs.size f c')) _ _
    have kp : ∀ b o, s1.heap.get? b = some o → h₁.get? b = some o := fun b o e => hsb.extBut b o (Nat.ne_of_lt (Heap.lt_size e)) (Heap.get?_push_of_some _ e); have J : Inv (lamCx X X.A X.stack s1 H (fun cls d H => W cls d σ H) (scope j) f c') [] σ H { s1 with heap := h₁, toks := s1.toks + ([] : List (Str × Value)).length } :=
      lam_start2 I1 (L j) I1.env0 hr.hd Un.refl hns kp
    refine PySem.W.kla_codeExpr (wpAny_mono ((hbody j _ _ s1 H _ f c' (hr.deeper _)).run [] _ _ H Q J ht) (fun v s' hq => ?_) fun e s' hq => hq)
    obtain ⟨w', H', J', rv, q⟩ := hq; exact ⟨w', H', J'.os, J'.bare, J'.base, J'.hok, rv, q⟩
  refine wpAny_call (codeAny_mono rc fun r s' hq => ?_); cases r with
  | error e => exact tk e s' (XE.of_call I1 (fun cls d H' h => h) hq)
  | ok fl =>
    cases fl with
    | ret u => exact I1.after hq
    | next => exact False.elim hq
    | brk => exact False.elim hq
    | cont => exact False.elim hq
end
/-- a def whose code object is told -/
theorem okC {P : Program} {w : World} {K : PySem.W.Frag} {mg : Str → Option Value} {base : Heap} {x qual : Str} {params : Arguments} {body : List Stmt} {scope : Scope} {dvs : List V} {kws : List (Str × V)} {f : Addr} {fd : FuncData}
    {CX : CXT} {N ps : List Str} {k : Nat} {sp : Sp} (F : FunD K x qual params body scope dvs kws f fd) (S : FnScope N ps scope) (len : ∀ vs H Q E, sp vs H Q E → vs.length = ps.length)
    (hbody : ∀ (A : Around) (outer : List Env) (s : Shared) (H : Hp) (vs : List V) (Q : VK) (E : XK), Room k (A.deeper (envOfC qual scope s.heap.objs.size f fd.code)) → sp vs H Q E →
      ∃ t, PSs (cxOf CX P w K mg base N qual scope f fd.code A outer s H E) body t ∧ t { nx := fun _ H' => Q .non H', rt := Q } (start N vs) H) : FnOk P w K mg base CX (k + 1) f fd ps sp := by
  obtain ⟨oc, od, dV, kV, doc, pm, an, cdv, ct, osl, rfl, lk, hcd, _, _⟩ := F.ex; exact fn_of lk hcd S len fun A outer s H vs Q E hr hsp => hbody A outer s H vs Q E hr hsp
end LamX
namespace L2
open PyProof.Rows PySem.Spec PySem
/-- a try with clauses, its reading by a name (wanted in loops) -/
def tTry (K : PySem.W.Frag) (Wout : WX) (l : List Clause) (tb : WX → TS) : TS := fun D σ H => tb (wAll K Wout D l) D σ H
theorem ps_try_allD {X : Cx} {body : List Stmt} {h₀ : ExceptHandler} {hds : List ExceptHandler} {l : List Clause} {pos : Pos} {tb : WX → TS} {Wout : WX} (K : PySem.W.Frag) (eK : X.K = K) (hs : X.stack = X.env :: X.outer) (hf : X.env.frame = some X.env.locals) (hN : X.N.Nodup) (hex : X.ex = []) (tk : Takes X Wout)
    (hb : ∀ (W : WX) (pq : List (Addr × Obj)) (xe : Value → Shared → Prop), Takes (X.tr pq xe) W → PassesOwn (model X.prog X.w) X.A X.env xe → PSs (X.tr pq xe) body (tb W))
    (hh : HdsA X (h₀ :: hds) l) : PS X (.Try body (h₀ :: hds) [] [] pos) (tTry K Wout l tb) := by
  subst eK
  exact ps_try_all hs hf hN hex tk hb hh
theorem pe_bmK {X : Cx} {name : Str} {T id : String} {o e : Expr} {es : List Expr} {to : TE} {t : TA} {r : V → List V → Hp → VK → Prop} {apos cpos : Pos} (K : PySem.W.Frag) (eK : X.K = K) (pa : PlainAttrs T) (slot : Slot T name id) (hty : typeOf (.builtin id) = pure (.type "method_descriptor")) (hm : MtR X id r) (ho : PE X o to) (ha : PA X (e :: es) t)
    (hbase : (attributeBase o name X.env (eval o X.env)) = (eval o X.env) := by rfl)
    (hfew : ((backTo cpos (starEach (e :: es) X.env)).all (fun z => !z.1) && (backToKw cpos (keywordEach [] X.env)).all (fun z => z.1.isSome)
      && (decide ((e :: es).length + ([] : List Keyword).length + (if ([] : List Keyword).isEmpty then 0 else 1) < 30))) = true := by rfl)
    (hline : (apos.endLine == cpos.line) = true := by rfl) (hs : starEach (e :: es) X.env = (false, eval e X.env) :: starEach es X.env := by rfl) (hplain : ((backTo cpos (starEach es X.env)).any fun z => z.1) = false := by rfl) :
    PE X (.Call (.Attribute o name apos) (e :: es) [] cpos) (tBM K T r to t) := by
  subst eK
  exact pe_bm pa slot hty hm ho ha hbase hfew hline hs hplain
end L2
namespace L2
open PyProof.Rows PySem.Spec PySem
theorem pi_listK {X : Cx} {tg l : Expr} {tl : TE} (K : PySem.W.Frag) (e : X.K = K) (hl : PE X l tl) : PI X tg l (iList K tl) := by
  subst e
  exact pi_list hl
/-! ### a walk over a list that stays, whatever is done in a turn (clauses of comprehensions too) -/
theorem turns_list {K : PySem.W.Frag} {a : Addr} {xs : List V} {Qd : Hp → Prop} {B : (Hp → Prop) → V → Hp → Prop} {H0 : Hp} (Pv : Nat → Hp → Prop) (h0 : Pv 0 H0) (hl : ∀ i H, i ≤ xs.length → Pv i H → SqL K H a xs) (hs : ∀ i x H, xs[i]? = some x → Pv i H → B (Pv (i + 1)) x H) (hd : ∀ H, Pv xs.length H → Qd H) :
    ∃ W : Nat → Nat → Hp → Prop, (∃ m, W 0 m H0) ∧ ∀ i m H, W i m H → ((Itl K a).stop i H ∧ Qd H) ∨ ((Itl K a).go i H ∧ ∃ Nx : Hp → Prop, (∀ H', Nx H' → ∃ m', m' < m ∧ W (i + 1) m' H') ∧ ∀ x H', (Itl K a).yld i H x H' → B Nx x H') := by
  refine ⟨fun i m H => m = xs.length - i ∧ i ≤ xs.length ∧ Pv i H, ⟨_, rfl, Nat.zero_le _, h0⟩, fun i m H w => ?_⟩
  obtain ⟨em, hi, p⟩ := w
  have q := hl i H hi p
  rcases Nat.lt_or_ge i xs.length with lt | ge
  · refine .inr ⟨⟨xs, xs[i], q, List.getElem?_eq_getElem lt⟩, Pv (i + 1), fun H' p' => ⟨xs.length - (i + 1), by omega, rfl, lt, p'⟩, fun x H' y => ?_⟩
    obtain ⟨e1, y⟩ := y
    rw [e1]
    exact hs i x H (y xs q) p
  · have e : i = xs.length := Nat.le_antisymm hi ge
    exact .inl ⟨⟨xs, q, Nat.le_of_eq e.symm⟩, hd H (e ▸ p)⟩
end L2
namespace StX
open L2 PyProof.Rows PySem.Spec PySem
theorem pa_starK {X : Cx} {e : Expr} {es : List Expr} {te : TE} {t : TA} {p : Pos} (K : PySem.W.Frag) (eK : X.K = K) (he : PE X e te) (hr : PA X es t) (hs : starEach (.Starred e p :: es) X.env = (true, eval e X.env) :: starEach es X.env := by rfl) : PA X (.Starred e p :: es) (tStar K te t) := by
  subst eK
  exact pa_star he hr hs
end StX
namespace Pk
open L2 PyProof.Rows PySem.Spec PySem
abbrev sCount : Stmt := top 31
abbrev sWays : Stmt := top 32
abbrev sLonger : Stmt := top 33
abbrev sMarks : Stmt := top 34
abbrev sMuch : Stmt := top 35
abbrev sMoves : Stmt := top 36
abbrev sLimits : Stmt := top 37
/-! ### a row's tuple -/
def kindR : Row → Str
  | .set .. => "set"
  | .cut .. => "cut"
  | .join .. => "join"
  | .shift .. => "shift"
  | .mark .. => "mark"
  | .quit .. => "quit"
  | .ifr .. => "if"
theorem row_at {fr : Addr → Prop} {H : Hp} {a : Addr} {row : Row} (h : RowAt fr H a row) : ∃ xs, H a = some (.tup xs) ∧ atI xs 0 = some (.str (kindR row)) ∧ atI xs 1 = some (.int (lineR row : Nat)) := by
  cases h with
  | set e _ => exact ⟨_, e, rfl, rfl⟩
  | cut e _ => exact ⟨_, e, rfl, rfl⟩
  | join e => exact ⟨_, e, rfl, rfl⟩
  | shift e _ => exact ⟨_, e, rfl, rfl⟩
  | mark e => exact ⟨_, e, rfl, rfl⟩
  | quit e => exact ⟨_, e, rfl, rfl⟩
  | ifr e => exact ⟨_, e, rfl, rfl⟩
structure IfAt (fr : Addr → Prop) (H : Hp) (q : Addr) (l : Nat) (ps : List Part) (a b : List Row) (p ra oa : Addr) (rr orr : List Addr) : Prop where
  h : H q = some (.tup [.str "if", .int (l : Nat), .ref p, .ref ra, .ref oa])
  ps : PartsAt H p ps
  fa : fr ra
  ha : H ra = some (.lst (rr.map V.ref))
  ra : RowsAt fr H rr a
  fb : fr oa
  hb : H oa = some (.lst (orr.map V.ref))
  rb : RowsAt fr H orr b
theorem row_if {fr : Addr → Prop} {H : Hp} {q : Addr} {l : Nat} {ps : List Part} {a b : List Row} (h : RowAt fr H q (.ifr l ps a b)) : ∃ p ra oa rr orr, IfAt fr H q l ps a b p ra oa rr orr := by
  cases h with
  | ifr e p f1 e1 r1 f2 e2 r2 => exact ⟨_, _, _, _, _, e, p, f1, e1, r1, f2, e2, r2⟩
theorem rows_len {fr : Addr → Prop} {H : Hp} : ∀ {rr : List Addr} {rows : List Row}, RowsAt fr H rr rows → rr.length = rows.length
  | _, _, .nil => rfl
  | _, _, .cons _ rs => congrArg Nat.succ (rows_len rs)
theorem rows_get {fr : Addr → Prop} {H : Hp} : ∀ {rr : List Addr} {rows : List Row} {i : Nat} {b : Addr}, RowsAt fr H rr rows → rr[i]? = some b → ∃ row, rows[i]? = some row ∧ RowAt fr H b row
  | _, _, _, _, .nil, h => by simp at h
  | _, _, 0, _, .cons r _, h => by
    cases h
    exact ⟨_, rfl, r⟩
  | _, _, i + 1, _, .cons _ rs, h => rows_get (i := i) rs h
/-- the i-th reference of a list of rows -/
theorem ref_get {fr : Addr → Prop} {H : Hp} {rr : List Addr} {rows : List Row} {i : Nat} {x : V} (h : RowsAt fr H rr rows) (e : (rr.map V.ref)[i]? = some x) : ∃ b row, x = .ref b ∧ rows[i]? = some row ∧ RowAt fr H b row := by
  rw [List.getElem?_map] at e
  cases q : rr[i]? with
  | none => (rw [q] at e; cases e)
  | some b =>
    rw [q] at e
    obtain ⟨row, h1, h2⟩ := rows_get h q
    exact ⟨b, row, (Option.some.inj e).symm, h1, h2⟩
theorem take_snoc {α : Type} {l : List α} {i : Nat} {x : α} (h : l[i]? = some x) : l.take (i + 1) = l.take i ++ [x] := by
  rw [List.take_succ, h]
  rfl
theorem depth_mem {row : Row} : ∀ {rows : List Row}, row ∈ rows → depthR row ≤ depthM rows
  | r :: rs, h => by
    show depthR row ≤ max (depthR r) (depthM rs)
    rcases (List.mem_cons.mp h) with e | e
    · rw [e]
      exact Nat.le_max_left _ _
    · exact Nat.le_trans (depth_mem e) (Nat.le_max_right _ _)
theorem size_mem {row : Row} : ∀ {rows : List Row}, row ∈ rows → sizeR row ≤ sizeM rows
  | r :: rs, h => by
    show sizeR row ≤ sizeR r + sizeM rs
    rcases (List.mem_cons.mp h) with e | e
    · rw [e]
      omega
    · have := size_mem e
      omega
theorem size_pos : ∀ (row : Row), 1 ≤ sizeR row
  | .set .. => Nat.le_refl _
  | .cut .. => Nat.le_refl _
  | .join .. => Nat.le_refl _
  | .shift .. => Nat.le_refl _
  | .mark .. => Nat.le_refl _
  | .quit .. => Nat.le_refl _
  | .ifr .. => by unfold sizeR; omega
theorem size_len : ∀ rows : List Row, rows.length ≤ sizeM rows
  | [] => Nat.le_refl _
  | r :: rs => by
    have := size_pos r
    have := size_len rs
    show rs.length + 1 ≤ sizeR r + sizeM rs
    omega
theorem kind_if {row : Row} (h : kindR row = "if") : ∃ l ps a b, row = .ifr l ps a b := by
  cases row with
  | ifr l ps a b => exact ⟨l, ps, a, b, rfl⟩
  | _ => exact absurd h (by simp only [kindR]; decide)
theorem count_not {row : Row} (h : ¬ kindR row = "if") : countR row = 0 := by
  cases row with
  | ifr l ps a b => exact absurd rfl h
  | _ => rfl
theorem countM_snoc (r : Row) : ∀ rs : List Row, countM (rs ++ [r]) = countM rs + countR r
  | [] => by show countR r + 0 = 0 + countR r; omega
  | x :: rs => by
    have := countM_snoc r rs
    show countR x + countM (rs ++ [r]) = countR x + countM rs + countR r
    omega
theorem marksM_snoc (r : Row) : ∀ rs : List Row, marksM (rs ++ [r]) = marksM rs ++ marksR r
  | [] => by show marksR r ++ [] = [] ++ marksR r; rw [List.append_nil, List.nil_append]
  | x :: rs => by
    have := marksM_snoc r rs
    show marksR x ++ marksM (rs ++ [r]) = marksR x ++ marksM rs ++ marksR r
    rw [this, List.append_assoc]
mutual
theorem marksR_len : ∀ r : Row, (marksR r).length ≤ sizeR r
  | .ifr l ps a b => by
    have := marksM_len a
    have := marksM_len b
    show (marksM a ++ marksM b).length ≤ 1 + sizeM a + sizeM b
    rw [List.length_append]
    omega
  | .mark .. => Nat.le_refl _
  | .set .. => Nat.zero_le _
  | .cut .. => Nat.zero_le _
  | .join .. => Nat.zero_le _
  | .shift .. => Nat.zero_le _
  | .quit .. => Nat.zero_le _
theorem marksM_len : ∀ rs : List Row, (marksM rs).length ≤ sizeM rs
  | [] => Nat.le_refl _
  | r :: rs => by
    have := marksR_len r
    have := marksM_len rs
    show (marksR r ++ marksM rs).length ≤ sizeR r + sizeM rs
    rw [List.length_append]
    omega
end
theorem size_take : ∀ (rows : List Row) (i : Nat), sizeM (rows.take i) ≤ sizeM rows
  | [], i => by rw [List.take_nil]; exact Nat.le_refl _
  | r :: rs, 0 => Nat.zero_le _
  | r :: rs, i + 1 => by
    have := size_take rs i
    show sizeR r + sizeM (rs.take i) ≤ sizeR r + sizeM rs
    omega
def spCount (n : Nat) : Sp := fun vs H Q _ => ∃ (a : Addr) (fr : Addr → Prop) (rr : List Addr) (rows : List Row), vs = [.ref a] ∧ H a = some (.lst (rr.map V.ref)) ∧ RowsAt fr H rr rows ∧ depthM rows < n ∧ sizeM rows ≤ 1000 ∧ ∀ H', Same H H' → Q (.int (countM rows : Nat)) H'
def spMarks (n : Nat) : Sp := fun vs H Q _ => ∃ (a : Addr) (fr : Addr → Prop) (rr : List Addr) (rows : List Row), vs = [.ref a] ∧ H a = some (.lst (rr.map V.ref)) ∧ RowsAt fr H rr rows ∧ depthM rows < n ∧ sizeM rows ≤ 1000 ∧ ∀ p H', Same H H' → H p = none → H' p = some (.lst ((marksM rows).map fun l => V.int (l : Nat))) → Q (.ref p) H'
/-- the ifs' counts, row by row -/
def cntL (rows : List Row) : List Int := rows.filterMap fun r => if kindR r = "if" then some (countR r : Int) else none
theorem cnt_sum : ∀ rows : List Row, (cntL rows).sum = (countM rows : Nat)
  | [] => rfl
  | r :: rs => by
    have ih := cnt_sum rs
    unfold cntL at ih ⊢
    rw [List.filterMap_cons]
    by_cases h : kindR r = "if"
    · rw [if_pos h]
      dsimp only
      rw [List.sum_cons, ih]
      exact (Int.natCast_add _ _).symm
    · rw [if_neg h]
      dsimp only
      rw [ih]
      show ((countM rs : Nat) : Int) = ((countR r + countM rs : Nat) : Int)
      rw [count_not h, Nat.zero_add]
theorem cnt_snoc {rows : List Row} {r : Row} : cntL (rows ++ [r]) = cntL rows ++ (if kindR r = "if" then [(countR r : Int)] else []) := by
  unfold cntL
  rw [List.filterMap_append]
  congr 1
  by_cases h : kindR r = "if"
  · rw [if_pos h, List.filterMap_cons, if_pos h]
    rfl
  · rw [if_neg h, List.filterMap_cons, if_neg h]
    rfl
section
variable {K : PySem.W.Frag} {P : Program} {w : World} {base : Heap} {mg : Str → Option Value}
theorem sc_count_ifs : FnScope ["rows", "row"] ["rows"] (defScope sCount) := ⟨rfl, rfl, rfl, by decide +kernel, rfl, by decide +kernel, by decide +kernel⟩
theorem ok_count_ifs {fC : Addr} {fdC : FuncData} (FC : FunD K "count_ifs" "count_ifs" (defArgs sCount) (defBody sCount) (defScope sCount) [] [] fC fdC) (gC : mg "count_ifs" = some (.ref fC)) (mSum : mg "sum" = none) : ∀ n, FnOk P w K mg base CX0 (n + 1) fC fdC ["rows"] (spCount n)
  | 0 => by
    refine FC.ok sc_count_ifs (fun vs H Q E h => ?_) (fun cdv A outer s H vs Q E hr h => ?_)
    · obtain ⟨a, fr, rr, rows, rfl, _⟩ := h
      rfl
    · obtain ⟨a, fr, rr, rows, rfl, _, _, hn, _⟩ := h
      exact absurd hn (Nat.not_lt_zero _)
  | n + 1 => by
    have GC := ok_count_ifs FC gC mSum n
    have bC : Binds K fdC ["rows"] [] := FC.bindsN fun _ _ _ _ _ _ us hl => match us, hl with | [_], _ => rfl
    refine FC.ok sc_count_ifs (fun vs H Q E h => ?_) (fun cdv A outer s H vs Q E hr h => ?_)
    · obtain ⟨a, fr, rr, rows, rfl, _⟩ := h
      rfl
    · obtain ⟨a, fr, rr, rows, rfl, ha, hrr, hn, hs, q⟩ := h
      refine ⟨_, PSs.nox (pss_one (by exact (ps_ret (pe_callB (cr_sum rfl) (by rfl) mSum (by decide +kernel) (pa_cons (pe_lc (own := [("row", 1)]) (g := gName 1) rfl sc_count_ifs.nd (pi_list (pv 0)) (blkOk_by (N := ["rows", "row"]) (sc := defScope sCount) (by decide +kernel)) (fun _ _ _ _ _ => pg_name (i := 1) sc_count_ifs.nd rfl (Or.inl rfl)) (fun _ _ _ _ _ => (pts_one (pt_cmpR op_eq (pe_ix (ix_tupK K rfl) (pv 1) pe_int (fun _ _ => rfl)) pe_str (nomark _)))) (fun _ _ _ _ _ => (pe_op op_add (pe_op op_add pe_int (pe_call GC hr rfl gC FC.kp bC .nil pass0 (pa_cons (pe_ix (ix_tupK K rfl) (pv 1) pe_int (fun _ _ => rfl)) pa_nil))) (pe_call GC hr rfl gC FC.kp bC .nil pass0 (pa_cons (pe_ix (ix_tupK K rfl) (pv 1) pe_int (fun _ _ => rfl)) pa_nil))))) pa_nil))))), ?_⟩
      have lr := rows_len hrr
      refine ⟨_, rfl, a, rfl, ⟨_, SqL.of ha⟩, fun D hD => lc_list (K := K) (a := a) (xs := rr.map V.ref) (fun i H' => Same H H' ∧ H' D = some (.lst ((cntL (rows.take i)).map V.int))) ⟨same_new hD, by rw [upd_same]; rfl⟩ (fun i H' _ h => SqL.of (h.1 _ _ ha)) ?_ ?_⟩
      · intro i x H' hi hp
        obtain ⟨b, row, rfl, hrow, hb⟩ := ref_get hrr hi
        have hb' := hb.keep (Keeps.same hp.1) fun _ z => z
        obtain ⟨xs, h1, h2, _⟩ := row_at hb'
        have mem := List.mem_of_getElem? hrow
        have st : ∀ H2 acc, Same H' H2 → Same H (upd H2 D (.lst acc)) := fun H2 acc s2 u o e => by
          rw [upd_ne (fun z => by rw [z, hD] at e; cases e)]
          exact s2 _ _ (hp.1 u o e)
        refine ⟨rfl, ?_⟩
        refine ⟨_, rfl, b, xs, 0, .str (kindR row), rfl, rfl, SqT.of h1, h2, rfl, _, rfl, ite2 (fun e => ?_) fun e => ?_⟩
        · have ek := strE e
          obtain ⟨l, ps, ra, rb, rfl⟩ := kind_if ek
          obtain ⟨p, r1, r2, rr1, rr2, I⟩ := row_if hb'
          have dm := depth_mem mem
          have sm := size_mem mem
          have d1 : 1 + max (depthM ra) (depthM rb) ≤ depthM rows := dm
          have s1 : 1 + sizeM ra + sizeM rb ≤ sizeM rows := sm
          refine ⟨_, rfl, b, _, 3, .ref r1, rfl, rfl, SqT.of I.h, rfl, r1, fr, rr1, ra, rfl, I.ha, I.ra, by omega, by omega, fun H3 s3 => ?_⟩
          refine ⟨_, _, rfl, rfl, _, rfl, b, _, 4, .ref r2, rfl, rfl, SqT.of (s3 _ _ I.h), rfl, r2, fr, rr2, rb, rfl, s3 _ _ I.hb, I.rb.keep (Keeps.same s3) fun _ z => z, by omega, by omega, fun H4 s4 => ?_⟩
          have s34 := s3.trans s4
          refine ⟨_, _, rfl, rfl, _, s34 _ _ hp.2, ?_, st _ _ s34, ?_⟩
          · rw [List.length_map]
            unfold cntL
            refine Nat.lt_of_le_of_lt (List.length_filterMap_le _ _) (Nat.lt_of_le_of_lt (List.length_take_le' _ _) ?_)
            exact Nat.lt_of_le_of_lt (Nat.le_trans (size_len rows) hs) (by decide)
          · rw [upd_same, take_snoc hrow, cnt_snoc, if_pos ek, List.map_append]
            rfl
        · have ek := strN e
          refine ⟨hp.1, ?_⟩
          rw [take_snoc hrow, cnt_snoc, if_neg ek, List.append_nil]
          exact hp.2
      · intro H' hp
        have full : rows.take (rr.map V.ref).length = rows := by
          rw [List.length_map, lr]
          exact List.take_length ..
        have h2 := hp.2
        rw [full] at h2
        refine ⟨D, _, rfl, SqL.of h2, ?_⟩
        rw [cnt_sum]
        exact q H' hp.1
end
end Pk
namespace Pk
open L2 PyProof.Rows PySem.Spec PySem
theorem kind_mark {row : Row} (h : kindR row = "mark") : ∃ l y, row = .mark l y := by
  cases row with
  | mark l y => exact ⟨l, y, rfl⟩
  | _ => exact absurd h (by simp only [kindR]; decide)
theorem marks_not {row : Row} (h1 : ¬ kindR row = "mark") (h : ¬ kindR row = "if") : marksR row = [] := by
  cases row with
  | ifr l ps a b => exact absurd rfl h
  | mark l y => exact absurd rfl h1
  | _ => rfl
abbrev natL (ls : List Nat) : List V := ls.map fun l => V.int (l : Nat)
section
variable {K : PySem.W.Frag} {P : Program} {w : World} {base : Heap} {mg : Str → Option Value}
theorem sc_marks_of : FnScope ["rows", "found", "row"] ["rows"] (defScope sMarks) := ⟨rfl, rfl, rfl, by decide +kernel, rfl, by decide +kernel, by decide +kernel⟩
theorem ok_marks_of {fC : Addr} {fdC : FuncData} (FC : FunD K "marks_of" "marks_of" (defArgs sMarks) (defBody sMarks) (defScope sMarks) [] [] fC fdC) (gC : mg "marks_of" = some (.ref fC)) : ∀ n, FnOk P w K mg base CX0 (n + 1) fC fdC ["rows"] (spMarks n)
  | 0 => by
    refine FC.ok sc_marks_of (fun vs H Q E h => ?_) (fun cdv A outer s H vs Q E hr h => ?_)
    · obtain ⟨a, fr, rr, rows, rfl, _⟩ := h
      rfl
    · obtain ⟨a, fr, rr, rows, rfl, _, _, hn, _⟩ := h
      exact absurd hn (Nat.not_lt_zero _)
  | n + 1 => by
    have GC := ok_marks_of FC gC n
    have bC : Binds K fdC ["rows"] [] := FC.bindsN fun _ _ _ _ _ _ us hl => match us, hl with | [_], _ => rfl
    refine FC.ok sc_marks_of (fun vs H Q E h => ?_) (fun cdv A outer s H vs Q E hr h => ?_)
    · obtain ⟨a, fr, rr, rows, rfl, _⟩ := h
      rfl
    · obtain ⟨a, fr, rr, rows, rfl, ha, hrr, hn, hs, q⟩ := h
      have lr := rows_len hrr
      refine ⟨_, PSs.nox (pss_cons (by exact (ps_set (i := 1) sc_marks_of.nd rfl (Or.inl rfl) (pe_lst pa_nil))) (pss_cons (by exact (ps_for PassesOwn.never rfl (pi_list (pv 0)) (pg_name (i := 2) sc_marks_of.nd rfl (Or.inl rfl)) (pss_one (by exact (ps_if (pt_cmpR op_eq (pe_ix (ix_tupK K rfl) (pv 2) pe_int (fun _ _ => rfl)) pe_str (nomark _)) (pss_one (by exact (ps_expr (pe_bm PySem.F.plainAttrs_list PySem.F.slot_list_append PySem.F.type_list_append mt_append (pv 1) (pa_cons (pe_ix (ix_tupK K rfl) (pv 2) pe_int (fun _ _ => rfl)) pa_nil))))) (pss_one (by exact (ps_if (pt_cmpR op_eq (pe_ix (ix_tupK K rfl) (pv 2) pe_int (fun _ _ => rfl)) pe_str (nomark _)) (pss_one (by exact (ps_expr (pe_bm PySem.F.plainAttrs_list PySem.F.slot_list_extend PySem.F.type_list_extend mt_extend (pv 1) (pa_cons (pe_lst (StX.pa_star (pe_call GC hr rfl gC FC.kp bC .nil pass0 (pa_cons (pe_ix (ix_tupK K rfl) (pv 2) pe_int (fun _ _ => rfl)) pa_nil)) (StX.pa_star (pe_call GC hr rfl gC FC.kp bC .nil pass0 (pa_cons (pe_ix (ix_tupK K rfl) (pv 2) pe_int (fun _ _ => rfl)) pa_nil)) pa_nil))) pa_nil))))) pss_nil)))))))) (pss_one (by exact (ps_ret (pv 1)))))), ?_⟩
      refine ⟨by show 0 ≤ sizeLine; decide, fun fa hfa => ?_⟩
      have T0 := same_new (o := .lst []) hfa
      refine ⟨_, rfl, a, rfl, ⟨_, SqL.of (T0 _ _ ha)⟩, for_list (K := K) (a := a) (xs := rr.map V.ref) (fun i σ H' => ∃ v : Option V, σ = [some (.ref a), some (.ref fa), v] ∧ Same H H' ∧ H' fa = some (.lst (natL (marksM (rows.take i))))) ⟨none, rfl, T0, upd_same⟩ (fun i σ H' _ ⟨v, e, s, _⟩ => SqL.of (s _ _ ha)) ?_ ?_⟩
      · rintro i x σ H' hi ⟨v, rfl, sH, hf⟩
        obtain ⟨b, row, rfl, hrow, hb⟩ := ref_get hrr hi
        have hb' := hb.keep (Keeps.same sH) fun _ z => z
        obtain ⟨xs, h1, h2, h3⟩ := row_at hb'
        have mem := List.mem_of_getElem? hrow
        have st : ∀ {H2 acc}, Same H' H2 → Same H (upd H2 fa (.lst acc)) := fun {H2 acc} s2 u o e => by
          rw [upd_ne (fun z => by rw [z, hfa] at e; cases e)]
          exact s2 _ _ (sH u o e)
        have lm : (marksM (rows.take i)).length ≤ 1000 := Nat.le_trans (marksM_len _) (Nat.le_trans (size_take rows i) hs)
        refine ⟨_, rfl, b, xs, 0, .str (kindR row), rfl, rfl, SqT.of h1, h2, rfl, _, rfl, ite2 (fun e => ?_) fun e => ?_⟩
        · have ek := strE e
          obtain ⟨l, y, rfl⟩ := kind_mark ek
          refine ⟨_, rfl, .inl ⟨rfl, _, SqL.of hf⟩, _, rfl, b, xs, 1, .int (l : Nat), rfl, rfl, SqT.of h1, h3, fa, _, _, rfl, rfl, hf, ?_, ?_⟩
          · rw [List.length_map]
            exact Nat.lt_of_le_of_lt lm (by decide)
          · refine ⟨_, rfl, st (Same.refl _), ?_⟩
            rw [upd_same, take_snoc hrow, marksM_snoc]
            show _ = some (HO.lst (natL (marksM (rows.take i) ++ [l])))
            unfold natL
            rw [List.map_append]
            rfl
        · have ek := strN e
          refine ⟨_, rfl, b, xs, 0, .str (kindR row), rfl, rfl, SqT.of h1, h2, rfl, _, rfl, ite2 (fun e2 => ?_) fun e2 => ?_⟩
          · have ek2 := strE e2
            obtain ⟨l, ps, ra, rb, rfl⟩ := kind_if ek2
            obtain ⟨p, r1, r2, rr1, rr2, I⟩ := row_if hb'
            have dm := depth_mem mem
            have sm := size_mem mem
            have d1 : 1 + max (depthM ra) (depthM rb) ≤ depthM rows := dm
            have s1 : 1 + sizeM ra + sizeM rb ≤ sizeM rows := sm
            refine ⟨_, rfl, .inl ⟨rfl, _, SqL.of hf⟩, _, rfl, b, _, 3, .ref r1, rfl, rfl, SqT.of I.h, rfl, r1, fr, rr1, ra, rfl, I.ha, I.ra, by omega, by omega, fun p3 H3 s3 n3 h3 => ⟨p3, _, rfl, .inr (SqL.of h3), ?_⟩⟩
            refine ⟨_, rfl, b, _, 4, .ref r2, rfl, rfl, SqT.of (s3 _ _ I.h), rfl, r2, fr, rr2, rb, rfl, s3 _ _ I.hb, I.rb.keep (Keeps.same s3) fun _ z => z, by omega, by omega, fun p4 H4 s4 n4 h4 => ⟨p4, _, rfl, .inr (SqL.of h4), ?_⟩⟩
            have s34 := s3.trans s4
            have la := marksM_len ra
            have lb := marksM_len rb
            have eL : natL (marksM ra) ++ (natL (marksM rb) ++ []) = natL (marksM ra ++ marksM rb) := by
              unfold natL
              rw [List.append_nil, List.map_append]
            have lab : (natL (marksM ra) ++ (natL (marksM rb) ++ [])).length ≤ 1000 := by
              rw [eL]
              unfold natL
              rw [List.length_map, List.length_append]
              omega
            refine ⟨Nat.le_trans lab (by decide), fun p5 hp5 => ?_⟩
            have s5 := same_new (o := .lst (natL (marksM ra) ++ (natL (marksM rb) ++ []))) hp5
            have sA := s34.trans s5
            refine ⟨fa, p5, _, _, rfl, rfl, sA _ _ hf, upd_same, ?_, ?_⟩
            · rw [List.length_map]
              exact Nat.le_trans (Nat.add_le_add lm lab) (by decide)
            · refine ⟨_, rfl, st sA, ?_⟩
              rw [upd_same, take_snoc hrow, marksM_snoc, eL]
              show _ = some (HO.lst (natL (marksM (rows.take i) ++ (marksM ra ++ marksM rb))))
              have eM : natL (marksM (rows.take i) ++ (marksM ra ++ marksM rb)) = natL (marksM (rows.take i)) ++ natL (marksM ra ++ marksM rb) := List.map_append ..
              rw [eM]
          · have ek2 := strN e2
            refine ⟨_, rfl, sH, ?_⟩
            rw [take_snoc hrow, marksM_snoc, marks_not ek ek2, List.append_nil]
            exact hf
      · rintro σ H' ⟨v, rfl, sH, hf⟩
        have full : rows.take (rr.map V.ref).length = rows := by
          rw [List.length_map, lr]
          exact List.take_length ..
        rw [full] at hf
        exact ⟨_, rfl, q fa H' sH hfa hf⟩
end
end Pk
namespace Pk
open L2 PyProof.Rows PySem.Spec PySem
/-! ### ways in the heap -/
def WayAt (fr ok : Addr → Prop) (H : Hp) (p : Addr) (x : Way) : Prop := ∃ a refs, ok a ∧ H p = some (.tup [.ref a, .bl x.2]) ∧ H a = some (.lst (refs.map V.ref)) ∧ RowsAt fr H refs x.1
theorem WayAt.same {fr fr' ok ok' : Addr → Prop} {H H' : Hp} {p : Addr} {x : Way} (h : WayAt fr ok H p x) (s : Same H H') (hf : ∀ a, fr a → fr' a) (ho : ∀ a, ok a → ok' a) : WayAt fr' ok' H' p x := by
  obtain ⟨a, refs, h0, h1, h2, h3⟩ := h
  exact ⟨a, refs, ho _ h0, s _ _ h1, s _ _ h2, h3.keep (Keeps.same s) hf⟩
/-- an entry of a list D that is none of theirs -/
theorem WayAt.grow {fr ok : Addr → Prop} {H H' : Hp} {D p : Addr} {l0 : List V} {o : HO} {x : Way} (h : WayAt fr ok H p x) (hD : H D = some (.lst l0)) (s : Same H H') (nf : ¬ fr D) (no : ¬ ok D) : WayAt fr ok (upd H' D o) p x := by
  obtain ⟨a, refs, h0, h1, h2, h3⟩ := h
  refine ⟨a, refs, h0, ?_, ?_, h3.keep ⟨fun b xs e => ?_, fun b xs f e => ?_⟩ fun _ z => z⟩
  · rw [upd_ne (fun z => by rw [z, hD] at h1; cases h1)]
    exact s _ _ h1
  · rw [upd_ne (fun z => no (by rw [← z]; exact h0))]
    exact s _ _ h2
  · rw [upd_ne (fun z => by rw [z, hD] at e; cases e)]
    exact s _ _ e
  · rw [upd_ne (fun z => nf (by rw [← z]; exact f))]
    exact s _ _ e
mutual
theorem row_own {fr : Addr → Prop} {H : Hp} {a : Addr} : ∀ {row : Row}, RowAt fr H a row → RowAt (fun x => fr x ∧ H x ≠ none) H a row
  | _, .set e s => .set e s
  | _, .cut e s => .cut e s
  | _, .join e => .join e
  | _, .shift e s => .shift e s
  | _, .mark e => .mark e
  | _, .quit e => .quit e
  | _, .ifr e p f1 e1 r1 f2 e2 r2 => .ifr e p ⟨f1, by rw [e1]; exact Option.some_ne_none _⟩ e1 (rows_own r1) ⟨f2, by rw [e2]; exact Option.some_ne_none _⟩ e2 (rows_own r2)
theorem rows_own {fr : Addr → Prop} {H : Hp} : ∀ {rr : List Addr} {rows : List Row}, RowsAt fr H rr rows → RowsAt (fun x => fr x ∧ H x ≠ none) H rr rows
  | _, _, .nil => .nil
  | _, _, .cons r rs => .cons (row_own r) (rows_own rs)
end
theorem paired_get {α β : Type} {R : α → β → Prop} : ∀ {xs : List α} {ys : List β} {i : Nat} {a : α}, Paired R xs ys → xs[i]? = some a → ∃ b, ys[i]? = some b ∧ R a b
  | _, _, _, _, .nil, h => by simp at h
  | _, _, 0, _, .cons r _, h => by
    cases h
    exact ⟨_, rfl, r⟩
  | _, _, i + 1, _, .cons _ rs, h => paired_get (i := i) rs h
theorem paired_sz {α β : Type} {R : α → β → Prop} : ∀ {xs : List α} {ys : List β}, Paired R xs ys → xs.length = ys.length
  | _, _, .nil => rfl
  | _, _, .cons _ rs => congrArg Nat.succ (paired_sz rs)
theorem rows_app {fr : Addr → Prop} {H : Hp} : ∀ {r1 r2 : List Addr} {a b : List Row}, RowsAt fr H r1 a → RowsAt fr H r2 b → RowsAt fr H (r1 ++ r2) (a ++ b)
  | _, _, _, _, .nil, h => h
  | _, _, _, _, .cons r rs, h => .cons r (rows_app rs h)
theorem waysFrom_snoc (r : Row) : ∀ (xs : List Row) (ws : List Way), waysFrom (xs ++ [r]) ws = (waysFrom xs ws).flatMap (longerR r)
  | [], ws => by
    rw [List.nil_append]
    unfold waysFrom
    unfold waysFrom
    rfl
  | x :: xs, ws => by
    rw [List.cons_append]
    unfold waysFrom
    exact waysFrom_snoc r xs _
theorem map_snoc {α β : Type} {f : α → β} {l : List α} {i : Nat} {x : α} (h : l[i]? = some x) : (l.take (i + 1)).map f = (l.take i).map f ++ [f x] := by
  rw [take_snoc h, List.map_append]
  rfl
theorem flatMap_snoc {α β : Type} {f : α → List β} {l : List α} {i : Nat} {x : α} (h : l[i]? = some x) : (l.take (i + 1)).flatMap f = (l.take i).flatMap f ++ f x := by
  rw [take_snoc h, List.flatMap_append, List.flatMap_singleton]
def spWays (n : Nat) : Sp := fun vs H Q _ => ∃ (a : Addr) (fr : Addr → Prop) (rr : List Addr) (rows : List Row), vs = [.ref a] ∧ H a = some (.lst (rr.map V.ref)) ∧ RowsAt fr H rr rows ∧ depthM rows < n ∧ sizeM rows ≤ 1000 ∧ countM rows ≤ 7 ∧
  ∀ p ps H', Same H H' → H p = none → H' p = some (.lst (ps.map V.ref)) → Paired (WayAt fr (fun a => H a = none) H') ps (waysM rows) → Q (.ref p) H'
def spLonger (n : Nat) : Sp := fun vs H Q _ => ∃ (t b : Addr) (goes : Bool) (fr : Addr → Prop) (refs : List Addr) (told : List Row) (row : Row), vs = [.ref t, .bl goes, .ref b] ∧ H t = some (.lst (refs.map V.ref)) ∧ RowsAt fr H refs told ∧ RowAt fr H b row ∧ depthR row ≤ n ∧ sizeR row ≤ 1000 ∧ countR row ≤ 7 ∧ told.length ≤ 2000 ∧
  ∀ p ps H', Same H H' → H p = none → H' p = some (.lst (ps.map V.ref)) → Paired (WayAt fr (fun a => H a = none ∨ a = t) H') ps (longerR row (told, goes)) → Q (.ref p) H'
theorem longer_plain {row : Row} {told : List Row} (h : ¬ kindR row = "if") : longerR row (told, true) = [(told ++ [row], !isQuit row)] := by
  cases row with
  | ifr l ps a b => exact absurd rfl h
  | _ => rfl
theorem longer_no {row : Row} {told : List Row} : longerR row (told, false) = [(told, false)] := by
  cases row <;> rfl
theorem quit_kind (row : Row) : (!decide (V.str (kindR row) = V.str "quit")) = !isQuit row := by
  cases row with
  | quit l => rfl
  | _ =>
    rw [decide_eq_false]
    · rfl
    · intro e
      cases e
theorem ways_few {rows : List Row} (h : countM rows ≤ 7) : (waysM rows).length ≤ 128 := by
  have a := ways_len rows [([], true)]
  rw [List.length_singleton, Nat.one_mul] at a
  exact Nat.le_trans a (Nat.pow_le_pow_right (by decide) h)
section
variable {K : PySem.W.Frag} {P : Program} {w : World} {base : Heap} {mg : Str → Option Value}
theorem sc_longer_ways : FnScope ["told", "goes_on", "row", "more", "still"] ["told", "goes_on", "row"] (defScope sLonger) := ⟨rfl, rfl, rfl, by decide +kernel, rfl, by decide +kernel, by decide +kernel⟩
theorem ok_longer_ways {f fW : Addr} {fd fdW : FuncData} (n : Nat) (F : FunD K "longer_ways" "longer_ways" (defArgs sLonger) (defBody sLonger) (defScope sLonger) [] [] f fd) (FW : FunD K "ways_of" "ways_of" (defArgs sWays) (defBody sWays) (defScope sWays) [] [] fW fdW)
    (GW : FnOk P w K mg base CX0 (2 * n + 1) fW fdW ["rows"] (spWays n)) (gW : mg "ways_of" = some (.ref fW)) : FnOk P w K mg base CX0 ((2 * n + 1) + 1) f fd ["told", "goes_on", "row"] (spLonger n) := by
  have bW : Binds K fdW ["rows"] [] := FW.bindsN fun _ _ _ _ _ _ us hl => match us, hl with | [_], _ => rfl
  refine F.ok sc_longer_ways (fun vs H Q E h => ?_) (fun cdv A outer s H vs Q E hr h => ?_)
  · obtain ⟨t, b, goes, fr, refs, told, row, rfl, _⟩ := h
    rfl
  · obtain ⟨t, b, goes, fr, refs, told, row, rfl, ht, hT, hb, hd, hs, hc, hl, q⟩ := h
    refine ⟨_, PSs.nox (pss_cons (by exact (ps_if (pt_not (pt_val (pv 1))) (pss_one (by exact (ps_ret (pe_lst (pa_cons (pe_tup (pa_cons (pv 0) (pa_cons pe_bl pa_nil))) pa_nil))))) pss_nil)) (pss_cons (by exact (ps_if (pt_cmpR op_eq (pe_ix (ix_tupK K rfl) (pv 2) pe_int (fun _ _ => rfl)) pe_str (nomark _)) (pss_one (by exact (ps_ret (pe_lc (own := [("more", 3), ("still", 4)]) (tt := tYes) rfl sc_longer_ways.nd (pi_list (pe_lst (StX.pa_starK K rfl (pe_call GW hr rfl gW FW.kp bW .nil pass0 (pa_cons (pe_ix (ix_tupK K rfl) (pv 2) pe_int (fun _ _ => rfl)) pa_nil)) (StX.pa_starK K rfl (pe_call GW hr rfl gW FW.kp bW .nil pass0 (pa_cons (pe_ix (ix_tupK K rfl) (pv 2) pe_int (fun _ _ => rfl)) pa_nil)) pa_nil)))) (blkOk_by (N := ["told", "goes_on", "row", "more", "still"]) (sc := defScope sLonger) (by decide +kernel)) (fun _ _ _ _ _ => pg_tupK (n := 2) K rfl rfl (pgs_cons (pg_name (i := 3) sc_longer_ways.nd rfl (Or.inl rfl)) (pgs_cons (pg_name (i := 4) sc_longer_ways.nd rfl (Or.inl rfl)) pgs_nil))) (fun _ _ _ _ _ => pts_nil) (fun _ _ _ _ _ => (pe_tup (pa_cons (pe_lst (StX.pa_starK K rfl (pv 0) (pa_cons (pv 2) (StX.pa_starK K rfl (pv 3) pa_nil)))) (pa_cons (pv 4) pa_nil)))))))) pss_nil)) (pss_one (by exact (ps_ret (pe_lst (pa_cons (pe_tup (pa_cons (pe_lst (StX.pa_starK K rfl (pv 0) (pa_cons (pv 2) pa_nil))) (pa_cons (pe_cmpR op_ne (pe_ix (ix_tupK K rfl) (pv 2) pe_int (fun _ _ => rfl)) pe_str (nomark _)) pa_nil))) pa_nil))))))), ?_⟩
    refine ⟨_, rfl, goes, rfl, ?_⟩
    cases goes with
    | false =>
      refine ⟨_, rfl, by show 2 ≤ sizeLine; decide, fun p1 hp1 => ⟨by show 1 ≤ sizeLine; decide, fun p2 hp2 => ?_⟩⟩
      have s1 := same_new (o := .tup [.ref t, .bl false]) hp1
      have s2 := s1.step (o := .lst [.ref p1]) hp2
      refine q p2 [p1] _ s2 (s1.back hp2) upd_same ?_
      rw [longer_no]
      exact .cons ⟨t, refs, .inr rfl, same_new hp2 _ _ upd_same, s2 _ _ ht, hT.keep (Keeps.same s2) fun _ z => z⟩ .nil
    | true =>
      obtain ⟨xs, h1, h2, h3⟩ := row_at hb
      refine ⟨_, rfl, b, xs, 0, .str (kindR row), rfl, rfl, SqT.of h1, h2, rfl, _, rfl, ite2 (fun e => ?_) fun e => ?_⟩
      · have ek := strE e
        obtain ⟨l2, ps, ra, rb, rfl⟩ := kind_if ek
        obtain ⟨p, r1, r2, rr1, rr2, I⟩ := row_if (row_own hb)
        have d1 : 1 + max (depthM ra) (depthM rb) ≤ n := hd
        have s1 : 1 + sizeM ra + sizeM rb ≤ 1000 := hs
        have c1 : 1 + countM ra + countM rb ≤ 7 := hc
        refine ⟨_, rfl, b, _, 3, .ref r1, rfl, rfl, SqT.of I.h, rfl, r1, _, rr1, ra, rfl, I.ha, I.ra, by omega, by omega, by omega, fun p3 ws3 H3 s3 n3 h3 w3 => ⟨p3, _, rfl, .inr (SqL.of h3), ?_⟩⟩
        refine ⟨_, rfl, b, _, 4, .ref r2, rfl, rfl, SqT.of (s3 _ _ I.h), rfl, r2, _, rr2, rb, rfl, s3 _ _ I.hb, I.rb.keep (Keeps.same s3) fun _ z => z, by omega, by omega, by omega, fun p4 ws4 H4 s4 n4 h4 w4 => ⟨p4, _, rfl, .inr (SqL.of h4), ?_⟩⟩
        have lw3 := ways_few (rows := ra) (by omega)
        have lw4 := ways_few (rows := rb) (by omega)
        have pw := paired_app (Paired.mapP w3 fun _ _ e => e.same (ok' := fun _ => True) s4 (fun _ z => z) fun _ _ => trivial) (Paired.mapP w4 fun _ _ e => e.same (ok' := fun _ => True) (Same.refl _) (fun _ z => z) fun _ _ => trivial)
        have lp := paired_sz pw
        rw [List.length_append, List.length_append] at lp
        have s34 := s3.trans s4
        have eL : ws3.map V.ref ++ (ws4.map V.ref ++ []) = (ws3 ++ ws4).map V.ref := by
          rw [List.append_nil, List.map_append]
        refine ⟨?_, fun l hl1 => ⟨l, rfl, ⟨_, SqL.of upd_same⟩, fun D hD => ?_⟩⟩
        rotate_left
        rw [eL] at hD
        rw [eL]
        have nDH : H D = none := s34.back ((same_new hl1).back hD)
        refine lc_list (K := K) (a := l) (xs := (ws3 ++ ws4).map V.ref) (fun i H' => ∃ out, Same (upd H4 l (.lst ((ws3 ++ ws4).map V.ref))) H' ∧ H' D = some (.lst (out.map V.ref)) ∧ out.length ≤ i ∧ Paired (WayAt (fun x => fr x ∧ H x ≠ none) (fun a => (H a = none ∨ a = t) ∧ a ≠ D) H') out (((waysM ra ++ waysM rb).take i).map fun w => (told ++ (.ifr l2 ps ra rb) :: w.1, w.2))) ?_ (fun i H' _ h => ?_) ?_ ?_
        rotate_right
        · rw [List.append_nil, List.length_append, List.length_map, List.length_map, lp]
          exact Nat.le_trans (Nat.add_le_add lw3 lw4) (by decide)
        · exact ⟨[], same_new hD, upd_same, Nat.le_refl _, .nil⟩
        · obtain ⟨out, sm, _⟩ := h
          exact SqL.of (sm _ _ upd_same)
        · rintro i x H' hi ⟨out, sm, hD1, lo, pr⟩
          have s5 := same_new (o := .lst ((ws3 ++ ws4).map V.ref)) hl1
          have sA := (s34.trans s5).trans sm
          obtain ⟨r, hr1, rfl⟩ := ref_item hi
          obtain ⟨y, hy, a3, refs3, _, g1, g2, g3⟩ := paired_get pw hr1
          have s6 := s5.trans sm
          have lT := rows_len hT
          have l3 := rows_len g3
          have ly : y.1.length ≤ 1000 := by
            have := List.mem_of_getElem? hy
            rcases List.mem_append.mp this with m | m
            · have := ways_told ra [([], true)] 0 (fun w hw => by rw [List.mem_singleton.mp hw]; exact Nat.le_refl _) y m
              omega
            · have := ways_told rb [([], true)] 0 (fun w hw => by rw [List.mem_singleton.mp hw]; exact Nat.le_refl _) y m
              omega
          refine ⟨r, _, rfl, SqT.of (s6 _ _ g1), rfl, _, _, rfl, _, _, rfl, rfl, rfl, ?_⟩
          refine ⟨_, rfl, t, _, rfl, .inr (SqL.of (sA _ _ ht)), _, rfl, _, rfl, a3, _, rfl, .inr (SqL.of (s6 _ _ g2)), ?_, fun p5 hp5 => ⟨_, rfl, by show 2 ≤ sizeLine; decide, fun p6 hp6 => ?_⟩⟩
          · rw [List.append_nil, List.length_append, List.length_cons, List.length_map, List.length_map, lT, l3]
            exact Nat.le_trans (Nat.add_le_add hl (Nat.succ_le_succ ly)) (by decide)
          · have s7 := same_new (o := .lst (refs.map V.ref ++ V.ref b :: (refs3.map V.ref ++ []))) hp5
            have s8 := s7.step (o := .tup [.ref p5, .bl y.2]) hp6
            have nD : ∀ {u o}, (upd H4 l (.lst ((ws3 ++ ws4).map V.ref))) u = some o → u ≠ D := fun e z => by
              rw [z, hD] at e
              cases e
            have sD : ∀ {acc}, Same (upd H4 l (.lst ((ws3 ++ ws4).map V.ref))) (upd (upd (upd H' p5 (.lst (refs.map V.ref ++ V.ref b :: (refs3.map V.ref ++ [])))) p6 (.tup [.ref p5, .bl y.2])) D (.lst acc)) := fun u o e => by
              rw [upd_ne (nD e)]
              exact s8 _ _ (sm _ _ e)
            have li : i < (ws3 ++ ws4).length := by
              have := List.getElem?_eq_some_iff.mp hr1
              exact this.1
            rw [List.length_append] at li
            refine ⟨_, s8 _ _ hD1, ?_, out ++ [p6], sD, ?_, ?_, ?_⟩
            · rw [List.length_map]
              exact Nat.lt_of_le_of_lt (m := 256) (by omega) (by decide)
            · rw [upd_same, List.map_append]
              rfl
            · rw [(List.length_append), List.length_singleton]
              omega
            · rw [map_snoc hy]
              have n5 : p5 ≠ D := fun z => by rw [z, hD1] at hp5; cases hp5
              have n6 : p6 ≠ D := fun z => by rw [z, same_new hp5 _ _ hD1] at hp6; cases hp6
              have hT1 := hT.keep (Keeps.same sA) fun _ z => z
              refine paired_app (Paired.mapP pr fun _ _ e => e.grow hD1 s8 (fun z => z.2 nDH) fun z => z.2 rfl) (.cons (WayAt.grow ⟨p5, refs ++ b :: refs3, ⟨.inl (sA.back hp5), n5⟩, upd_same, same_new hp6 _ _ ?_, ?_⟩ (s8 _ _ hD1) (Same.refl _) (fun z => z.2 nDH) fun z => z.2 rfl) .nil)
              · rw [List.append_nil, List.map_append]
                exact upd_same
              · refine rows_app ((rows_own hT).keep (Keeps.same (sA.trans s8)) fun _ z => z) (.cons ((row_own hb).keep (Keeps.same (sA.trans s8)) fun _ z => z) (g3.keep (Keeps.same (s6.trans s8)) fun _ z => z))
        · rintro H' ⟨out, sm, hD1, lo, pr⟩
          have full : (waysM ra ++ waysM rb).take ((ws3 ++ ws4).map V.ref).length = waysM ra ++ waysM rb := by
            rw [List.length_map, List.length_append, lp, ← List.length_append]
            exact List.take_length ..
          rw [full] at pr
          have s5 := (s34.trans (same_new hl1)).trans sm
          exact q D out H' s5 (s34.back ((same_new hl1).back hD)) hD1 (Paired.mapP pr fun _ _ e => e.same (Same.refl _) (fun _ z => z.1) fun _ z => z.1)
      · have ek := strN e
        have lT := rows_len hT
        refine ⟨_, rfl, t, _, rfl, .inr (SqL.of ht), _, rfl, by
          show (refs.map V.ref ++ [V.ref b]).length ≤ sizeLine
          rw [List.length_append, List.length_map, lT]
          exact Nat.le_trans (Nat.add_le_add_right hl 1) (by decide), fun p1 hp1 => ?_⟩
        have s1 := same_new (o := .lst (refs.map V.ref ++ [V.ref b])) hp1
        refine ⟨_, rfl, b, xs, 0, .str (kindR row), rfl, rfl, SqT.of (s1 _ _ h1), h2, rfl, by show 2 ≤ sizeLine; decide, fun p2 hp2 => ⟨by show 1 ≤ sizeLine; decide, fun p3 hp3 => ?_⟩⟩
        have s2 := s1.step (o := .tup [.ref p1, .bl (!decide (V.str (kindR row) = V.str "quit"))]) hp2
        have s3 := s2.step (o := .lst [.ref p2]) hp3
        refine q p3 [p2] _ s3 (s2.back hp3) upd_same ?_
        rw [longer_plain ek]
        refine .cons ⟨p1, refs ++ [b], .inl hp1, ?_, ?_, RowsAt.snoc (hb.keep (Keeps.same s3) fun _ z => z) (hT.keep (Keeps.same s3) fun _ z => z)⟩ .nil
        · show _ = some (HO.tup [.ref p1, .bl !isQuit row])
          rw [← quit_kind]
          exact same_new hp3 _ _ upd_same
        · rw [List.map_append]
          exact same_new hp3 _ _ (same_new hp2 _ _ upd_same)
end
end Pk
namespace Pk
open L2 PyProof.Rows PySem.Spec PySem
theorem count_mem {row : Row} : ∀ {rows : List Row}, row ∈ rows → countR row ≤ countM rows
  | r :: rs, h => by
    show countR row ≤ countR r + countM rs
    rcases (List.mem_cons.mp h) with e | e
    · rw [e]
      omega
    · have := count_mem e
      omega
theorem count_take : ∀ (rows : List Row) (i : Nat), countM (rows.take i) ≤ countM rows
  | [], i => by rw [List.take_nil]; exact Nat.le_refl _
  | r :: rs, 0 => Nat.zero_le _
  | r :: rs, i + 1 => by
    have := count_take rs i
    show countR r + countM (rs.take i) ≤ countR r + countM rs
    omega
section
variable {K : PySem.W.Frag} {P : Program} {w : World} {base : Heap} {mg : Str → Option Value}
theorem sc_ways_of : FnScope ["rows", "found", "row", "told", "goes_on", "way"] ["rows"] (defScope sWays) := ⟨rfl, rfl, rfl, by decide +kernel, rfl, by decide +kernel, by decide +kernel⟩
theorem ok_ways_of {f fL : Addr} {fd fdL : FuncData} (F : FunD K "ways_of" "ways_of" (defArgs sWays) (defBody sWays) (defScope sWays) [] [] f fd) (FL : FunD K "longer_ways" "longer_ways" (defArgs sLonger) (defBody sLonger) (defScope sLonger) [] [] fL fdL)
    (gL : mg "longer_ways" = some (.ref fL)) (gW : mg "ways_of" = some (.ref f)) : ∀ n, FnOk P w K mg base CX0 (2 * n + 1) f fd ["rows"] (spWays n)
  | 0 => by
    refine F.ok sc_ways_of (fun vs H Q E h => ?_) (fun cdv A outer s H vs Q E hr h => ?_)
    · obtain ⟨a, fr, rr, rows, rfl, _⟩ := h
      rfl
    · obtain ⟨a, fr, rr, rows, rfl, _, _, hn, _⟩ := h
      exact absurd hn (Nat.not_lt_zero _)
  | n + 1 => by
    have GL := ok_longer_ways n FL F (ok_ways_of F FL gL gW n) gW
    have bL : Binds K fdL ["told", "goes_on", "row"] [] := FL.bindsN fun _ _ _ _ _ _ us hl => match us, hl with | [_, _, _], _ => rfl
    refine F.ok sc_ways_of (fun vs H Q E h => ?_) (fun cdv A outer s H vs Q E hr h => ?_)
    · obtain ⟨a, fr, rr, rows, rfl, _⟩ := h
      rfl
    · obtain ⟨a, fr, rr, rows, rfl, ha, hrr, hn, hs, hc, q⟩ := h
      have lr := rows_len hrr
      refine ⟨_, PSs.nox (pss_cons (by exact (ps_set (i := 1) sc_ways_of.nd rfl (Or.inl rfl) (pe_lst (pa_cons (pe_tup (pa_cons (pe_lst pa_nil) (pa_cons pe_bl pa_nil))) pa_nil)))) (pss_cons (by exact (ps_for PassesOwn.never rfl (pi_list (pv 0)) (pg_name (i := 2) sc_ways_of.nd rfl (Or.inr rfl)) (pss_one (by exact (ps_setLc2 (i := 1) (own := [("told", 3), ("goes_on", 4), ("way", 5)]) (vs1 := [5]) (g1 := gName 5) (tt := tYes) (tt1 := tYes) rfl sc_ways_of.nd rfl rfl (sw_true rfl rfl rfl (by decide +kernel)) (pi_list (pv 1)) (blkOk_by (N := ["rows", "found", "row", "told", "goes_on", "way"]) (sc := defScope sWays) (by decide +kernel)) (by decide) (fun _ _ _ _ _ => pg_tupK (n := 2) K rfl rfl (pgs_cons (pg_name (i := 3) sc_ways_of.nd rfl (Or.inl rfl)) (pgs_cons (pg_name (i := 4) sc_ways_of.nd rfl (Or.inl rfl)) pgs_nil))) (fun _ _ _ _ _ => pts_nil) (fun _ _ _ _ _ => (pi_listK K rfl (pe_call GL hr rfl gL FL.kp bL .nil pass0 (pa_cons (pv 3) (pa_cons (pv 4) (pa_cons (pv 2) pa_nil)))))) (fun _ _ _ _ _ => pg_name (i := 5) sc_ways_of.nd rfl (Or.inl rfl)) (fun _ _ _ _ _ => pts_nil) (fun _ _ _ _ _ => (pv 5))))))) (pss_one (by exact (ps_ret (pv 1)))))), ?_⟩
      refine ⟨by show 0 ≤ sizeLine; decide, fun p0 hp0 => ⟨by show 2 ≤ sizeLine; decide, fun p1 hp1 => ⟨by show 1 ≤ sizeLine; decide, fun p2 hp2 => ?_⟩⟩⟩
      have T0 := same_new (o := .lst []) hp0
      have T1 := T0.step (o := .tup [.ref p0, .bl true]) hp1
      have T2 := T1.step (o := .lst [.ref p1]) hp2
      have nF : H p2 = none := T1.back hp2
      refine ⟨_, rfl, a, rfl, ⟨_, SqL.of (T2 _ _ ha)⟩, for_list (K := K) (a := a) (xs := rr.map V.ref) (fun i σ H' => ∃ (v : Option V) (p : Addr) (ps : List Addr), σ = [some (.ref a), some (.ref p), v, none, none, none] ∧ Same H H' ∧ H p = none ∧ H' p = some (.lst (ps.map V.ref)) ∧ Paired (WayAt (fun x => fr x ∧ H x ≠ none) (fun a => H a = none) H') ps (waysM (rows.take i))) ?_ (fun i σ H' _ ⟨v, p, ps, e, s, _⟩ => SqL.of (s _ _ ha)) ?_ ?_⟩
      · refine ⟨none, p2, [p1], rfl, T2, nF, upd_same, .cons ⟨p0, [], hp0, ?_, ?_, .nil⟩ .nil⟩
        · exact same_new hp2 _ _ upd_same
        · exact same_new hp2 _ _ (same_new hp1 _ _ upd_same)
      · rintro i x σ H' hi ⟨v, p, ps, rfl, sH, np, hp, pw⟩
        obtain ⟨b, row, rfl, hrow, hb⟩ := ref_get hrr hi
        have mem := List.mem_of_getElem? hrow
        have hd := depth_mem mem
        have hz := size_mem mem
        have hci := Nat.le_trans (count_take rows i) hc
        have hcr := Nat.le_trans (count_mem mem) hc
        have hzi : sizeM (rows.take i) ≤ 1000 := Nat.le_trans (size_take rows i) hs
        have lw := ways_few hci
        have lp := paired_sz pw
        have hb1 := row_own hb
        refine ⟨_, rfl, p, rfl, ⟨_, SqL.of hp⟩, fun D hD => turns_list (K := K) (a := p) (xs := ps.map V.ref) (fun i2 H2 => ∃ out, Same H' H2 ∧ H2 D = some (.lst (out.map V.ref)) ∧ Paired (WayAt (fun x => fr x ∧ H x ≠ none) (fun a => H a = none ∧ a ≠ D) H2) out (((waysM (rows.take i)).take i2).flatMap (longerR row))) ?_ (fun i2 H2 _ h => ?_) ?_ ?_⟩
        · exact ⟨[], same_new hD, upd_same, .nil⟩
        · obtain ⟨out, sm, _⟩ := h
          exact SqL.of (sm _ _ hp)
        · rintro i2 x H2 hi2 ⟨out, sm, hD1, pr⟩
          obtain ⟨r, hr1, rfl⟩ := ref_item hi2
          obtain ⟨y, hy, a3, refs3, g0, g1, g2, g3⟩ := paired_get pw hr1
          have sA := sH.trans sm
          have nD : H D = none := sH.back hD
          have l3 := rows_len g3
          have ly : y.1.length ≤ 1000 := by
            have := ways_told (rows.take i) [([], true)] 0 (fun w hw => by rw [List.mem_singleton.mp hw]; exact Nat.le_refl _) y (List.mem_of_getElem? hy)
            omega
          refine ⟨r, _, rfl, SqT.of (sm _ _ g1), rfl, _, _, rfl, _, _, rfl, rfl, rfl, ?_⟩
          refine ⟨_, rfl, _, rfl, _, rfl, a3, b, y.2, _, refs3, y.1, row, rfl, sm _ _ g2, g3.keep (Keeps.same sm) fun _ z => z, hb1.keep (Keeps.same sA) fun _ z => z, by omega, by omega, hcr, by omega, fun p5 ps5 H5 s5 n5 h5 w5 => ?_⟩
          have d5 := s5 _ _ hD1
          have a3D : a3 ≠ D := fun z => by rw [z, hD] at g2; cases g2
          have w6 : Paired (WayAt (fun x => fr x ∧ H x ≠ none) (fun a => H a = none ∧ a ≠ D) H5) ps5 (longerR row y) := Paired.mapP w5 fun _ _ e => e.same (Same.refl _) (fun _ z => z) fun a z => by
            rcases z with z | z
            · exact ⟨sA.back z, fun e => by rw [e, hD1] at z; cases z⟩
            · rw [z]
              exact ⟨g0, a3D⟩
          have p5D : p5 ≠ D := fun z => by rw [z, hD1] at n5; cases n5
          have lp5 : ps5.length = (longerR row y).length := paired_sz w5
          have lo := paired_sz pr
          have l5 : (longerR row y).length ≤ 128 := Nat.le_trans (longer_len row y) (Nat.pow_le_pow_right (by decide) hcr)
          have lf : (((waysM (rows.take i)).take i2).flatMap (longerR row)).length ≤ 128 * 128 := by
            refine Nat.le_trans (flatMap_le (longerR row) 128 _ fun z _ => Nat.le_trans (longer_len row z) (Nat.pow_le_pow_right (by decide) hcr)) ?_
            refine Nat.mul_le_mul_right _ (Nat.le_trans (List.length_take_le' _ _) lw)
          refine ⟨p5, rfl, ⟨_, SqL.of h5⟩, turns_list (K := K) (a := p5) (xs := ps5.map V.ref) (fun i3 H6 => Same H' H6 ∧ H6 p5 = some (.lst (ps5.map V.ref)) ∧ H6 D = some (.lst ((out ++ ps5.take i3).map V.ref)) ∧ Paired (WayAt (fun x => fr x ∧ H x ≠ none) (fun a => H a = none ∧ a ≠ D) H6) out (((waysM (rows.take i)).take i2).flatMap (longerR row)) ∧ Paired (WayAt (fun x => fr x ∧ H x ≠ none) (fun a => H a = none ∧ a ≠ D) H6) ps5 (longerR row y)) ?_ (fun i3 H6 _ h => SqL.of h.2.1) ?_ ?_⟩
          · refine ⟨sm.trans s5, h5, ?_, Paired.mapP pr fun _ _ e => e.same s5 (fun _ z => z) fun _ z => z, w6⟩
            rw [List.take_zero, List.append_nil]
            exact d5
          · rintro i3 x H6 hi3 ⟨sm6, h6, d6, o6, n6⟩
            obtain ⟨r3, hr3, rfl⟩ := ref_item hi3
            refine ⟨rfl, ?_⟩
            refine ⟨_, rfl, _, d6, ?_, ?_, ?_, ?_, ?_, ?_⟩
            · rw [List.length_map, List.length_append]
              have := List.length_take_le' i3 ps5
              exact Nat.lt_of_le_of_lt (m := 128 * 128 + 128) (by omega) (by decide)
            · exact fun u o e => by
                rw [upd_ne (fun z => by rw [z, hD] at e; cases e)]
                exact sm6 _ _ e
            · rw [upd_ne p5D]
              exact h6
            · rw [upd_same, take_snoc hr3, ← List.append_assoc, List.map_append (l₁ := out ++ ps5.take i3)]
              rfl
            · exact Paired.mapP o6 fun _ _ e => e.grow d6 (Same.refl _) (fun z => z.2 nD) fun z => z.2 rfl
            · exact Paired.mapP n6 fun _ _ e => e.grow d6 (Same.refl _) (fun z => z.2 nD) fun z => z.2 rfl
          · rintro H6 ⟨sm6, h6, d6, o6, n6⟩
            have f5 : ps5.take (ps5.map V.ref).length = ps5 := by
              rw [List.length_map]
              exact List.take_length ..
            rw [f5] at d6
            refine ⟨out ++ ps5, sm6, d6, ?_⟩
            rw [flatMap_snoc hy]
            exact paired_app o6 n6
        · rintro H2 ⟨out, sm, hD1, pr⟩
          have full : (waysM (rows.take i)).take (ps.map V.ref).length = waysM (rows.take i) := by
            rw [List.length_map, lp]
            exact List.take_length ..
          rw [full] at pr
          refine ⟨_, D, out, rfl, sH.trans sm, sH.back hD, hD1, ?_⟩
          have e : waysM (rows.take (i + 1)) = (waysM (rows.take i)).flatMap (longerR row) := by
            rw [take_snoc hrow]
            exact waysFrom_snoc row _ _
          rw [e]
          exact Paired.mapP pr fun _ _ e => e.same (Same.refl _) (fun _ z => z) fun _ z => z.1
      · rintro σ H' ⟨v, p, ps, rfl, sH, np, hp, pw⟩
        have full : rows.take (rr.map V.ref).length = rows := by
          rw [List.length_map, lr]
          exact List.take_length ..
        rw [full] at pw
        exact ⟨_, rfl, q p ps H' sH np hp (Paired.mapP pw fun _ _ e => e.same (Same.refl _) (fun _ z => z.1) fun _ z => z)⟩
end
end Pk
namespace Pk
open L2 PyProof.Rows PySem.Spec PySem
abbrev sRI : Stmt := inClass (top 67) 0
def styV : V → Option Str
  | .str s => if s ∈ STYL then some s else none
  | _ => none
def rulesF (os cs ls : Addr) (sty cap low root : V) : List (Str × V) := [("own_shares", .ref os), ("cap_share", .ref cs), ("low_share", .ref ls), ("style", sty), ("cap", cap), ("low", low), ("root", root)]
structure RulesC (K : PySem.W.Frag) (mg : Str → Option Value) (C fI : Addr) : Prop where
  cls : Cls K C
  made : Mk K C fI
  g : mg "Rules" = some (.ref C)
  no : ∀ f ∈ (["own_shares", "cap_share", "low_share", "style", "cap", "low", "root"] : List Str), NoAttr K C f
abbrev Share := List Term × Option Nat
def RulesAt (C : Addr) (H : Hp) (r : Addr) (sty : Str) (cap low root : V) (x1 x2 : Share) : Prop := ∃ dx os p1 p2 cs ls, H r = some (.ins C dx (rulesF os cs ls (.str sty) cap low root)) ∧ shareV cap = some x1 ∧ shareV low = some x2 ∧
  H os = some (.tup [.ref p1, .ref p2]) ∧ ShareAt H p1 x1 ∧ ShareAt H p2 x2 ∧ LineAt H cs (lineM x1) ∧ LineAt H ls (lineM x2)
theorem RulesAt.same {C : Addr} {H H' : Hp} {r : Addr} {sty : Str} {cap low root : V} {x1 x2 : Share} (h : RulesAt C H r sty cap low root x1 x2) (s : Same H H') : RulesAt C H' r sty cap low root x1 x2 := by
  obtain ⟨dx, os, p1, p2, cs, ls, h1, h2, h3, h4, h5, h6, h7, h8⟩ := h
  exact ⟨dx, os, p1, p2, cs, ls, s _ _ h1, h2, h3, s _ _ h4, h5.same s, h6.same s, s _ _ h7, s _ _ h8⟩
def spInit (K : PySem.W.Frag) (C : Addr) : Sp := fun vs H Q E => ∃ (r dx : Addr) (a b c d : V) (ta tb tc : Value), vs = [.ref r, a, b, c, d] ∧ H r = some (.ins C dx []) ∧ Kd K H a ta ∧ Kd K H b tb ∧ Kd K H c tc ∧ okLen b = true ∧ okLen c = true ∧
  (styV a = none → Err1 K "BadStyle" "style" a H E) ∧ ∀ sty, styV a = some sty → (shareV b = none → Err1 K "BadSum" "text" b H E) ∧ ∀ x1, shareV b = some x1 → (shareV c = none → Err1 K "BadSum" "text" c H E) ∧ ∀ x2, shareV c = some x2 → ∀ H', KeepB r H H' → RulesAt C H' r sty b c d x1 x2 → Q .non H'
theorem Err1.weak {K : PySem.W.Frag} {x f : Str} {v : V} {H H' : Hp} {E : XK} (h : Err1 K x f v H E) (s : Same H H') : Err1 K x f v H' E := fun d H1 s1 n => h d H1 (s.trans s1) n
/-- tuples stand -/
def TK (H H' : Hp) : Prop := ∀ a xs, H a = some (.tup xs) → H' a = some (.tup xs)
theorem TK.trans {H H1 H2 : Hp} (x : TK H H1) (y : TK H1 H2) : TK H H2 := fun a xs e => y a xs (x a xs e)
theorem _root_.L2.Same.tk {H H' : Hp} (s : Same H H') : TK H H' := fun a xs e => s _ _ e
theorem TK.ins {H : Hp} {r C dx : Addr} {fs : List (Str × V)} {o : HO} (h : H r = some (.ins C dx fs)) : TK H (upd H r o) := fun a xs e => by
  rw [upd_ne (ne_of e h (by intro z; cases z))]
  exact e
theorem ShareAt.tk {H H' : Hp} {p : Addr} {x : List Term × Option Nat} (h : ShareAt H p x) (s : TK H H') : ShareAt H' p x := by
  obtain ⟨q, refs, h1, h2, h3⟩ := h
  exact ⟨q, refs, s _ _ h1, s _ _ h2, L2.Paired.mapP h3 fun _ _ e => s _ _ e⟩
theorem shareV_len {v : V} {x : Share} (h : shareV v = some x) : x.1.length ≤ 4 := by
  obtain ⟨ts, m⟩ := x
  cases v with
  | str s =>
    have e : shareM s = some (ts, m) := h
    unfold shareM at e
    split at e
    · cases e
    · rename_i us n d
      split at e
      · cases e
        exact divM_len d
      · cases e
  | _ => cases h
section
variable {K : PySem.W.Frag} {P : Program} {w : World} {base : Heap} {mg : Str → Option Value}
theorem sc_Rules___init__ : FnScope ["self", "style", "cap", "low", "root"] ["self", "style", "cap", "low", "root"] (defScope sRI) := ⟨rfl, rfl, rfl, by decide +kernel, rfl, by decide +kernel, by decide +kernel⟩
theorem ok_Rules_init {C f fS fL : Addr} {fd fdS fdL : FuncData} {dv : List V} (F : FunD K "__init__" "Rules.__init__" (defArgs sRI) (defBody sRI) (defScope sRI) dv [] f fd) (RC : RulesC K mg C f)
    (FS : FunD K "read_share" "read_share" (defArgs sShare) (defBody sShare) (defScope sShare) [] [] fS fdS) (FL : FunD K "line_of" "line_of" (defArgs sLine) (defBody sLine) (defScope sLine) [] [] fL fdL)
    (GS : FnOk P w K mg base (L2.CX P w) 5 fS fdS ["text"] (spShare K)) (GL : FnOk P w K mg base CX0 1 fL fdL ["share"] spLine) (gRS : mg "read_share" = some (.ref fS)) (gL : mg "line_of" = some (.ref fL)) (ER : Errs P K mg) (mIsi : mg "isinstance" = none) (mStr : mg "str" = none)
    {aS : Addr} (gS : ∃ u, mg "STYLES" = some u ∧ RelV (.ref aS) u) (tS : ∀ H, SqT K H aS (STYL.map V.str)) : FnOk P w K mg base (L2.CX P w) 6 f fd ["self", "style", "cap", "low", "root"] (spInit K C) := by
  have bS : Binds K fdS ["text"] [] := FS.bindsN fun _ _ _ _ _ _ us hl => match us, hl with | [_], _ => rfl
  have bL : Binds K fdL ["share"] [] := FL.bindsN fun _ _ _ _ _ _ us hl => match us, hl with | [_], _ => rfl
  refine F.ok sc_Rules___init__ (fun vs H Q E h => ?_) (fun cdv A outer s H vs Q E hr h => ?_)
  · obtain ⟨r, dx, a, b, c, d, ta, tb, tc, rfl, _⟩ := h
    rfl
  · obtain ⟨r, dx, a, b, c, d, ta, tb, tc, rfl, hR, ka, kb, kc, lb, lc, q0, q⟩ := h
    obtain ⟨fdI, IBadStyle⟩ := ER.iBadStyle
    refine ⟨_, (pss_cons (by exact (ps_if (PW.pt (pw_or (pt_not (pt_val (pe_callB call_isi (by rfl) mIsi PyProof.Rows.boot_isinstance (pa_cons (pv 1) (pa_cons (pe_bltn (v := .ty "str") (by rfl) mStr (by decide +kernel) rfl) pa_nil))))) (pw_or1 (pt_cmpR (op_notInK K rfl) (pv 1) (C8.pe_gc (v := .ref aS) rfl gS) rfl)))) (pss_one (by exact (ps_raise rfl (takes_of rfl rfl rfl rfl) (pmk_sup1 IBadStyle.sup (okIBadStyle IBadStyle ER.mS ER.hP) (hr.mono (by decide)) (bIBadStyle IBadStyle) pass0 rfl (pv 1))))) pss_nil)) (pss_cons (by exact (ps_fld (pv 0) (pe_tup (pa_cons (pe_callS GS hr rfl gRS FS.kp bS (fun σ => passAt (takes_of rfl rfl rfl rfl) σ) (pa_cons (pv 2) pa_nil)) (pa_cons (pe_callS GS hr rfl gRS FS.kp bS (fun σ => passAt (takes_of rfl rfl rfl rfl) σ) (pa_cons (pv 3) pa_nil)) pa_nil))) rfl)) (pss_cons (by exact (ps_fld (pv 0) (pe_call GL (hr.mono (by decide)) rfl gL FL.kp bL .nil pass0 (pa_cons (pe_ix (ix_tupK K rfl) (pe_fld (pv 0) rfl) pe_int (fun _ _ => rfl)) pa_nil)) rfl)) (pss_cons (by exact (ps_fld (pv 0) (pe_call GL (hr.mono (by decide)) rfl gL FL.kp bL .nil pass0 (pa_cons (pe_ix (ix_tupK K rfl) (pe_fld (pv 0) rfl) pe_int (fun _ _ => rfl)) pa_nil)) rfl)) (pss_cons (by exact (ps_fld (pv 0) (pv 1) rfl)) (pss_cons (by exact (ps_fld (pv 0) (pv 2) rfl)) (pss_cons (by exact (ps_fld (pv 0) (pv 3) rfl)) (pss_one (by exact (ps_fld (pv 0) (pv 4) rfl)))))))))), ?_⟩
    refine ⟨_, rfl, a, _, ta, _, _, rfl, .ty "str", ka.ty, ka.st, _, rfl, ite2 (fun e => ?_) fun e => ?_⟩
    · refine ⟨_, rfl, fun dd hd => q0 ?_ dd H (Same.refl H) hd⟩
      cases a with
      | str z => cases e
      | _ => rfl
    obtain ⟨z, rfl⟩ : ∃ z, a = .str z := by
      cases a with
      | str z => exact ⟨z, rfl⟩
      | _ => exact absurd rfl e
    refine ⟨_, rfl, aS, _, rfl, .inr (tS _), rfl, flat_strs, _, rfl, ite2 (fun e2 => ?_) fun e2 => ?_⟩
    · have m : ¬ z ∈ STYL := fun y => by
        have x : (!inV (V.str z) (STYL.map V.str)) = true := e2
        rw [inV_strs, decide_eq_true y] at x
        cases x
      exact ⟨_, rfl, fun dd hd => q0 (if_neg m) dd H (Same.refl H) hd⟩
    have m : z ∈ STYL := Classical.byContradiction fun y => e2 (show (!inV (V.str z) (STYL.map V.str)) = true by rw [inV_strs, decide_eq_false y]; rfl)
    obtain ⟨q1, q2⟩ := q z (if_pos m)
    refine ⟨_, rfl, b, tb, rfl, kb, lb, q1, fun x1 e3 p1 H1 s1 n1 sa1 => ?_⟩
    obtain ⟨q3, q4⟩ := q2 x1 e3
    refine ⟨_, rfl, c, tc, rfl, kc.mono s1, lc, fun z => (q3 z).weak s1, fun x2 e4 p2 H2 s2 n2 sa2 => ?_⟩
    have fin := q4 x2 e4
    refine ⟨by show 2 ≤ sizeLine; decide, fun os hos => ?_⟩
    have sA := (s1.trans s2).step (o := .tup [.ref p1, .ref p2]) hos
    have sR := sA _ _ hR
    have so : upd H2 os (.tup [.ref p1, .ref p2]) os = some (.tup [.ref p1, .ref p2]) := upd_same
    have sa1' : ShareAt (upd H2 os (.tup [.ref p1, .ref p2])) p1 x1 := (sa1.same s2).same (same_new hos)
    have sa2' : ShareAt (upd H2 os (.tup [.ref p1, .ref p2])) p2 x2 := sa2.same (same_new hos)
    have no := RC.no
    refine ⟨_, rfl, r, C, dx, [], rfl, sR, RC.cls, no _ (by simp), by show 0 < 1000; decide, ?_⟩
    have t1 : TK (upd H2 os (.tup [.ref p1, .ref p2])) _ := TK.ins (o := .ins C dx [("own_shares", .ref os)]) sR
    have w1 : KeepB r H _ := sA.keepB.trans (KeepB.upd (o := .ins C dx [("own_shares", .ref os)]))
    refine ⟨_, rfl, r, C, dx, _, .ref os, rfl, upd_same, RC.cls, no _ (by simp), rfl, os, _, 0, .ref p1, rfl, rfl, SqT.of (t1 _ _ so), rfl, p1, x1, rfl, sa1'.tk t1, shareV_len e3, fun cs H3 s3 n3 l3 => ?_⟩
    have r3 := s3 _ _ (upd_same (a := r) (o := HO.ins C dx [("own_shares", .ref os)]))
    refine ⟨_, rfl, r, C, dx, _, rfl, r3, RC.cls, no _ (by simp), by show 1 < 1000; decide, ?_⟩
    have t3 := (t1.trans s3.tk).trans (TK.ins (o := .ins C dx [("own_shares", .ref os), ("cap_share", .ref cs)]) r3)
    have w3 := (w1.trans s3.keepB).trans (KeepB.upd (o := .ins C dx [("own_shares", .ref os), ("cap_share", .ref cs)]))
    have l3' := (TK.ins (o := .ins C dx [("own_shares", .ref os), ("cap_share", .ref cs)]) r3) _ _ l3
    refine ⟨_, rfl, r, C, dx, _, .ref os, rfl, upd_same, RC.cls, no _ (by simp), rfl, os, _, 1, .ref p2, rfl, rfl, SqT.of (t3 _ _ so), rfl, p2, x2, rfl, sa2'.tk t3, shareV_len e4, fun ls H5 s5 n5 l5 => ?_⟩
    have r5 := s5 _ _ (upd_same (a := r) (o := HO.ins C dx [("own_shares", .ref os), ("cap_share", .ref cs)]))
    refine ⟨_, rfl, r, C, dx, _, rfl, r5, RC.cls, no _ (by simp), by show 2 < 1000; decide, ?_⟩
    refine ⟨_, rfl, _, rfl, r, C, dx, _, rfl, upd_same, RC.cls, no _ (by simp), by show 3 < 1000; decide, ?_⟩
    refine ⟨_, rfl, _, rfl, r, C, dx, _, rfl, upd_same, RC.cls, no _ (by simp), by show 4 < 1000; decide, ?_⟩
    refine ⟨_, rfl, _, rfl, r, C, dx, _, rfl, upd_same, RC.cls, no _ (by simp), by show 5 < 1000; decide, ?_⟩
    refine ⟨_, rfl, _, rfl, r, C, dx, _, rfl, upd_same, RC.cls, no _ (by simp), by show 6 < 1000; decide, ?_⟩
    rw [upd_upd, upd_upd, upd_upd, upd_upd]
    have last := TK.ins (o := .ins C dx (rulesF os cs ls (.str z) b c d)) r5
    have tF := (t3.trans s5.tk).trans last
    refine fin _ ((w3.trans s5.keepB).trans KeepB.upd) ⟨dx, os, p1, p2, cs, ls, upd_same, e3, e4, tF _ _ so, sa1'.tk tF, sa2'.tk tF, last _ _ (s5 _ _ l3'), last _ _ l5⟩
end
end Pk
namespace Pk
open L2 PyProof.Rows PySem.Spec PySem
/-! ### how great a share's numbers are -/
theorem sumGo_lt : ∀ (ws : List Str) (found : List Term) (term : List Str) (sign : Int) (ts : List Term), (sign = 1 ∨ sign = -1) → (∀ t ∈ found, t.1.natAbs < 10 ^ 30) → sumGo ws found term sign = some ts → ∀ t ∈ ts, t.1.natAbs < 10 ^ 30
  | [], found, term, sign, ts, _, h, e => by
    rw [sumGo] at e
    cases e
    exact h
  | w :: ws, found, term, sign, ts, hs, h, e => by
    rw [sumGo] at e
    split at e
    · split at e
      · cases e
      · rename_i n f ht
        refine sumGo_lt ws _ _ _ ts ?_ (fun t hm => ?_) e
        · split
          · exact .inl rfl
          · exact .inr rfl
        · rcases List.mem_append.mp hm with m | m
          · exact h t m
          · rw [List.mem_singleton.mp m]
            have q := termM_lt ht
            show (sign * (n : Int)).natAbs < 10 ^ 30
            rcases hs with z | z <;> rw [z] <;> omega
    · exact sumGo_lt ws _ _ _ ts hs h e
theorem sumM_lt {ws : List Str} {ts : List Term} (h : sumM ws = some ts) : ∀ t ∈ ts, t.1.natAbs < 10 ^ 30 := by
  unfold sumM at h
  split at h
  · cases h
  · rename_i us e
    split at h
    · cases h
      exact sumGo_lt _ _ _ _ _ (.inl rfl) (fun t m => by cases m) e
    · cases h
theorem divM_lt {ws : List Str} {most : Nat} {x : Share} (h : divM ws most = some x) : (∀ t ∈ x.1, t.1.natAbs < 10 ^ 30) ∧ (x.2 = none ∨ ∃ m, x.2 = some m ∧ 2 ≤ m ∧ m ≤ most) := by
  unfold divM at h
  split at h
  · split at h
    · rename_i e _
      split at h
      · rename_i b
        cases h
        exact ⟨sumM_lt e, .inr ⟨_, rfl, b.1, b.2⟩⟩
      · cases h
    · cases h
  · cases e : sumM ws with
    | none => (rw [e] at h; cases h)
    | some us =>
      rw [e] at h
      cases h
      exact ⟨sumM_lt e, .inl rfl⟩
theorem sum_lt : ∀ (l : List Int) (b : Nat), (∀ z ∈ l, z.natAbs < b) → l.sum.natAbs ≤ l.length * b
  | [], b, _ => by simp
  | z :: l, b, h => by
    have q := sum_lt l b fun y hy => h y (List.mem_cons_of_mem _ hy)
    have d := h z (by simp)
    rw [List.sum_cons, List.length_cons, Nat.succ_mul]
    omega
theorem shareV_lt {v : V} {x : Share} (h : shareV v = some x) : (lineM x).s.natAbs ≤ 4 * 10 ^ 30 ∧ (lineM x).c.natAbs ≤ 4 * 10 ^ 30 ∧ 1 ≤ (lineM x).d ∧ (lineM x).d ≤ 6 := by
  have l4 := shareV_len h
  have g : (∀ t ∈ x.1, t.1.natAbs < 10 ^ 30) ∧ (x.2 = none ∨ ∃ m, x.2 = some m ∧ 2 ≤ m ∧ m ≤ 6) := by
    cases v with
    | str s =>
      have e : shareM s = some x := h
      unfold shareM at e
      split at e
      · cases e
      · rename_i us n d
        split at e
        · cases e
          exact divM_lt d
        · cases e
    | _ => cases h
  have bnd : ∀ fn : Term → Option Int, (∀ t z, fn t = some z → z = t.1) → (x.1.filterMap fn).sum.natAbs ≤ 4 * 10 ^ 30 := fun fn hf => by
    have q := sum_lt (x.1.filterMap fn) (10 ^ 30) fun z hz => by
      obtain ⟨t, ht, e⟩ := List.mem_filterMap.mp hz
      rw [hf t z e]
      exact g.1 t ht
    have q2 : (x.1.filterMap fn).length ≤ 4 := Nat.le_trans (List.length_filterMap_le _ _) l4
    exact Nat.le_trans q (Nat.mul_le_mul_right _ q2)
  refine ⟨bnd _ fun t z e => ?_, bnd _ fun t z e => ?_, ?_⟩
  · split at e
    · exact (Option.some.inj e).symm
    · cases e
  · split at e
    · exact (Option.some.inj e).symm
    · cases e
  · show 1 ≤ x.2.getD 1 ∧ x.2.getD 1 ≤ 6
    rcases g.2 with e | ⟨m, e, h1, h2⟩
    · rw [e]
      decide
    · rw [e]
      exact ⟨by show 1 ≤ m; omega, h2⟩
theorem shA {v : V} {x : Share} (h : shareV v = some x) : 0 < (lineM x).d ∧ (lineM x).d < 2 ^ 400 ∧ (lineM x).s.natAbs < 2 ^ 400 := by
  obtain ⟨h1, _, h3, h4⟩ := shareV_lt h
  exact ⟨h3, Nat.lt_of_le_of_lt h4 (by decide), Nat.lt_of_le_of_lt h1 (by decide)⟩
abbrev sCapAt : Stmt := inClass (top 67) 1
abbrev sLowAt : Stmt := inClass (top 67) 2
abbrev sBounds : Stmt := inClass (top 67) 3
abbrev sInUse : Stmt := inClass (top 67) 6
def usedL (x1 x2 : Share) (k : Int) : Bool := decide (1 ≤ (lineM x2).at_ k) && decide ((lineM x2).at_ k ≤ (lineM x1).at_ k)
/-- asked at a capacity: the answer f, or BadCapacity -/
def spCapQ (K : PySem.W.Frag) (C : Addr) (f : Share → Share → Int → V) : Sp := fun vs H Q E => ∃ (r : Addr) (x : V) (t : Value) (sty : Str) (cap low root : V) (x1 x2 : Share), vs = [.ref r, x] ∧ RulesAt C H r sty cap low root x1 x2 ∧ Kd K H x t ∧ (∀ k : Int, x = .int k → k.natAbs < 2 ^ 400) ∧
  (∀ k : Int, x = .int k → 1 ≤ k → ∀ H', Same H H' → Q (f x1 x2 k) H') ∧ ((∀ k : Int, x = .int k → ¬ 1 ≤ k) → Err1 K "BadCapacity" "k" x H E)
def spBounds (C : Addr) : Sp := fun vs H Q _ => ∃ (r : Addr) (k : Int) (sty : Str) (cap low root : V) (x1 x2 : Share), vs = [.ref r, .int k] ∧ RulesAt C H r sty cap low root x1 x2 ∧ k.natAbs < 2 ^ 400 ∧
  ∀ p, H p = none → Q (.ref p) (upd H p (.tup [.int ((lineM x2).at_ k), .int ((lineM x1).at_ k)]))
section
variable {K : PySem.W.Frag} {P : Program} {w : World} {base : Heap} {mg : Str → Option Value} {C fI : Addr}
theorem sc_Rules_bounds : FnScope ["self", "k"] ["self", "k"] (defScope sBounds) := ⟨rfl, rfl, rfl, by decide +kernel, rfl, by decide +kernel, by decide +kernel⟩
theorem ok_Rules_bounds {f fA : Addr} {fd fdA : FuncData} (F : FunD K "bounds" "Rules.bounds" (defArgs sBounds) (defBody sBounds) (defScope sBounds) [] [] f fd) (RC : RulesC K mg C fI) (FA : FunD K "share_at" "share_at" (defArgs sShareAt) (defBody sShareAt) (defScope sShareAt) [] [] fA fdA)
    (GA : FnOk P w K mg base CX0 1 fA fdA ["share", "k"] spShareAt) (gA : mg "share_at" = some (.ref fA)) : FnOk P w K mg base CX0 2 f fd ["self", "k"] (spBounds C) := by
  have bA : Binds K fdA ["share", "k"] [] := FA.bindsN fun _ _ _ _ _ _ us hl => match us, hl with | [_, _], _ => rfl
  refine F.ok sc_Rules_bounds (fun vs H Q E h => ?_) (fun cdv A outer s H vs Q E hr h => ?_)
  · obtain ⟨r, k, sty, cap, low, root, x1, x2, rfl, _⟩ := h
    rfl
  · obtain ⟨r, k, sty, cap, low, root, x1, x2, rfl, R, hb, q⟩ := h
    obtain ⟨dx, os, p1, p2, cs, ls, h1, h2, h3, h4, h5, h6, h7, h8⟩ := R
    refine ⟨_, PSs.nox (pss_one (by exact (ps_ret (pe_tup (pa_cons (pe_call GA (hr.mono (by decide)) rfl gA FA.kp bA .nil pass0 (pa_cons (pe_fld (pv 0) rfl) (pa_cons (pv 1) pa_nil))) (pa_cons (pe_call GA (hr.mono (by decide)) rfl gA FA.kp bA .nil pass0 (pa_cons (pe_fld (pv 0) rfl) (pa_cons (pv 1) pa_nil))) pa_nil)))))), ?_⟩
    refine ⟨_, rfl, r, C, dx, _, .ref ls, rfl, h1, RC.cls, RC.no _ (by simp), rfl, _, rfl, _, _, k, rfl, h8, (shA h3).1, (shA h3).2.1, (shA h3).2.2, hb, ?_⟩
    refine ⟨_, rfl, r, C, dx, _, .ref cs, rfl, h1, RC.cls, RC.no _ (by simp), rfl, _, rfl, _, _, k, rfl, h7, (shA h2).1, (shA h2).2.1, (shA h2).2.2, hb, ?_⟩
    exact ⟨by show 2 ≤ sizeLine; decide, q⟩
theorem sc_Rules_in_use : FnScope ["self", "k", "low", "cap"] ["self", "k"] (defScope sInUse) := ⟨rfl, rfl, rfl, by decide +kernel, rfl, by decide +kernel, by decide +kernel⟩
theorem ok_Rules_in_use {f fN fB : Addr} {fd fdN fdB : FuncData} (F : FunD K "in_use" "Rules.in_use" (defArgs sInUse) (defBody sInUse) (defScope sInUse) [] [] f fd) (RC : RulesC K mg C fI)
    (FN : FunD K "need_capacity" "need_capacity" (defArgs sNeed) (defBody sNeed) (defScope sNeed) [] [] fN fdN) (FB : FunD K "bounds" "Rules.bounds" (defArgs sBounds) (defBody sBounds) (defScope sBounds) [] [] fB fdB)
    (GN : FnOk P w K mg base (L2.CX P w) 3 fN fdN ["k"] (spNeed K)) (GB : FnOk P w K mg base CX0 2 fB fdB ["self", "k"] (spBounds C)) (gN : mg "need_capacity" = some (.ref fN)) (mB : Meth K C "bounds" fB) : FnOk P w K mg base (L2.CX P w) 4 f fd ["self", "k"] (spCapQ K C fun x1 x2 k => .bl (usedL x1 x2 k)) := by
  have bN : Binds K fdN ["k"] [] := FN.bindsN fun _ _ _ _ _ _ us hl => match us, hl with | [_], _ => rfl
  have bB : Binds K fdB ["self", "k"] [] := FB.bindsN fun _ _ _ _ _ _ us hl => match us, hl with | [_, _], _ => rfl
  refine F.ok sc_Rules_in_use (fun vs H Q E h => ?_) (fun cdv A outer s H vs Q E hr h => ?_)
  · obtain ⟨r, x, t, sty, cap, low, root, x1, x2, rfl, _⟩ := h
    rfl
  · obtain ⟨r, x, t, sty, cap, low, root, x1, x2, rfl, R, kd, hb, q, qe⟩ := h
    obtain ⟨dx, os, p1, p2, cs, ls, h1, h2, h3, h4, h5, h6, h7, h8⟩ := id R
    refine ⟨_, (pss_cons (by exact (ps_expr (pe_callS GN (hr.mono (by decide)) rfl gN FN.kp bN (fun σ => passAt (takes_of rfl rfl rfl rfl) σ) (pa_cons (pv 1) pa_nil)))) (pss_cons (by exact (ps_asg (pe_meth (pv 0) RC.cls mB GB (hr.mono (by decide)) bB .nil pass0 (pa_cons (pv 1) pa_nil)) (pg_tupK (n := 2) K rfl rfl (pgs_cons (pg_name (i := 2) sc_Rules_in_use.nd rfl (Or.inl rfl)) (pgs_cons (pg_name (i := 3) sc_Rules_in_use.nd rfl (Or.inl rfl)) pgs_nil))))) (pss_one (by exact (ps_ret (pe_chain op_le op_le pe_int (pv 2) (pv 3))))))), ?_⟩
    refine ⟨_, rfl, x, t, rfl, kd, fun k ek hk => ?_, qe⟩
    subst ek
    refine ⟨_, rfl, r, dx, _, rfl, h1, rfl, _, rfl, r, k, sty, cap, low, root, x1, x2, rfl, R, hb k rfl, fun p hp => ?_⟩
    refine ⟨p, _, rfl, SqT.of upd_same, rfl, _, _, rfl, _, _, rfl, rfl, ?_⟩
    have fin : Q (.bl (decide (1 ≤ (lineM x2).at_ k) && decide ((lineM x2).at_ k ≤ (lineM x1).at_ k))) _ := q k rfl hk _ (same_new (o := .tup [.int ((lineM x2).at_ k), .int ((lineM x1).at_ k)]) hp)
    refine ⟨_, rfl, _, _, rfl, rfl, _, rfl, ite2 (fun e => ?_) fun e => ?_⟩
    · rw [e, Bool.true_and] at fin
      exact ⟨_, rfl, _, _, rfl, rfl, fin⟩
    · have e' : decide (1 ≤ (lineM x2).at_ k) = false := by simpa using e
      rw [e', Bool.false_and] at fin
      exact fin
end
end Pk
namespace Pk
open L2 PyProof.Rows PySem.Spec PySem
/-! ### rows as the reader makes them: few terms, small factors, known names -/
def goodN (o : Option Str) : Prop := ∀ s, o = some s → s ∈ ATOMSL
structure GoodT (ts : List Term) : Prop where
  few : ts.length ≤ 4
  small : ∀ t ∈ ts, t.1.natAbs < 10 ^ 30
  name : ∀ t ∈ ts, goodN t.2
def goodS (t : Term) : Prop := t.1.natAbs < 10 ^ 30 ∧ goodN t.2
def goodP : Part → Prop
  | .there x _ => x ∈ PAGEL
  | .less a b _ _ => goodS a ∧ goodS b
  | .same a b _ => goodS a ∧ goodS b
mutual
def divR : Row → Prop
  | .set _ r ts d => r ∈ REGL ∧ GoodT ts ∧ (d = none ∨ ∃ m, d = some m ∧ 2 ≤ m ∧ m ≤ 12)
  | .cut _ x ts y => x ∈ PAGEL ∧ GoodT ts ∧ y ∈ PAGEL ∧ x ≠ y
  | .join _ x y => x ∈ PAGEL ∧ y ∈ PAGEL ∧ x ≠ y
  | .shift _ ts x y => GoodT ts ∧ x ∈ PAGEL ∧ y ∈ PAGEL ∧ x ≠ y
  | .mark _ y => y ∈ PAGEL
  | .quit _ => True
  | .ifr _ ps a b => (ps.length ≤ 4 ∧ ∀ p ∈ ps, goodP p) ∧ divsM a ∧ divsM b
def divsM : List Row → Prop
  | [] => True
  | r :: rs => divR r ∧ divsM rs
end
def wayDiv (w : Way) : Prop := ∀ row ∈ w.1, divR row
theorem wayDiv_snoc {told : List Row} {goes g2 : Bool} {row : Row} (h : wayDiv (told, goes)) (hr : divR row) : wayDiv (told ++ [row], g2) := fun x hx => by
  rcases List.mem_append.mp hx with m | m
  · exact h x m
  · rw [List.mem_singleton.mp m]
    exact hr
mutual
theorem longer_div : ∀ (r : Row) (w : Way), divR r → wayDiv w → ∀ v ∈ longerR r w, wayDiv v
  | .ifr l ps a b, (told, goes) => fun hr hw v hv => by
    have hr' : divsM a ∧ divsM b := by
      unfold divR at hr
      exact hr.2
    have e0 : ∀ w ∈ ([([], true)] : List Way), wayDiv w := fun w hw => by
      rw [List.mem_singleton.mp hw]
      exact fun x hx => absurd hx (List.not_mem_nil)
    unfold longerR at hv
    split at hv
    · obtain ⟨u, hu, rfl⟩ := List.mem_map.mp hv
      have hu2 : wayDiv u := by
        rcases List.mem_append.mp hu with m | m
        · exact ways_div a _ hr'.1 e0 u m
        · exact ways_div b _ hr'.2 e0 u m
      intro x hx
      rcases List.mem_append.mp hx with m | m
      · exact hw x m
      · rcases List.mem_cons.mp m with e | m
        · rw [e]
          exact hr
        · exact hu2 x m
    · rw [List.mem_singleton.mp hv]
      exact hw
  | .set .., (told, goes) => fun hr hw v hv => by
    unfold longerR at hv
    split at hv <;> rw [List.mem_singleton.mp hv]
    · exact wayDiv_snoc hw hr
    · exact hw
  | .cut .., (told, goes) => fun hr hw v hv => by
    unfold longerR at hv
    split at hv <;> rw [List.mem_singleton.mp hv]
    · exact wayDiv_snoc hw hr
    · exact hw
  | .join .., (told, goes) => fun hr hw v hv => by
    unfold longerR at hv
    split at hv <;> rw [List.mem_singleton.mp hv]
    · exact wayDiv_snoc hw hr
    · exact hw
  | .shift .., (told, goes) => fun hr hw v hv => by
    unfold longerR at hv
    split at hv <;> rw [List.mem_singleton.mp hv]
    · exact wayDiv_snoc hw hr
    · exact hw
  | .mark .., (told, goes) => fun hr hw v hv => by
    unfold longerR at hv
    split at hv <;> rw [List.mem_singleton.mp hv]
    · exact wayDiv_snoc hw hr
    · exact hw
  | .quit .., (told, goes) => fun hr hw v hv => by
    unfold longerR at hv
    split at hv <;> rw [List.mem_singleton.mp hv]
    · exact wayDiv_snoc hw hr
    · exact hw
theorem ways_div : ∀ (rows : List Row) (ws : List Way), divsM rows → (∀ w ∈ ws, wayDiv w) → ∀ v ∈ waysFrom rows ws, wayDiv v
  | [], ws => fun _ h v hv => by
    unfold waysFrom at hv
    exact h v hv
  | r :: rs, ws => fun hr h v hv => by
    unfold waysFrom at hv
    unfold divsM at hr
    refine ways_div rs _ hr.2 (fun w hw => ?_) v hv
    obtain ⟨u, hu, hw⟩ := List.mem_flatMap.mp hw
    exact longer_div r u hr.1 (h u hu) w hw
end
theorem termM_name {ws : List Str} {n : Nat} {f : Option Str} (h : termM ws = some (n, f)) : goodN f := by
  unfold termM at h
  split at h
  · split at h
    · rename_i m
      cases h
      intro s e
      cases e
      exact m
    · rename_i w _
      cases e : numM w with
      | none => (rw [e] at h; cases h)
      | some m =>
        rw [e] at h
        cases h
        exact fun s e => by cases e
  · split at h
    · rename_i q
      split at h
      · split at h
        · cases h
          intro s e
          cases e
          have : ∀ x ∈ FACTL, x ∈ ATOMSL := by decide
          exact this _ q.2
        · cases h
      · cases h
    · cases h
  · cases h
theorem sumGo_name : ∀ (ws : List Str) (found : List Term) (term : List Str) (sign : Int) (ts : List Term), (∀ t ∈ found, goodN t.2) → sumGo ws found term sign = some ts → ∀ t ∈ ts, goodN t.2
  | [], found, term, sign, ts, h, e => by
    cases e
    exact h
  | w :: ws, found, term, sign, ts, h, e => by
    unfold sumGo at e
    split at e
    · split at e
      · cases e
      · rename_i n f ht
        refine sumGo_name ws _ _ _ ts (fun t hm => ?_) e
        rcases List.mem_append.mp hm with m | m
        · exact h t m
        · rw [List.mem_singleton.mp m]
          exact termM_name ht
    · exact sumGo_name ws _ _ _ ts h e
theorem sumM_good {ws : List Str} {ts : List Term} (h : sumM ws = some ts) : GoodT ts := by
  have hs := sumM_lt h
  unfold sumM at h
  split at h
  · cases h
  · rename_i us e
    split at h
    · rename_i ok
      cases h
      unfold sumOk at ok
      exact ⟨of_decide_eq_true (Bool.and_eq_true_iff.mp ok).1, hs, sumGo_name _ _ _ _ _ (fun t m => by cases m) e⟩
    · cases h
theorem divM_good {ws : List Str} {most : Nat} {x : Share} (h : divM ws most = some x) : GoodT x.1 := by
  unfold divM at h
  split at h
  · split at h
    · rename_i e _
      split at h
      · cases h
        exact sumM_good e
      · cases h
    · cases h
  · cases e : sumM ws with
    | none => (rw [e] at h; cases h)
    | some us =>
      rw [e] at h
      cases h
      exact sumM_good e
theorem sideM_good {w : Str} {t : Term} (h : sideM w = some t) : goodS t := by
  unfold sideM at h
  cases e : termM [w] with
  | none => (rw [e] at h; cases h)
  | some p =>
    obtain ⟨n, f⟩ := p
    rw [e] at h
    cases h
    refine ⟨?_, termM_name e⟩
    have := termM_lt e
    show ((n : Int)).natAbs < _
    omega
theorem partM_good {ws : List Str} {p : Part} (h : partM ws = some p) : goodP p := by
  unfold partM at h
  split at h
  · rename_i q
    cases h
    exact q.2.2
  · split at h
    · split at h
      · rename_i e1 e2
        split at h
        · cases h
          exact ⟨sideM_good e1, sideM_good e2⟩
        · split at h
          · cases h
            exact ⟨sideM_good e1, sideM_good e2⟩
          · cases h
      · cases h
    · cases h
theorem partsGo_good : ∀ (ws : List Str) (found : List Part) (part : List Str) (ps : List Part), (∀ p ∈ found, goodP p) → partsGo ws found part = some ps → ∀ p ∈ ps, goodP p
  | [], found, part, ps, h, e => by
    cases e
    exact h
  | w :: ws, found, part, ps, h, e => by
    unfold partsGo at e
    split at e
    · split at e
      · cases e
      · rename_i p hp
        refine partsGo_good ws _ _ ps (fun t hm => ?_) e
        rcases List.mem_append.mp hm with m | m
        · exact h t m
        · rw [List.mem_singleton.mp m]
          exact partM_good hp
    · exact partsGo_good ws _ _ ps h e
theorem partsM_good {ws : List Str} {ps : List Part} (h : partsM ws = some ps) : ps.length ≤ 4 ∧ ∀ p ∈ ps, goodP p := by
  unfold partsM at h
  split at h
  · cases h
  · rename_i e
    split at h
    · rename_i l
      cases h
      exact ⟨l, partsGo_good _ _ _ _ (fun p m => by cases m) e⟩
    · cases h
theorem deedM_good {line : Nat} {ws : List Str} {row : Row} (e : deedM line ws = some row) : divR row := by
  unfold deedM at e
  split at e
  · cases e
    unfold divR
    trivial
  · split at e
    · rename_i q0 q
      cases z : divM (ws.drop 2) 12 with
      | none => rw [z] at e; cases e
      | some x =>
        rw [z] at e
        cases e
        unfold divR
        exact ⟨q.2.1, divM_good z, (divM_lt z).2⟩
    · split at e
      · rename_i q
        cases e
        unfold divR
        exact q.2.2
      · split at e
        · rename_i q
          split at e
          · rename_i n
            cases e
            unfold divR
            exact ⟨q.2.2.1, q.2.2.2, n⟩
          · cases e
        · unfold movingM at e
          split at e
          · cases e
          · rename_i nl
            have hl : at_ ws (ws.length - 1) ∈ PAGEL := Classical.byContradiction fun z => nl (.inr z)
            split at e
            · rename_i q
              split at e
              · rename_i z
                split at e
                · rename_i n
                  cases e
                  unfold divR
                  exact ⟨q.2.1, sumM_good z, hl, n⟩
                · cases e
              · cases e
            · split at e
              · cases e
              · rename_i q
                have h3 : at_ ws (ws.length - 3) ∈ PAGEL := Classical.byContradiction fun z => q (.inr (.inr (.inl z)))
                split at e
                · rename_i z
                  split at e
                  · rename_i n
                    cases e
                    unfold divR
                    exact ⟨sumM_good z, h3, hl, n⟩
                  · cases e
                · cases e
theorem rowM_div {n : Nat} (hr : ∀ i l ls rows last l2 r2, rowsM n i l ls = .ok (rows, last, l2, r2) → divsM rows) {line : Nat} {ws r : List Str} {row : Row} {l2 : Nat} {r2 : List Str} (h : rowM (rowsM n) line ws r = .ok (row, l2, r2)) : divR row := by
  unfold rowM at h
  split at h
  · split at h
    · cases h
    · rename_i hp
      split at h
      · cases h
      · rename_i e
        have a := hr _ _ _ _ _ _ _ e
        split at h
        · split at h
          · cases h
          · rename_i e2
            have b := hr _ _ _ _ _ _ _ e2
            split at h
            · cases h
              unfold divR
              exact ⟨partsM_good hp, a, b⟩
            · cases h
        · split at h
          · cases h
            unfold divR
            refine ⟨partsM_good hp, a, ?_⟩
            unfold divsM
            trivial
          · cases h
  · split at h
    · cases h
    · rename_i e
      cases h
      exact deedM_good e
theorem rowsM_div : ∀ (n : Nat) (i : Bool) (l : Nat) (ls : List Str) (rows : List Row) (last : Option Str) (l2 : Nat) (r2 : List Str), rowsM n i l ls = .ok (rows, last, l2, r2) → divsM rows
  | 0, _, _, _, _, _, _, _, h => by cases h
  | n + 1, i, l, ls, rows, last, l2, r2, h => by
    unfold rowsM at h
    split at h
    · split at h
      · cases h
      · cases h
        unfold divsM
        trivial
    · split at h
      · cases h
        unfold divsM
        trivial
      · split at h
        · cases h
        · rename_i e
          have a := rowM_div (rowsM_div n) e
          split at h
          · cases h
          · rename_i e2
            have b := rowsM_div n _ _ _ _ _ _ _ e2
            cases h
            unfold divsM
            exact ⟨a, b⟩
theorem readM_good {t : Str} {rows : List Row} (h : readM t = .ok rows) : divsM rows := by
  unfold readM at h
  split at h
  · cases h
  · rename_i x e
    cases h
    exact rowsM_div _ _ _ _ _ _ _ _ e
end Pk
namespace Pk
open L2 PyProof.Rows PySem.Spec PySem
theorem kind_set {row : Row} (h : kindR row = "set") : ∃ l r ts d, row = .set l r ts d := by
  cases row with
  | set l r ts d => exact ⟨l, r, ts, d, rfl⟩
  | _ => exact absurd h (by simp only [kindR]; decide)
theorem much_not {row : Row} {m : Much} (h : ¬ kindR row = "set") : muchStep m row = m := by
  cases row with
  | set l r ts d => exact absurd rfl h
  | _ => rfl
/-- a table of counts -/
def Counts (kvs : List (Key × V)) (ks : List (Str × Nat)) : Prop := ∀ r : Str, (valV kvs (.inr r)).getD (.int 0) = .int (getS ks r : Nat)
theorem counts_put {kvs : List (Key × V)} {ks : List (Str × Nat)} (h : Counts kvs ks) (r : Str) (n : Nat) : Counts (putK kvs (.inr r) (.int (n : Nat))) ((r, n) :: ks) := fun q => by
  rw [valV_put]
  unfold getS
  by_cases e : q = r
  · rw [e, if_pos rfl, List.lookup_cons, beq_self_eq_true]
    rfl
  · rw [if_neg (fun z => e (Sum.inr.inj z)), List.lookup_cons, beq_false_of_ne e]
    exact h q
def spMuch : Sp := fun vs H Q _ => ∃ (t : Addr) (fr : Addr → Prop) (refs : List Addr) (told : List Row) (product : Nat), vs = [.ref t, .int (product : Nat)] ∧ H t = some (.lst (refs.map V.ref)) ∧ RowsAt fr H refs told ∧ wayDiv (told, true) ∧ told.length ≤ 2000 ∧
  ∀ p H', Same H H' → H p = none → H' p = some (.lst (natL (tooMuchM told product))) → Q (.ref p) H'
theorem much_one (m : Much) (row : Row) : (muchStep m row).found.length ≤ m.found.length + 2 := by
  cases row with
  | set l r ts d =>
    cases d with
    | none =>
      show (if _ then m.found ++ [l] else m.found).length ≤ _
      split
      · rw [(List.length_append), List.length_singleton]
        omega
      · omega
    | some d =>
      show (if _ then (if _ then m.found ++ [l] else m.found) ++ [l] else (if _ then m.found ++ [l] else m.found)).length ≤ _
      have q : ∀ (c : Prop) [Decidable c] (xs : List Nat), (if c then xs ++ [l] else xs).length ≤ xs.length + 1 := fun c _ xs => by
        split
        · rw [(List.length_append), List.length_singleton]
          exact Nat.le_refl _
        · omega
      exact Nat.le_trans (q _ _) (Nat.succ_le_succ (q _ _))
  | _ => exact Nat.le_add_right _ _
theorem much_len : ∀ (told : List Row) (m : Much), (told.foldl muchStep m).found.length ≤ m.found.length + 2 * told.length
  | [], m => Nat.le_add_right _ _
  | r :: rs, m => by
    have a := much_len rs (muchStep m r)
    have b := much_one m r
    rw [List.foldl_cons, List.length_cons]; omega
section
variable {K : PySem.W.Frag} {P : Program} {w : World} {base : Heap} {mg : Str → Option Value}
theorem sc_too_much : FnScope ["told", "product", "found", "divisions", "settings", "row"] ["told", "product"] (defScope sMuch) := ⟨rfl, rfl, rfl, by decide +kernel, rfl, by decide +kernel, by decide +kernel⟩
theorem ok_too_much {f : Addr} {fd : FuncData} (F : FunD K "too_much" "too_much" (defArgs sMuch) (defBody sMuch) (defScope sMuch) [] [] f fd) (gMS : ∃ u, mg "MOST_SETTINGS" = some u ∧ RelV (.int 2) u) (gMD : ∃ u, mg "MOST_DIVISIONS" = some u ∧ RelV (.int 2) u) (gMP : ∃ u, mg "MOST_PRODUCT" = some u ∧ RelV (.int 144) u) : FnOk P w K mg base CX0 1 f fd ["told", "product"] spMuch := by
  refine F.ok sc_too_much (fun vs H Q E h => ?_) (fun cdv A outer s H vs Q E hr h => ?_)
  · obtain ⟨t, fr, refs, told, product, rfl, _⟩ := h
    rfl
  · obtain ⟨t, fr, refs, told, product, rfl, ht, hT, hdv, hl, q⟩ := h
    have hu : (A.deeper (envOfC "too_much" (defScope sMuch) s.heap.objs.size f cdv)).units + 1 < cLine := Nat.lt_of_le_of_lt (by omega) (Room.units hr)
    have lT := rows_len hT
    refine ⟨_, PSs.nox (pss_cons (by exact (ps_par3 (i := 2) (j := 3) (l := 4) rfl sc_too_much.nd rfl rfl rfl (by decide) (by decide) (by decide) rfl rfl rfl (pa_cons (pe_lst pa_nil) (pa_cons pe_int (pa_cons pe_dnewK pa_nil))) rfl)) (pss_cons (by exact (ps_for PassesOwn.never rfl (pi_list (pv 0)) (pg_name (i := 5) sc_too_much.nd rfl (Or.inl rfl)) (pss_cons (by exact (ps_if (pt_cmpR op_ne (pe_ix (ix_tupK K rfl) (pv 5) pe_int (fun _ _ => rfl)) pe_str (nomark _)) (pss_one (by exact ps_continue)) pss_nil)) (pss_cons (by exact (ps_dput hu (pv 4) (pe_ix (ix_tupK K rfl) (pv 5) pe_int (fun _ _ => rfl)) (pe_op op_add (pe_dget2 hu (pv 4) (pe_ix (ix_tupK K rfl) (pv 5) pe_int (fun _ _ => rfl)) pe_int ⟨rfl, by rfl, rfl, rfl⟩) pe_int) rfl)) (C8.pss_cut (by exact (ps_if (pt_cmpR op_gt (pe_dget hu (pv 4) (pe_ix (ix_tupK K rfl) (pv 5) pe_int (fun _ _ => rfl)) (fun _ _ => rfl)) (C8.pe_gc (v := .int 2) rfl gMS) (nomark _)) (pss_one (by exact (ps_expr (pe_bm PySem.F.plainAttrs_list PySem.F.slot_list_append PySem.F.type_list_append mt_append (pv 2) (pa_cons (pe_ix (ix_tupK K rfl) (pv 5) pe_int (fun _ _ => rfl)) pa_nil))))) pss_nil)) (pss_one (by exact (ps_if (pt_cmp (pc_notN (pe_ix (ix_tupK K rfl) (pv 5) pe_int (fun _ _ => rfl)))) (pss_cons (by exact (ps_aug (i := 3) sc_too_much.nd rfl (Or.inl rfl) pe_int iop_add)) (pss_cons (by exact (ps_aug (i := 1) sc_too_much.nd rfl (Or.inl rfl) (pe_ix (ix_tupK K rfl) (pv 5) pe_int (fun _ _ => rfl)) iop_mul)) (pss_one (by exact (ps_if (PW.pt (pw_or (pt_cmpR op_gt (pv 3) (C8.pe_gc (v := .int 2) rfl gMD) (nomark _)) (pw_or1 (pt_cmpR op_gt (pv 1) (C8.pe_gc (v := .int 144) rfl gMP) (nomark _))))) (pss_one (by exact (ps_expr (pe_bm PySem.F.plainAttrs_list PySem.F.slot_list_append PySem.F.type_list_append mt_append (pv 2) (pa_cons (pe_ix (ix_tupK K rfl) (pv 5) pe_int (fun _ _ => rfl)) pa_nil))))) pss_nil))))) pss_nil)))))))) (pss_one (by exact (ps_ret (pv 2)))))), ?_⟩
    refine ⟨by show 0 ≤ sizeLine; decide, fun fa hfa => fun da hda => ⟨_, _, _, rfl, ?_⟩⟩
    have T1 := same_new (o := .lst []) hfa
    have T2 := T1.step (o := .dK []) hda
    have nDa : H da = none := T1.back hda
    have fd : fa ≠ da := fun z => by rw [← z, upd_same] at hda; cases hda
    refine ⟨_, rfl, t, rfl, ⟨_, SqL.of (T2 _ _ ht)⟩, for_list (K := K) (a := t) (xs := refs.map V.ref) (fun i σ H' => ∃ (v : Option V) (kvs : List (Key × V)) (m : Much), m = (told.take i).foldl muchStep ⟨[], 0, product, []⟩ ∧ σ = [some (.ref t), some (.int (m.prod : Nat)), some (.ref fa), some (.int (m.divs : Nat)), some (.ref da), v] ∧ Same H H' ∧ H' fa = some (.lst (natL m.found)) ∧ H' da = some (.dK kvs) ∧ Counts kvs m.sets ∧ kvs.length ≤ i) ?_ (fun i σ H' _ ⟨v, kvs, m, _, e, s, _⟩ => SqL.of (s _ _ ht)) ?_ ?_⟩
    · exact ⟨none, [], _, rfl, rfl, T2, same_new hda _ _ upd_same, upd_same, fun r => rfl, Nat.le_refl _⟩
    · rintro i x σ H' hi ⟨v, kvs, m, em, rfl, sH, hf, hd, hc, hk⟩
      obtain ⟨b, row, rfl, hrow, hb⟩ := ref_get hT hi
      have hb' := hb.keep (Keeps.same sH) fun _ z => z
      obtain ⟨xs, h1, h2, h3⟩ := row_at hb'
      have mem := List.mem_of_getElem? hrow
      have good := hdv row mem
      have il : i < told.length := (List.getElem?_eq_some_iff.mp hrow).1
      have lm : m.found.length ≤ 2 * i := by
        have := much_len (told.take i) ⟨[], 0, product, []⟩
        have l2 : ([] : List Nat).length = 0 := rfl
        have l3 := List.length_take_le i told
        rw [em]
        dsimp only at this
        omega
      have e1 : (told.take (i + 1)).foldl muchStep ⟨[], 0, product, []⟩ = muchStep m row := by
        rw [take_snoc hrow, List.foldl_append, ← em]
        rfl
      have st : ∀ {H2 a o}, Same H H2 → H a = none → Same H (upd H2 a o) := fun {H2 a o} s2 n u o e => by
        rw [upd_ne fun z => by rw [z, n] at e; cases e]
        exact s2 _ _ e
      refine ⟨_, rfl, b, xs, 0, .str (kindR row), rfl, rfl, SqT.of h1, h2, rfl, _, rfl, ite2 (fun e => ?_) fun e => ?_⟩
      · have ek := neE e
        refine ⟨_, kvs, m, ?_, rfl, sH, hf, hd, hc, Nat.le_succ_of_le hk⟩
        rw [e1, much_not ek]
      · have ek := neN e
        obtain ⟨l, r, ts, d, rfl⟩ := kind_set ek
        cases hb' with
        | set hbb hts =>
          rename_i sa
          refine ⟨_, rfl, da, rfl, .inl ⟨kvs, .inl hd⟩, _, rfl, b, _, 2, .str r, rfl, rfl, SqT.of hbb, rfl, _, DGet.k (k := .inr r) hd, ?_⟩
          rw [hc r]
          refine ⟨_, _, rfl, rfl, _, rfl, _, rfl, b, _, 2, .str r, rfl, rfl, SqT.of hbb, rfl, da, _, rfl, DPut.k (k := .inr r) hd (Nat.lt_of_le_of_lt hk (Nat.lt_of_lt_of_le il (Nat.le_trans hl (by decide)))), ?_⟩
          have kf : H' b = some (.tup [.str "set", .int (l : Nat), .str r, .ref sa, natV d]) := hbb
          have hc2 : Counts (putK kvs (.inr r) (.int (((getS m.sets r : Nat) : Int) + 1))) ((r, getS m.sets r + 1) :: m.sets) := counts_put hc r _
          have hk2 : (putK kvs (.inr r) (.int (((getS m.sets r : Nat) : Int) + 1))).length ≤ i + 1 := Nat.le_trans (length_putK _ _ _) (Nat.succ_le_succ hk)
          have g2 : valV (putK kvs (.inr r) (.int (((getS m.sets r : Nat) : Int) + 1))) (.inr r) = some (.int (((getS m.sets r : Nat) : Int) + 1)) := by
            rw [valV_put, if_pos rfl]
          generalize putK kvs (.inr r) (.int (((getS m.sets r : Nat) : Int) + 1)) = kv2 at hc2 hk2 g2 ⊢
          have nfd : fa ≠ da := fd
          have s2 : Same H (upd H' da (.dK kv2)) := st sH nDa
          have b2 := (hb.keep (Keeps.same s2) fun _ z => z)
          have b2t : (upd H' da (.dK kv2)) b = some (.tup [.str "set", .int (l : Nat), .str r, .ref sa, natV d]) := by
            rw [upd_ne (fun z => by rw [z, hd] at kf; cases kf)]
            exact kf
          refine ⟨fun σ' H3 => σ' = [some (.ref t), some (.int (m.prod : Nat)), some (.ref fa), some (.int (m.divs : Nat)), some (.ref da), some (.ref b)] ∧ Same H H3 ∧ H3 b = some (.tup [.str "set", .int (l : Nat), .str r, .ref sa, natV d]) ∧ H3 fa = some (.lst (natL (if getS m.sets r + 1 > 2 then m.found ++ [l] else m.found))) ∧ H3 da = some (.dK kv2), ?_, ?_⟩
          · have d2 : DGet (upd H' da (.dK kv2)) da (.str r) (some (.int (((getS m.sets r : Nat) : Int) + 1))) := by
              have := DGet.k (k := .inr r) (upd_same (H := H') (a := da) (o := .dK kv2))
              rw [g2] at this
              exact this
            have hf2 : (upd H' da (.dK kv2)) fa = some (.lst (natL m.found)) := by
              rw [upd_ne nfd]
              exact hf
            refine ⟨_, rfl, _, rfl, b, _, 2, .str r, rfl, rfl, SqT.of b2t, rfl, da, _, rfl, d2, _, _, rfl, rfl, _, rfl, ite2 (fun e => ?_) fun e => ?_⟩
            · have e3 : getS m.sets r + 1 > 2 := by
                have := of_decide_eq_true e
                omega
              refine ⟨_, rfl, .inl ⟨rfl, _, SqL.of hf2⟩, _, rfl, b, _, 1, .int (l : Nat), rfl, rfl, SqT.of b2t, rfl, fa, _, _, rfl, rfl, hf2, ?_, ?_⟩
              · rw [List.length_map]
                exact Nat.lt_of_le_of_lt (m := 4000) (by omega) (by decide)
              · refine ⟨rfl, st s2 hfa, ?_, ?_, ?_⟩
                · rw [upd_ne (fun z => by rw [z, hf2] at b2t; cases b2t)]
                  exact b2t
                · rw [upd_same, if_pos e3]
                  unfold natL
                  rw [List.map_append]
                  rfl
                · rw [upd_ne (fun z => nfd z.symm)]
                  exact upd_same
            · have e3 : ¬ getS m.sets r + 1 > 2 := fun z => e (decide_eq_true (by omega))
              refine ⟨rfl, s2, b2t, ?_, upd_same⟩
              rw [if_neg e3]
              exact hf2
          · rintro σ' H3 ⟨rfl, s3, b3, f3, d3⟩
            have lf1 : (if getS m.sets r + 1 > 2 then m.found ++ [l] else m.found).length ≤ 4001 := by
              split
              · rw [(List.length_append), List.length_singleton]
                omega
              · omega
            cases d with
            | none =>
              refine ⟨_, rfl, b, _, 4, .non, rfl, rfl, SqT.of b3, rfl, _, rfl, ite2 (fun e => by cases e) fun e => ?_⟩
              refine ⟨_, kv2, _, e1.symm, rfl, s3, f3, d3, hc2, hk2⟩
            | some d =>
              refine ⟨_, rfl, b, _, 4, .int (d : Nat), rfl, rfl, SqT.of b3, rfl, _, rfl, ite2 (fun e => ?_) fun e => absurd rfl e⟩
              have good' : divR (.set l r ts (some d)) := good
              unfold divR at good'
              obtain ⟨_, _, z | ⟨d', z, dl, dh⟩⟩ := good'
              · cases z
              cases z
              refine ⟨_, rfl, _, _, rfl, rfl, _, rfl, _, rfl, b, _, 4, .int (d : Nat), rfl, rfl, SqT.of b3, rfl, _, _, rfl, rfl, .inr ⟨by omega, by omega⟩, ?_⟩
              have em2 : (m.divs + 1 > 2 ∨ m.prod * d > 144) → muchStep m (.set l r ts (some d)) = ⟨(r, getS m.sets r + 1) :: m.sets, m.divs + 1, m.prod * d, (if getS m.sets r + 1 > 2 then m.found ++ [l] else m.found) ++ [l]⟩ := fun z => by
                unfold muchStep
                dsimp only
                rw [if_pos z]
              have em3 : ¬ (m.divs + 1 > 2 ∨ m.prod * d > 144) → muchStep m (.set l r ts (some d)) = ⟨(r, getS m.sets r + 1) :: m.sets, m.divs + 1, m.prod * d, (if getS m.sets r + 1 > 2 then m.found ++ [l] else m.found)⟩ := fun z => by
                unfold muchStep
                dsimp only
                rw [if_neg z]
              refine ⟨_, rfl, _, _, rfl, rfl, _, rfl, ite2 (fun e => ?_) fun e => ⟨_, rfl, _, _, rfl, rfl, _, rfl, ite2 (fun e2 => ?_) fun e2 => ?_⟩⟩
              · have hx : m.divs + 1 > 2 ∨ m.prod * d > 144 := by
                  have := of_decide_eq_true e
                  omega
                refine ⟨_, rfl, .inl ⟨rfl, _, SqL.of f3⟩, _, rfl, b, _, 1, .int (l : Nat), rfl, rfl, SqT.of b3, rfl, fa, _, _, rfl, rfl, f3, by rw [List.length_map]; exact Nat.lt_of_le_of_lt lf1 (by decide), _, kv2, _, e1.symm, by rw [em2 hx]; rfl, st s3 hfa, by rw [upd_same, em2 hx]; unfold natL; rw [List.map_append]; rfl, by rw [upd_ne (fun z => fd z.symm)]; exact d3, by rw [em2 hx]; exact hc2, hk2⟩
              · have hx : m.divs + 1 > 2 ∨ m.prod * d > 144 := by
                  have := of_decide_eq_true e2
                  omega
                refine ⟨_, rfl, .inl ⟨rfl, _, SqL.of f3⟩, _, rfl, b, _, 1, .int (l : Nat), rfl, rfl, SqT.of b3, rfl, fa, _, _, rfl, rfl, f3, by rw [List.length_map]; exact Nat.lt_of_le_of_lt lf1 (by decide), _, kv2, _, e1.symm, by rw [em2 hx]; rfl, st s3 hfa, by rw [upd_same, em2 hx]; unfold natL; rw [List.map_append]; rfl, by rw [upd_ne (fun z => fd z.symm)]; exact d3, by rw [em2 hx]; exact hc2, hk2⟩
              · have hx : ¬ (m.divs + 1 > 2 ∨ m.prod * d > 144) := fun z => by
                  rcases z with z | z
                  · exact e (decide_eq_true (by omega))
                  · exact e2 (decide_eq_true (by omega))
                exact ⟨_, kv2, _, e1.symm, by rw [em3 hx]; rfl, s3, by rw [em3 hx]; exact f3, d3, by rw [em3 hx]; exact hc2, hk2⟩
    · rintro σ H' ⟨v, kvs, m, em, rfl, sH, hf, hd, hc, hk⟩
      have full : told.take (refs.map V.ref).length = told := by
        rw [List.length_map, lT]
        exact List.take_length ..
      rw [full] at em
      refine ⟨_, rfl, q fa H' sH hfa ?_⟩
      rw [hf, em]
      rfl
end
end Pk
namespace L2
open PyProof.Rows PySem.Spec PySem
theorem pi_tupK {X : Cx} {tg l : Expr} {tl : TE} (K : PySem.W.Frag) (e : X.K = K) (hl : PE X l tl) : PI X tg l (iTup K tl) := by
  subst e
  exact pi_tup hl
theorem cr_anyK {X : Cx} (K : PySem.W.Frag) (e : X.K = K) (hc : X.calm = true) : CallR X (.builtin "any") (rAny K) := by
  subst e
  exact cr_any hc
theorem cr_allK {X : Cx} (K : PySem.W.Frag) (e : X.K = K) (hc : X.calm = true) : CallR X (.builtin "all") (rAll K) := by
  subst e
  exact cr_all hc
end L2
namespace Pk
open L2 PyProof.Rows PySem.Spec PySem
/-- the scope of the comprehension that a second statement returns -/
def lcScope : List Stmt → Scope
  | [_, .Return (some (.ListComp _ _ sc _)) _] => sc
  | _ => defScope sMoves
/-- a cut's or a shift's line and sum -/
def mvOf : Row → Option (Nat × List Term)
  | .cut l _ ts _ => some (l, ts)
  | .shift l ts _ _ => some (l, ts)
  | _ => none
def mvs (told : List Row) : List (Nat × List Term) := told.filterMap mvOf
def oddL (xs : List (Nat × List Term)) : List Nat := xs.filterMap fun x => if oddSum x.2 = true then some x.1 else none
theorem moves_two : ∀ told : List Row, movesM told = oddL (mvs told)
  | [] => rfl
  | r :: rs => by
    have ih := moves_two rs
    have one : ∀ (l : Nat) (ts : List Term) (xs : List (Nat × List Term)), oddL ((l, ts) :: xs) = if oddSum ts = true then l :: oddL xs else oddL xs := fun l ts xs => by
      unfold oddL
      rw [List.filterMap_cons]
      by_cases h : oddSum ts = true
      · rw [if_pos h, if_pos h]
      · rw [if_neg h, if_neg h]
    have two : ∀ (l : Nat) (ts : List Term) (r : Row), mvLine r = (if oddSum ts = true then some l else none) → movesM (r :: rs) = if oddSum ts = true then l :: movesM rs else movesM rs := fun l ts r e => by
      unfold movesM
      rw [List.filterMap_cons, e]
      by_cases h : oddSum ts = true
      · rw [if_pos h, if_pos h]
      · rw [if_neg h, if_neg h]
    cases r with
    | cut l x ts y =>
      rw [two l ts _ rfl, ih]
      exact (one l ts _).symm
    | shift l ts x y =>
      rw [two l ts _ rfl, ih]
      exact (one l ts _).symm
    | _ => exact ih
def MvAt (H : Hp) (p : Addr) (x : Nat × List Term) : Prop := ∃ sa, H p = some (.tup [.int (x.1 : Nat), .ref sa]) ∧ SumAt H sa x.2
theorem MvAt.keep {H H' : Hp} (k : ∀ b xs, H b = some (.tup xs) → H' b = some (.tup xs)) {p : Addr} {x : Nat × List Term} (h : MvAt H p x) : MvAt H' p x := by
  obtain ⟨sa, h1, h2⟩ := h
  exact ⟨sa, k _ _ h1, h2.keep (fr := fun _ => False) ⟨k, fun _ _ z => z.elim⟩⟩
theorem mvs_snoc {told : List Row} {i : Nat} {row : Row} (h : told[i]? = some row) : mvs (told.take (i + 1)) = mvs (told.take i) ++ (mvOf row).toList := by
  unfold mvs
  rw [take_snoc h, List.filterMap_append]
  cases e : mvOf row with
  | none => rw [List.filterMap_cons, e]; rfl
  | some x => rw [List.filterMap_cons, e]; rfl
theorem oddL_snoc {xs : List (Nat × List Term)} {i : Nat} {x : Nat × List Term} (h : xs[i]? = some x) : oddL (xs.take (i + 1)) = oddL (xs.take i) ++ (if oddSum x.2 = true then [x.1] else []) := by
  unfold oddL
  rw [take_snoc h, List.filterMap_append, List.filterMap_cons]
  by_cases e : oddSum x.2 = true
  · rw [if_pos e, if_pos e]
    rfl
  · rw [if_neg e, if_neg e]
    rfl
theorem oddL_len (xs : List (Nat × List Term)) : (oddL xs).length ≤ xs.length := List.length_filterMap_le _ _
theorem mvs_good {told : List Row} (h : wayDiv (told, true)) : ∀ x ∈ mvs told, GoodT x.2 := fun x hx => by
  unfold mvs at hx
  obtain ⟨row, hr, e⟩ := List.mem_filterMap.mp hx
  have g := h row hr
  cases row with
  | cut l a ts b =>
    cases e
    unfold divR at g
    exact g.2.1
  | shift l ts a b =>
    cases e
    unfold divR at g
    exact g.1
  | _ => cases e
theorem mvs_len (told : List Row) : (mvs told).length ≤ told.length := List.length_filterMap_le _ _
theorem inV_plain (o : Option Str) : inV (nameV o) PLAINV = decide (o ∈ PLAINL) := by
  cases o with
  | none => rfl
  | some s =>
    have q := inV_strs (x := s) (l := [("k" : Str), "cap", "low"])
    have e : inV (nameV (some s)) PLAINV = inV (.str s) (([("k" : Str), "cap", "low"]).map V.str) := rfl
    rw [e, q]
    unfold PLAINL
    by_cases h : s ∈ ([("k" : Str), "cap", "low"] : List Str)
    · rw [decide_eq_true h, decide_eq_true]
      simp only [List.mem_cons, List.not_mem_nil, Option.some.injEq, reduceCtorEq, false_or] at h ⊢
      exact h
    · rw [decide_eq_false h, decide_eq_false]
      simp only [List.mem_cons, List.not_mem_nil, Option.some.injEq, reduceCtorEq, false_or] at h ⊢
      exact h
theorem any_odd (ts : List Term) : (ts.map fun t => !decide (t.2 ∈ PLAINL)).any id = oddSum ts := by
  unfold oddSum
  rw [List.any_map]
  rfl
def spMoves : Sp := fun vs H Q _ => ∃ (t : Addr) (fr : Addr → Prop) (refs : List Addr) (told : List Row), vs = [.ref t] ∧ H t = some (.lst (refs.map V.ref)) ∧ RowsAt fr H refs told ∧ wayDiv (told, true) ∧ told.length ≤ 2000 ∧
  ∀ p H', Same H H' → H p = none → H' p = some (.lst (natL (movesM told))) → Q (.ref p) H'
section
variable {K : PySem.W.Frag} {P : Program} {w : World} {base : Heap} {mg : Str → Option Value}
theorem sc_moves_of : FnScope ["told", "found", "row", "line", "terms", "factor", "name"] ["told"] (defScope sMoves) := ⟨rfl, rfl, rfl, by decide +kernel, rfl, by decide +kernel, by decide +kernel⟩
theorem ok_moves_of {f : Addr} {fd : FuncData} (F : FunD K "moves_of" "moves_of" (defArgs sMoves) (defBody sMoves) (defScope sMoves) [] [] f fd) (mAny : mg "any" = none) {aN : Addr} (gPL : ∃ u, mg "PLAIN" = some u ∧ RelV (.ref aN) u) (tN : ∀ H, SqT K H aN PLAINV) : FnOk P w K mg base CX0 1 f fd ["told"] spMoves := by
  refine F.ok sc_moves_of (fun vs H Q E h => ?_) (fun cdv A outer s H vs Q E hr h => ?_)
  · obtain ⟨t, fr, refs, told, rfl, _⟩ := h
    rfl
  · obtain ⟨t, fr, refs, told, rfl, ht, hT, hdv, hl, q⟩ := h
    have lT := rows_len hT
    refine ⟨_, PSs.nox (pss_cons (by exact (ps_setLc (i := 1) (own := [("row", 2)]) (g := gName 2) rfl sc_moves_of.nd rfl rfl (sw_true rfl rfl rfl (by decide +kernel)) (pi_list (pv 0)) (blkOk_by (N := ["told", "found", "row", "line", "terms", "factor", "name"]) (sc := defScope sMoves) (by decide +kernel)) (fun _ _ _ _ _ => pg_name (i := 2) sc_moves_of.nd rfl (Or.inl rfl)) (fun _ _ _ _ _ => (pts_one (pt_cmpR (op_inK K rfl) (pe_ix (ix_tupK K rfl) (pv 2) pe_int (fun _ _ => rfl)) (pe_tup (pa_cons pe_str (pa_cons pe_str pa_nil))) rfl))) (fun _ _ _ _ _ => (pe_tup (pa_cons (pe_ix (ix_tupK K rfl) (pv 2) pe_int (fun _ _ => rfl)) (pa_cons (pe_ifExp (pt_cmpR op_eq (pe_ix (ix_tupK K rfl) (pv 2) pe_int (fun _ _ => rfl)) pe_str (nomark _)) (pe_ix (ix_tupK K rfl) (pv 2) pe_int (fun _ _ => rfl)) (pe_ix (ix_tupK K rfl) (pv 2) pe_int (fun _ _ => rfl))) pa_nil)))))) (pss_one (by exact (ps_ret (pe_lc (own := [("line", 3), ("terms", 4)]) rfl sc_moves_of.nd (pi_list (pv 1)) (blkOk_by (N := ["told", "found", "row", "line", "terms", "factor", "name"]) (sc := defScope sMoves) (by decide +kernel)) (fun _ _ _ _ _ => pg_tupK (n := 2) K rfl rfl (pgs_cons (pg_name (i := 3) sc_moves_of.nd rfl (Or.inl rfl)) (pgs_cons (pg_name (i := 4) sc_moves_of.nd rfl (Or.inl rfl)) pgs_nil))) (fun _ _ _ _ _ => (pts_one (pt_val (pe_callB (cr_anyK K rfl rfl) (by rfl) mAny PyProof.Rows.boot_any (pa_cons (pe_lc (own := [("factor", 5), ("name", 6)]) (tt := tYes) rfl sc_moves_of.nd (pi_tupK K rfl (pv 4)) (blkOk_by (N := ["told", "found", "row", "line", "terms", "factor", "name"]) (sc := relS (lcScope (defBody sMoves)) (defScope sMoves)) (by decide +kernel)) (fun _ _ _ _ _ => pg_tupK (n := 2) K rfl rfl (pgs_cons (pg_name (i := 5) sc_moves_of.nd rfl (Or.inl rfl)) (pgs_cons (pg_name (i := 6) sc_moves_of.nd rfl (Or.inl rfl)) pgs_nil))) (fun _ _ _ _ _ => pts_nil) (fun _ _ _ _ _ => (pe_cmpR (op_notInK K rfl) (pv 6) (C8.pe_gc (v := .ref aN) rfl gPL) rfl))) pa_nil))))) (fun _ _ _ _ _ => (pv 3))))))), ?_⟩
    refine ⟨_, rfl, t, rfl, ⟨_, SqL.of ht⟩, fun D hD => lc_list (K := K) (a := t) (xs := refs.map V.ref) (fun i H' => ∃ out, Same H H' ∧ H' D = some (.lst (out.map V.ref)) ∧ Paired (MvAt H') out (mvs (told.take i))) ⟨[], same_new hD, upd_same, .nil⟩ (fun i H' _ h => ?_) ?_ ?_⟩
    · obtain ⟨out, sm, _⟩ := h
      exact SqL.of (sm _ _ ht)
    · rintro i x H' hi ⟨out, sH, hD1, pr⟩
      obtain ⟨b, row, rfl, hrow, hb⟩ := ref_get hT hi
      have hb' := hb.keep (Keeps.same sH) fun _ z => z
      obtain ⟨xs, h1, h2, h3⟩ := row_at hb'
      have mem := List.mem_of_getElem? hrow
      have good := hdv row mem
      have il : i < told.length := (List.getElem?_eq_some_iff.mp hrow).1
      have fin : ∀ (H3 : Hp) (sa : Addr) (l : Nat) (ts : List Term) (p2 : Addr), Same H' H3 → H3 p2 = none → SumAt H3 sa ts → mvOf row = some (l, ts) → ∃ acc, (upd H3 p2 (.tup [.int (l : Nat), .ref sa])) D = some (.lst acc) ∧ acc.length < sizeLine ∧ ∃ out, Same H (upd (upd H3 p2 (.tup [.int (l : Nat), .ref sa])) D (.lst (acc ++ [V.ref p2]))) ∧ (upd (upd H3 p2 (.tup [.int (l : Nat), .ref sa])) D (.lst (acc ++ [V.ref p2]))) D = some (.lst (out.map V.ref)) ∧ Paired (MvAt (upd (upd H3 p2 (.tup [.int (l : Nat), .ref sa])) D (.lst (acc ++ [V.ref p2])))) out (mvs (told.take (i + 1))) := fun H3 sa l ts p2 s3 n2 hs em => by
        have s4 := s3.step (o := .tup [.int (l : Nat), .ref sa]) n2
        have dD := s4 _ _ hD1
        have keep : ∀ {acc : List V} (b xs), (upd H3 p2 (.tup [.int (l : Nat), .ref sa])) b = some (.tup xs) → (upd (upd H3 p2 (.tup [.int (l : Nat), .ref sa])) D (.lst acc)) b = some (.tup xs) := fun b xs e => by
          rw [upd_ne (fun z => by rw [z, dD] at e; cases e)]
          exact e
        refine ⟨_, dD, ?_, out ++ [p2], ?_, ?_, ?_⟩
        · have a := paired_sz pr
          have b := mvs_len (told.take i)
          have c := List.length_take_le i told
          rw [List.length_map]
          exact Nat.lt_of_le_of_lt (m := 2000) (by omega) (by decide)
        · exact fun u o e => by
            rw [upd_ne (fun z => by rw [z, hD] at e; cases e)]
            exact s4 _ _ (sH _ _ e)
        · rw [upd_same, List.map_append]
          rfl
        · rw [mvs_snoc hrow, em]
          refine paired_app (Paired.mapP pr fun _ _ e => (e.keep fun b xs z => s4 _ _ z).keep keep) (.cons ⟨sa, keep _ _ upd_same, ?_⟩ .nil)
          exact (hs.keep (fr := fun _ => False) ⟨fun b xs z => same_new n2 _ _ z, fun _ _ z => z.elim⟩).keep (fr := fun _ => False) ⟨keep, fun _ _ z => z.elim⟩
      refine ⟨rfl, ?_⟩
      refine ⟨_, rfl, b, xs, 0, .str (kindR row), rfl, rfl, SqT.of h1, h2, by show 2 ≤ sizeLine; decide, fun p hp => ⟨p, _, rfl, .inr (SqT.of upd_same), rfl, rfl, _, rfl, ite2 (fun e => ?_) fun e => ?_⟩⟩
      · have ek := inE (l := [("cut" : Str), "shift"]) e
        have sp := same_new (o := .tup [.str "cut", .str "shift"]) hp
        have hb2 := hb'.keep (Keeps.same sp) fun _ z => z
        cases hb2 with
        | cut e1 e2 =>
          rename_i sa l x y ts
          exact ⟨_, rfl, b, _, 1, .int (l : Nat), rfl, rfl, SqT.of e1, rfl, _, rfl, b, _, 0, .str "cut", rfl, rfl, SqT.of e1, rfl, rfl, _, rfl, ite2 (fun _ => ⟨_, rfl, b, _, 3, .ref sa, rfl, rfl, SqT.of e1, rfl, by show 2 ≤ sizeLine; decide, fun p2 hp2 => fin _ sa l ts p2 sp hp2 e2 rfl⟩) fun z => absurd rfl z⟩
        | shift e1 e2 =>
          rename_i sa l x y ts
          exact ⟨_, rfl, b, _, 1, .int (l : Nat), rfl, rfl, SqT.of e1, rfl, _, rfl, b, _, 0, .str "shift", rfl, rfl, SqT.of e1, rfl, rfl, _, rfl, ite2 (fun z => absurd (strE z) (by decide)) fun _ => ⟨_, rfl, b, _, 2, .ref sa, rfl, rfl, SqT.of e1, rfl, by show 2 ≤ sizeLine; decide, fun p2 hp2 => fin _ sa l ts p2 sp hp2 e2 rfl⟩⟩
        | set _ _ => exact absurd ek (by simp only [kindR]; decide)
        | join _ => exact absurd ek (by simp only [kindR]; decide)
        | mark _ => exact absurd ek (by simp only [kindR]; decide)
        | quit _ => exact absurd ek (by simp only [kindR]; decide)
        | ifr _ _ _ _ _ _ _ _ => exact absurd ek (by simp only [kindR]; decide)
      · have ek : ¬ kindR row ∈ [("cut" : Str), "shift"] := inN (l := [("cut" : Str), "shift"]) e
        have sp := same_new (o := .tup [.str "cut", .str "shift"]) hp
        have em : mvOf row = none := by
          cases row with
          | cut l x ts y => exact absurd (by simp only [kindR]; decide) ek
          | shift l ts x y => exact absurd (by simp only [kindR]; decide) ek
          | _ => rfl
        refine ⟨out, sH.trans sp, sp _ _ hD1, ?_⟩
        rw [mvs_snoc hrow, em]
        show Paired _ out (mvs (told.take i) ++ [])
        rw [List.append_nil]
        exact Paired.mapP pr fun _ _ e => e.keep fun b xs z => sp _ _ z
    · rintro H1 ⟨out, sH, hD1, pr⟩
      have full : told.take (refs.map V.ref).length = told := by
        rw [List.length_map, lT]
        exact List.take_length ..
      rw [full] at pr
      have lo := paired_sz pr
      have lm := mvs_len told
      have nD : H D = none := hD
      refine ⟨_, rfl, D, rfl, ⟨_, SqL.of hD1⟩, fun D2 hD2 => lc_list (K := K) (a := D) (xs := out.map V.ref) (fun i H' => Same H1 H' ∧ H' D2 = some (.lst (natL (oddL ((mvs told).take i))))) ⟨same_new hD2, upd_same⟩ (fun i H' _ h => SqL.of (h.1 _ _ hD1)) ?_ ?_⟩
      · rintro i x H' hi ⟨sm, hD3⟩
        obtain ⟨r, hr1, rfl⟩ := ref_item hi
        obtain ⟨y, hy, sa, g1, g2⟩ := paired_get pr hr1
        refine ⟨r, _, rfl, SqT.of (sm _ _ g1), rfl, _, _, rfl, _, _, rfl, rfl, rfl, ?_⟩
        obtain ⟨rs, k1, k2⟩ := g2
        have gd := (mvs_good hdv y (List.mem_of_getElem? hy)).few
        have lrs := paired_sz k2
        refine ⟨_, rfl, sa, rfl, ⟨_, SqT.of (sm _ _ k1)⟩, fun D3 hD5 => lc_tup (K := K) (a := sa) (xs := rs.map V.ref) (fun j H2 => Same H' H2 ∧ H2 D3 = some (.lst (((y.2.take j).map fun t => !decide (t.2 ∈ PLAINL)).map V.bl))) ⟨same_new hD5, upd_same⟩ (fun j H2 _ h => SqT.of (h.1 _ _ (sm _ _ k1))) ?_ ?_⟩
        · rintro j x H2 hj ⟨s2, hn⟩
          obtain ⟨r2, hr2, rfl⟩ := ref_item hj
          obtain ⟨g, hg, hg2⟩ := paired_get k2 hr2
          refine ⟨r2, _, rfl, SqT.of (s2 _ _ (sm _ _ hg2)), rfl, _, _, rfl, _, _, rfl, rfl, rfl, ?_⟩
          refine ⟨_, rfl, aN, _, rfl, .inr (tN _), flat_name g.2, rfl, _, hn, ?_, fun u o e => ?_, ?_⟩
          · rw [List.length_map, List.length_map]
            exact Nat.lt_of_le_of_lt (Nat.le_trans (List.length_take_le' _ _) gd) (by decide)
          · rw [upd_ne (fun z => by rw [z, hD5] at e; cases e)]
            exact s2 _ _ e
          · have ik : (if true = true then !inV (nameV g.2) PLAINV else inV (nameV g.2) PLAINV) = !decide (g.2 ∈ PLAINL) := by
              rw [if_pos rfl, inV_plain]
            rw [upd_same, map_snoc hg, List.map_append, ik]
            rfl
        · rintro H2 ⟨s2, hn⟩
          have e2 : y.2.take (rs.map V.ref).length = y.2 := by
            rw [List.length_map, lrs]
            exact List.take_length ..
          rw [e2] at hn
          have d4 := s2 _ _ hD3
          have li : (oddL ((mvs told).take i)).length ≤ 2000 := by
            have a := oddL_len ((mvs told).take i)
            have b := List.length_take_le' i (mvs told)
            omega
          have st : ∀ {acc}, Same H1 (upd H2 D2 (.lst acc)) := fun {acc} u o e => by
            rw [upd_ne (fun z => by rw [z, hD2] at e; cases e)]
            exact s2 _ _ (sm _ _ e)
          refine ⟨D3, _, rfl, SqL.of hn, _, rfl, ?_⟩
          rw [any_odd]
          cases ho : oddSum y.2 with
          | true =>
            refine ⟨_, rfl, _, d4, ?_, st, ?_⟩
            · rw [List.length_map]
              exact Nat.lt_of_le_of_lt li (by decide)
            · rw [upd_same, oddL_snoc hy, if_pos ho]
              unfold natL
              rw [List.map_append]
              rfl
          | false =>
            refine ⟨sm.trans s2, ?_⟩
            rw [oddL_snoc hy, if_neg (by rw [ho]; decide), List.append_nil]
            exact d4
      · rintro H2 ⟨sm, hD3⟩
        have f2 : (mvs told).take (out.map V.ref).length = mvs told := by
          rw [List.length_map, lo]
          exact List.take_length ..
        rw [f2, ← moves_two] at hD3
        exact q D2 H2 (sH.trans sm) (sH.back hD2) hD3
end
end Pk
namespace Pk
open L2 PyProof.Rows PySem.Spec PySem
abbrev sProduct : Stmt := inClass (top 67) 5
def spProduct (C : Addr) : Sp := fun vs H Q _ => ∃ (r : Addr) (sty : Str) (cap low root : V) (x1 x2 : Share), vs = [.ref r] ∧ RulesAt C H r sty cap low root x1 x2 ∧ Q (.int ((lineM x1).d * (lineM x2).d)) H
section
variable {K : PySem.W.Frag} {P : Program} {w : World} {base : Heap} {mg : Str → Option Value} {C fI : Addr}
theorem sc_Rules_product : FnScope ["self"] ["self"] (defScope sProduct) := ⟨rfl, rfl, rfl, by decide +kernel, rfl, by decide +kernel, by decide +kernel⟩
theorem ok_Rules_product {f : Addr} {fd : FuncData} (F : FunD K "product" "Rules.product" (defArgs sProduct) (defBody sProduct) (defScope sProduct) [] [] f fd) (RC : RulesC K mg C fI) : FnOk P w K mg base CX0 1 f fd ["self"] (spProduct C) := by
  refine F.ok sc_Rules_product (fun vs H Q E h => ?_) (fun cdv A outer s H vs Q E hr h => ?_)
  · obtain ⟨r, sty, cap, low, root, x1, x2, rfl, _⟩ := h
    rfl
  · obtain ⟨r, sty, cap, low, root, x1, x2, rfl, R, q⟩ := h
    obtain ⟨dx, os, p1, p2, cs, ls, h1, h2, h3, h4, h5, h6, h7, h8⟩ := R
    refine ⟨_, PSs.nox (pss_one (by exact (ps_ret (pe_op op_mul (pe_ix (ix_tupK K rfl) (pe_fld (pv 0) rfl) pe_int (fun _ _ => rfl)) (pe_ix (ix_tupK K rfl) (pe_fld (pv 0) rfl) pe_int (fun _ _ => rfl)))))), ?_⟩
    have d1 := (shareV_lt h2).2.2.2
    exact ⟨_, rfl, r, C, dx, _, .ref cs, rfl, h1, RC.cls, RC.no _ (by simp), rfl, cs, _, 2, _, rfl, rfl, SqT.of h7, rfl, _, rfl, r, C, dx, _, .ref ls, rfl, h1, RC.cls, RC.no _ (by simp), rfl, ls, _, 2, _, rfl, rfl, SqT.of h8, rfl, _, _, rfl, rfl, .inl ⟨by omega, by omega⟩, q⟩
theorem cut_one (xs : List V) : cutV xs (some 3) (some 4) = (xs.drop 3).take 1 := by
  unfold cutV
  rw [show (3 : Int) = ((3 : Nat) : Int) from rfl, show (4 : Int) = ((4 : Nat) : Int) from rfl, HT.sIx_nat, HT.sIx_nat]
  rcases Nat.lt_or_ge xs.length 4 with h | h
  · rcases Nat.lt_or_ge 3 xs.length with h3 | h3
    · omega
    · rw [List.drop_eq_nil_of_le h3, List.drop_eq_nil_of_le (by omega), List.take_nil, List.take_nil]
  · rw [Nat.min_eq_left (show 3 ≤ xs.length by omega), Nat.min_eq_left h]
theorem least_is : ∀ (ls : List Nat) (l : Nat), ls.foldl min l ∈ l :: ls ∧ ∀ y ∈ l :: ls, ls.foldl min l ≤ y
  | [], l => ⟨by simp, fun y h => by rw [List.mem_singleton.mp h]; exact Nat.le_refl _⟩
  | x :: ls, l => by
    obtain ⟨h1, h2⟩ := least_is ls (min l x)
    rw [List.foldl_cons]
    refine ⟨?_, fun y hy => ?_⟩
    · rcases List.mem_cons.mp h1 with e | e
      · rw [e]
        rcases Nat.le_total l x with h | h
        · rw [Nat.min_eq_left h]
          simp
        · rw [Nat.min_eq_right h]
          simp
      · simp [e]
    · have h0 := h2 _ (List.mem_cons_self ..); rcases List.mem_cons.mp hy with e | e
      · rw [e]
        exact Nat.le_trans h0 (Nat.min_le_left _ _)
      · rcases (List.mem_cons.mp e) with e | e
        · rw [e]
          exact Nat.le_trans h0 (Nat.min_le_right _ _)
        · exact h2 y (List.mem_cons_of_mem _ e)
theorem limits_few {rows : List Row} {taken : Bool} {product : Nat} (h : ¬ countM rows > 7) : limitsM rows taken product = (match wrongM rows taken product with
    | [] => .fine
    | l :: ls => .refused (ls.foldl min l)) := by
  unfold limitsM
  rw [if_neg h]
  all_goals (cases wrongM rows taken product <;> rfl)
def ErrTM (K : PySem.W.Frag) (what : Str) (many most : Nat) (H : Hp) (E : XK) : Prop := ∀ d H1, Same H H1 → H1 d = none → E (.ref (He.ga K "TooMany")) (some d) (upd H1 d (.xd [("most", .int (most : Nat)), ("many", .int (many : Nat)), ("what", .str what)]))
def spLimits (K : PySem.W.Frag) (C : Addr) : Sp := fun vs H Q E => ∃ (a r : Addr) (fr : Addr → Prop) (rr : List Addr) (rows : List Row) (sty : Str) (cap low root : V) (x1 x2 : Share), vs = [.ref a, .ref r] ∧ H a = some (.lst (rr.map V.ref)) ∧ RowsAt fr H rr rows ∧ divsM rows ∧ depthM rows < 42 ∧ sizeM rows ≤ 40 ∧ RulesAt C H r sty cap low root x1 x2 ∧
  (limitsM rows (decide (sty = "taken")) ((lineM x1).d * (lineM x2).d) = .fine → ∀ H', Same H H' → Q .non H') ∧
  (∀ n, limitsM rows (decide (sty = "taken")) ((lineM x1).d * (lineM x2).d) = .many n → ErrTM K "ifs" n 7 H E) ∧
  (∀ l, limitsM rows (decide (sty = "taken")) ((lineM x1).d * (lineM x2).d) = .refused l → Err1 K "Refused" "line" (.int (l : Nat)) H E)
theorem sc_need_limits : FnScope ["rows", "rules", "many", "wrong", "told", "goes_on", "line"] ["rows", "rules"] (defScope sLimits) := ⟨rfl, rfl, rfl, by decide +kernel, rfl, by decide +kernel, by decide +kernel⟩
theorem ok_need_limits {f fC fK fW fT fM fP : Addr} {fd fdC fdK fdW fdT fdM fdP : FuncData} (F : FunD K "need_limits" "need_limits" (defArgs sLimits) (defBody sLimits) (defScope sLimits) [] [] f fd) (RC : RulesC K mg C fI) (ER : Errs P K mg)
    (FC : FunD K "count_ifs" "count_ifs" (defArgs sCount) (defBody sCount) (defScope sCount) [] [] fC fdC) (GC : FnOk P w K mg base CX0 43 fC fdC ["rows"] (spCount 42)) (gC : mg "count_ifs" = some (.ref fC))
    (FK : FunD K "marks_of" "marks_of" (defArgs sMarks) (defBody sMarks) (defScope sMarks) [] [] fK fdK) (GK : FnOk P w K mg base CX0 43 fK fdK ["rows"] (spMarks 42)) (gK : mg "marks_of" = some (.ref fK))
    (FW : FunD K "ways_of" "ways_of" (defArgs sWays) (defBody sWays) (defScope sWays) [] [] fW fdW) (GW : FnOk P w K mg base CX0 85 fW fdW ["rows"] (spWays 42)) (gW : mg "ways_of" = some (.ref fW))
    (FT : FunD K "too_much" "too_much" (defArgs sMuch) (defBody sMuch) (defScope sMuch) [] [] fT fdT) (GT : FnOk P w K mg base CX0 1 fT fdT ["told", "product"] spMuch) (gT : mg "too_much" = some (.ref fT))
    (FM : FunD K "moves_of" "moves_of" (defArgs sMoves) (defBody sMoves) (defScope sMoves) [] [] fM fdM) (GM : FnOk P w K mg base CX0 1 fM fdM ["told"] spMoves) (gM : mg "moves_of" = some (.ref fM))
    (FP : FunD K "product" "Rules.product" (defArgs sProduct) (defBody sProduct) (defScope sProduct) [] [] fP fdP) (GP : FnOk P w K mg base CX0 1 fP fdP ["self"] (spProduct C)) (mP : Meth K C "product" fP)
    (mLen : mg "len" = none) (mInt : mg "int" = none) (mMin : mg "min" = none) (gMI : ∃ u, mg "MOST_IFS" = some u ∧ RelV (.int 7) u) (gMM : ∃ u, mg "MOST_MOVES" = some u ∧ RelV (.int 3) u) : FnOk P w K mg base (L2.CX P w) 86 f fd ["rows", "rules"] (spLimits K C) := by
  have bC : Binds K fdC ["rows"] [] := FC.bindsN fun _ _ _ _ _ _ us hl => match us, hl with | [_], _ => rfl
  have bK : Binds K fdK ["rows"] [] := FK.bindsN fun _ _ _ _ _ _ us hl => match us, hl with | [_], _ => rfl
  have bW : Binds K fdW ["rows"] [] := FW.bindsN fun _ _ _ _ _ _ us hl => match us, hl with | [_], _ => rfl
  have bT : Binds K fdT ["told", "product"] [] := FT.bindsN fun _ _ _ _ _ _ us hl => match us, hl with | [_, _], _ => rfl
  have bM : Binds K fdM ["told"] [] := FM.bindsN fun _ _ _ _ _ _ us hl => match us, hl with | [_], _ => rfl
  have bP : Binds K fdP ["self"] [] := FP.bindsN fun _ _ _ _ _ _ us hl => match us, hl with | [_], _ => rfl
  refine F.ok sc_need_limits (fun vs H Q E h => ?_) (fun cdv A outer s H vs Q E hr h => ?_)
  · obtain ⟨a, r, fr, rr, rows, sty, cap, low, root, x1, x2, rfl, _⟩ := h
    rfl
  · obtain ⟨a, r, fr, rr, rows, sty, cap, low, root, x1, x2, rfl, ha, hrr, hdv, hd, hs, R, q0, qm, qr⟩ := h
    obtain ⟨fdR, IRefused⟩ := ER.iRefused
    obtain ⟨fdM2, ITooMany⟩ := ER.iTooMany
    refine ⟨_, (pss_cons (by exact (ps_set (i := 2) sc_need_limits.nd rfl (Or.inl rfl) (pe_call GC (hr.mono (by omega)) rfl gC FC.kp bC .nil pass0 (pa_cons (pv 0) pa_nil)))) (pss_cons (by exact (ps_if (pt_cmpR op_gt (pv 2) (C8.pe_gc (v := .int 7) rfl gMI) (nomark _)) (pss_one (by exact (ps_raise rfl (takes_of rfl rfl rfl rfl) (pmk_sup3 ITooMany.sup (okITooMany ITooMany ER.mS ER.hP) (hr.mono (by decide)) (bITooMany ITooMany) pass0 rfl pe_str (pv 2) (C8.pe_gc (v := .int 7) rfl gMI))))) pss_nil)) (C8.pss_cut (by exact (ps_set (i := 3) sc_need_limits.nd rfl (Or.inl rfl) (pe_ifExp (pt_cmpR op_eq (pe_fld (pv 1) rfl) pe_str (nomark _)) (pe_call GK (hr.mono (by omega)) rfl gK FK.kp bK .nil pass0 (pa_cons (pv 0) pa_nil)) (pe_lst pa_nil)))) (pss_cons (by exact (ps_for (passes_of rfl) rfl (pi_list (pe_call GW (hr.mono (by omega)) rfl gW FW.kp bW .nil pass0 (pa_cons (pv 0) pa_nil))) (pg_tupK (n := 2) K rfl rfl (pgs_cons (pg_name (i := 4) sc_need_limits.nd rfl (Or.inl rfl)) (pgs_cons (pg_name (i := 5) sc_need_limits.nd rfl (Or.inl rfl)) pgs_nil))) (pss_one (by exact (ps_expr (pe_bm PySem.F.plainAttrs_list PySem.F.slot_list_extend PySem.F.type_list_extend mt_extend (pv 3) (pa_cons (pe_lst (StX.pa_starK K rfl (pe_call GT (hr.mono (by omega)) rfl gT FT.kp bT .nil pass0 (pa_cons (pv 4) (pa_cons (pe_meth0 (pv 1) RC.cls mP GP (hr.mono (by omega)) bP .nil pass0) pa_nil))) (StX.pa_starK K rfl (pe_slice (sl_listK K rfl) (pe_call GM (hr.mono (by omega)) rfl gM FM.kp bM .nil pass0 (pa_cons (pv 4) pa_nil)) (po_some (C8.pe_gc (v := .int 3) rfl gMM)) (po_some (pe_op op_add (C8.pe_gc (v := .int 3) rfl gMM) pe_int))) pa_nil))) pa_nil))))))) (pss_one (by exact (ps_if (pt_cmpR op_gt (pe_callB call_len_seq (by rfl) mLen PySem.boot_len (pa_cons (pv 3) pa_nil)) pe_int (nomark _)) (pss_one (by exact (ps_raise rfl (takes_of rfl rfl rfl rfl) (pmk_sup1 IRefused.sup (okIRefused IRefused ER.mS ER.hP) (hr.mono (by decide)) (bIRefused IRefused) pass0 rfl (pe_callB (cr_min rfl) (by rfl) mMin (by decide +kernel) (pa_cons (pe_lc (own := [("line", 6)]) (g := gName 6) (tt := tYes) rfl sc_need_limits.nd (pi_list (pv 3)) (blkOk_by (N := ["rows", "rules", "many", "wrong", "told", "goes_on", "line"]) (sc := defScope sLimits) (by decide +kernel)) (fun _ _ _ _ _ => pg_name (i := 6) sc_need_limits.nd rfl (Or.inl rfl)) (fun _ _ _ _ _ => pts_nil) (fun _ _ _ _ _ => (pe_callTy call_int1 (by rfl) mInt (by decide +kernel) (pa_cons (pv 6) pa_nil)))) pa_nil)))))) pss_nil))))))), ?_⟩
    refine ⟨_, rfl, a, fr, rr, rows, rfl, ha, hrr, hd, by omega, fun H1 s1 => ?_⟩
    refine ⟨_, rfl, _, _, rfl, rfl, _, rfl, ite2 (fun e => ?_) fun e => ?_⟩
    · have e1 : countM rows > 7 := by
        have := of_decide_eq_true e
        omega
      exact ⟨_, rfl, fun d hd => qm (countM rows) (by unfold limitsM; rw [if_pos e1]) d H1 s1 hd⟩
    · have e1 : ¬ countM rows > 7 := fun z => e (decide_eq_true (by omega))
      rw [limits_few e1] at q0 qm qr
      have R1 := R.same s1
      obtain ⟨dx, os, p1, p2, cs, ls, hR, _⟩ := id R1
      have hrr1 := (rows_own hrr).keep (Keeps.same s1) fun _ z => z
      refine ⟨fun σ H2 => ∃ wr, σ = [some (.ref a), some (.ref r), some (.int (countM rows : Nat)), some (.ref wr), none, none, none] ∧ Same H H2 ∧ H wr = none ∧ H2 wr = some (.lst (natL (if decide (sty = "taken") = true then marksM rows else []))), ?_, ?_⟩
      · refine ⟨_, rfl, r, C, dx, _, .str sty, rfl, hR, RC.cls, RC.no _ (by simp), rfl, rfl, _, rfl, ite2 (fun e2 => ?_) fun e2 => ?_⟩
        · refine ⟨_, rfl, a, _, rr, rows, rfl, s1 _ _ ha, hrr1, hd, by omega, fun wr H2 s2 n2 h2 => ⟨wr, rfl, s1.trans s2, s1.back n2, ?_⟩⟩
          rw [if_pos (decide_eq_true (strE e2))]
          exact h2
        · refine ⟨by show 0 ≤ sizeLine; decide, fun wr hwr => ⟨wr, rfl, s1.step hwr, s1.back hwr, ?_⟩⟩
          rw [if_neg (fun z => strN e2 (of_decide_eq_true z))]
          exact upd_same
      · rintro σ H2 ⟨wr, rfl, s2, nw, hw⟩
        have hrr2 := (rows_own hrr).keep (Keeps.same s2) fun _ z => z
        refine ⟨_, rfl, a, _, rr, rows, rfl, s2 _ _ ha, hrr2, hd, by omega, by omega, fun pw ps H3 s3 n3 h3 w3 => ?_⟩
        have w3 : Paired (WayAt (fun x => fr x ∧ H x ≠ none) (fun x => x ≠ wr) H3) ps (waysM rows) := Paired.mapP w3 fun _ _ e => e.same (Same.refl _) (fun _ z => z) fun x z e => by rw [e, hw] at z; cases z
        have lw := ways_few (rows := rows) (by omega)
        have lp := paired_sz w3
        have pww : pw ≠ wr := fun z => by rw [z, hw] at n3; cases n3
        generalize hw0 : (if decide (sty = "taken") = true then marksM rows else []) = w0 at hw
        have lw0 : w0.length ≤ 40 := by
          rw [← hw0]
          have := marksM_len rows
          split
          · omega
          · exact Nat.zero_le _
        have lone : ∀ w ∈ waysM rows, w.1.length ≤ 40 ∧ wayDiv w := fun w hw => by
          have := ways_told rows [([], true)] 0 (fun w hw => by rw [List.mem_singleton.mp hw]; exact Nat.le_refl _) w hw
          refine ⟨by omega, ways_div rows _ hdv (fun w hw => ?_) w hw⟩
          rw [List.mem_singleton.mp hw]
          exact fun x hx => absurd hx (List.not_mem_nil)
        have lmuch : ∀ (told : List Row) (p : Nat), (tooMuchM told p).length ≤ 2 * told.length := fun told p => by
          have := much_len told ⟨[], 0, p, []⟩
          have l2 : ([] : List Nat).length = 0 := rfl
          unfold tooMuchM
          dsimp only at this
          omega
        have lfl : ∀ i, (((waysM rows).take i).flatMap fun w => tooMuchM w.1 ((lineM x1).d * (lineM x2).d) ++ ((movesM w.1).drop 3).take 1).length ≤ 128 * 81 := fun i => by
          refine Nat.le_trans (flatMap_le _ 81 _ fun w hw => ?_) (Nat.mul_le_mul_right _ (Nat.le_trans (List.length_take_le' _ _) lw))
          have a := lmuch w.1 ((lineM x1).d * (lineM x2).d)
          have b := (lone w (List.mem_of_mem_take hw)).1
          have c : (((movesM w.1).drop 3).take 1).length ≤ 1 := List.length_take_le _ _
          rw [List.length_append]
          omega
        refine ⟨pw, rfl, ⟨_, SqL.of h3⟩, for_list (K := K) (a := pw) (xs := ps.map V.ref) (fun i σ H' => ∃ (v4 v5 : Option V), σ = [some (.ref a), some (.ref r), some (.int (countM rows : Nat)), some (.ref wr), v4, v5, none] ∧ Same H H' ∧ H' pw = some (.lst (ps.map V.ref)) ∧ H' wr = some (.lst (natL (w0 ++ ((waysM rows).take i).flatMap fun w => tooMuchM w.1 ((lineM x1).d * (lineM x2).d) ++ ((movesM w.1).drop 3).take 1))) ∧ Paired (WayAt (fun x => fr x ∧ H x ≠ none) (fun x => x ≠ wr) H') ps (waysM rows)) ?_ (fun i σ H' _ ⟨_, _, _, _, h, _⟩ => SqL.of h) ?_ ?_⟩
        · refine ⟨none, none, rfl, s2.trans s3, h3, ?_, w3⟩
          rw [List.take_zero, List.flatMap_nil, List.append_nil]
          exact s3 _ _ hw
        · rintro i x σ H' hi ⟨v4, v5, rfl, sH, hpw, hwr, wp⟩
          obtain ⟨r3, hr3, rfl⟩ := ref_item hi
          obtain ⟨y, hy, a3, refs3, g0, g1, g2, g3⟩ := paired_get wp hr3
          obtain ⟨ly, gy⟩ := lone y (List.mem_of_getElem? hy)
          have R' := R.same sH
          obtain ⟨dx', os', _, _, _, _, hR', _⟩ := id R'
          refine ⟨r3, _, rfl, SqT.of g1, rfl, _, _, rfl, _, _, rfl, rfl, ?_⟩
          refine ⟨_, rfl, .inl ⟨rfl, _, SqL.of hwr⟩, _, rfl, _, rfl, r, dx', _, rfl, hR', rfl, r, sty, cap, low, root, x1, x2, rfl, R', a3, _, refs3, y.1, (lineM x1).d * (lineM x2).d, rfl, g2, g3, gy, by omega, fun p5 H5 s5 n5 h5 => ⟨p5, _, rfl, .inr (SqL.of h5), ?_⟩⟩
          refine ⟨_, rfl, a3, _, refs3, y.1, rfl, s5 _ _ g2, g3.keep (Keeps.same s5) fun _ z => z, gy, by omega, fun p6 H6 s6 n6 h6 => ⟨_, rfl, _, _, rfl, rfl, _, rfl, p6, _, rfl, SqL.of h6, fun p7 hp7 => ⟨p7, _, rfl, .inr (SqL.of upd_same), ?_⟩⟩⟩
          have eL : natL (tooMuchM y.1 ((lineM x1).d * (lineM x2).d)) ++ (cutV (natL (movesM y.1)) (some 3) (some (3 + 1)) ++ []) = natL (tooMuchM y.1 ((lineM x1).d * (lineM x2).d) ++ ((movesM y.1).drop 3).take 1) := by
            rw [List.append_nil, show (3 + 1 : Int) = 4 from rfl, cut_one]
            unfold natL
            rw [List.map_append, List.map_take, List.map_drop]
          have s7 := s6.step (o := .lst (cutV (natL (movesM y.1)) (some 3) (some (3 + 1)))) hp7
          have ll : (tooMuchM y.1 ((lineM x1).d * (lineM x2).d) ++ ((movesM y.1).drop 3).take 1).length ≤ 81 := by
            have a := lmuch y.1 ((lineM x1).d * (lineM x2).d)
            have c : (((movesM y.1).drop 3).take 1).length ≤ 1 := List.length_take_le _ _
            rw [List.length_append]
            omega
          dsimp only [tNil]
          rw [eL]
          refine ⟨by rw [List.length_map]; exact Nat.le_trans ll (by decide), fun p8 hp8 => ?_⟩
          have s8 := s7.step (o := .lst (natL (tooMuchM y.1 ((lineM x1).d * (lineM x2).d) ++ ((movesM y.1).drop 3).take 1))) hp8
          have s9 := s5.trans s8
          refine ⟨wr, p8, _, _, rfl, rfl, s9 _ _ hwr, upd_same, ?_, ?_⟩
          · rw [List.length_map, List.length_map, List.length_append]
            have := lfl i
            exact Nat.le_trans (m := 40 + 128 * 81 + 81) (by omega) (by decide)
          · refine ⟨_, _, rfl, ?_, ?_, ?_, ?_⟩
            · exact fun u o e => by
                rw [upd_ne (fun z => by rw [z, nw] at e; cases e)]
                exact s9 _ _ (sH _ _ e)
            · rw [upd_ne pww]
              exact s9 _ _ hpw
            · rw [upd_same, flatMap_snoc hy, ← List.append_assoc]
              unfold natL
              rw [List.map_append (l₁ := w0 ++ _)]
            · exact Paired.mapP wp fun _ _ e => e.grow hwr s9 (fun z => z.2 nw) fun z => z rfl
        · rintro σ H4 ⟨v4, v5, rfl, sH, hpw, hwr, wp⟩
          have full : (waysM rows).take (ps.map V.ref).length = waysM rows := by
            rw [List.length_map, lp]
            exact List.take_length ..
          rw [full] at hwr
          have eW : w0 ++ ((waysM rows).flatMap fun w => tooMuchM w.1 ((lineM x1).d * (lineM x2).d) ++ ((movesM w.1).drop 3).take 1) = wrongM rows (decide (sty = "taken")) ((lineM x1).d * (lineM x2).d) := by
            rw [← hw0]
            rfl
          rw [eW] at hwr
          have lfw : (wrongM rows (decide (sty = "taken")) ((lineM x1).d * (lineM x2).d)).length ≤ 40 + 128 * 81 := by
            rw [← eW, List.length_append]
            have := lfl (waysM rows).length
            rw [List.take_length] at this
            omega
          generalize wrongM rows (decide (sty = "taken")) ((lineM x1).d * (lineM x2).d) = wr0 at hwr lfw q0 qm qr
          refine ⟨_, rfl, wr, _, rfl, .inl (SqL.of hwr), _, _, rfl, rfl, _, rfl, ite2 (fun e => ?_) fun e => ?_⟩
          · cases wr0 with
            | nil => cases e
            | cons l ls0 =>
              have le := least_is ls0 l
              generalize hm : ls0.foldl min l = least at le qr
              refine ⟨_, rfl, wr, rfl, ⟨_, SqL.of hwr⟩, fun D hD => lc_list (K := K) (a := wr) (xs := natL (l :: ls0)) (fun i H' => Same H4 H' ∧ H' D = some (.lst (natL ((l :: ls0).take i)))) ⟨same_new hD, upd_same⟩ (fun i H' _ h => SqL.of (h.1 _ _ hwr)) ?_ ?_⟩
              · rintro i x H' hi ⟨sm, hD1⟩
                rw [List.getElem?_map] at hi
                cases hg : (l :: ls0)[i]? with
                | none => rw [hg] at hi; cases hi
                | some z =>
                  rw [hg] at hi
                  cases hi
                  refine ⟨rfl, ?_⟩
                  refine ⟨_, rfl, .inl ⟨_, rfl, _, hD1, ?_, fun u o e => ?_, ?_⟩⟩
                  · rw [List.length_map]
                    exact Nat.lt_of_le_of_lt (Nat.le_trans (List.length_take_le' _ _) lfw) (by decide)
                  · rw [upd_ne (fun z => by rw [z, hD] at e; cases e)]
                    exact sm _ _ e
                  · rw [upd_same, take_snoc hg]
                    unfold natL
                    rw [List.map_append]
                    rfl
              · rintro H5 ⟨sm, hD1⟩
                have f2 : (l :: ls0).take (natL (l :: ls0)).length = l :: ls0 := by
                  rw [List.length_map]
                  exact List.take_length ..
                rw [f2] at hD1
                have e3 : natL (l :: ls0) = (((l :: ls0).map fun n : Nat => (n : Int)).map V.int) := by
                  unfold natL
                  rw [List.map_map]
                  rfl
                rw [e3] at hD1
                refine ⟨D, _, rfl, SqL.of hD1, by rw [List.length_map, List.length_cons]; omega, fun m h1 h2 d hd => ?_⟩
                obtain ⟨m', hm', rfl⟩ := List.mem_map.mp h1
                have a1 := le.2 m' hm'
                have a2 := h2 _ (List.mem_map.mpr ⟨least, le.1, rfl⟩)
                have e4 : m' = least := by omega
                rw [e4]
                exact qr least (by rw [← hm]) d H5 (sH.trans sm) hd
          · cases wr0 with
            | nil => exact q0 rfl H4 sH
            | cons l ls0 => exact absurd (decide_eq_true (by rw [List.length_map, List.length_cons]; omega)) e
end
end Pk
namespace PySem.W
open PyProof.Rows PySem.Spec PySem
section
variable {prog : Program} {w : World} {A : Around} {E : Value → Shared → Prop} {s : Shared} {K : Frag} {x C f L : Addr} {h₀ : Heap} {m : Str → Option Value} {ox : Obj} {od : Option Obj} {b tb : Value}
/-- x.__ne__(b) by object's own, where the class has an __eq__ -/
theorem own_ne {Q : Option Value → Shared → Prop} (hu : A.units + 1 < cLine) (X : K.In s.heap) (I : InstAt s.heap x ox C od) (hne : findIn K (.ref C) "__ne__" = some (some (.builtin "object.__ne__"))) (hob : subIn K (.ref C) (.type "object") = some true)
    (hs : findIn K (.ref C) "__eq__" = some (some (.ref f))) (hf : isFn K (.ref f) = true) (h : wpAny (model prog w) A.in1 (call (.ref f) [.ref x, b]) (fun v s' => ∃ t, v = .bool t ∧ Q (some (.bool !t)) s') E s) : wpAny (model prog w) A (tryCompare (.ref x) "__ne__" b) Q E s := by
  have l0 := I.type (M := model prog w)
  have isO : Looks (model prog w) s.heap (isInstance (.ref x) (.type "object")) true := l0.andThen (looks_subIn X hob)
  have body : wpAny (model prog w) A.in1 (Builtin.«object.__ne__» ⟨[.ref x, b], []⟩) (fun fin s' => match fin with
      | .done (.ret (.bool t)) => Q (some (.bool t)) s'
      | _ => False) E s := by
    unfold Builtin.«object.__ne__»; refine wpAny_bind (wpAny_of_eq (a := ((Value.ref x : Value), [b])) (by first | rfl | (simp only [slotArgs]; rfl)) ?_)
    refine wpAny_bind (wpAny_cRoomFor (by exact hu) ?_)
    refine wpAny_bind (ifBound_K X I hs hf (wpAny_mono h (fun v s' hv => ?_) fun _ _ e => e)); obtain ⟨t, rfl, q⟩ := hv
    exact wpAny_bind (wpAny_truthy_bool (wpAny_pure q))
  have ask : wpAny (model prog w) A (callSpecialIfBound? (.ref x) "__ne__" [b]) (fun r s' => ∃ t, r = some (.bool t) ∧ Q (some (.bool t)) s') E s := by
    simp only [callSpecialIfBound?, bindSpecialIfBound?]; refine wpAny_holding (wpAny_bind (wpAny_bind (wpAny_bind (l0.here ((looks_findIn X hne).here ?_)))))
    simp only [PySem.F.cmp_object.ne.bind]
    refine wpAny_bind (wpAny_askSetting (wpAny_ite ?_)); have fin : wpAny (model prog w) A (call (.builtin "object.__ne__") ([.ref x] ++ [b]) >>= fun v => pure (some v)) (fun r s' => ∃ t, r = some (.bool t) ∧ Q (some (.bool t)) s') E s := by
      refine wpAny_bind (wpAny_call (codeAny_call_builtin PySem.F.cmp_object.ne.plain PySem.F.cmpEntry_ne (check_slot PySem.F.cmpKind_ne PySem.F.cmpSplit_ne isO (PySem.F.cmpArgs_ne _ _) (wpAny_mono body (fun fn s' q => ?_) fun _ _ e => e))))
      cases fn with
      | done fl =>
        cases fl with
        | ret v =>
          cases v with
          | bool t => exact wpAny_pure ⟨t, rfl, q⟩
          | _ => exact q.elim
        | _ => exact q.elim
      | again _ => exact q.elim
    split
    · exact wpAny_bind <| wpAny_pure <| wpAny_pure fin
    · exact wpAny_tryCatch <| wpAny_bind <| wpAny_pure <| wpAny_pure fin
  unfold tryCompare
  refine wpAny_bind (wpAny_mono ask (fun r s' z => ?_) fun _ _ e => e)
  obtain ⟨t, rfl, q⟩ := z
  exact wpAny_pure q
/-- x != b by that road -/
theorem rich_ne {Q : Value → Shared → Prop} (hu : A.units + 1 < cLine) (F : Fr h₀ L s.heap m) (X₀ : K.In h₀) (I : InstAt s.heap x ox C od) (hb : Looks (model prog w) s.heap (typeOf b) tb) (hn : notFirst K C tb = true)
    (hne : findIn K (.ref C) "__ne__" = some (some (.builtin "object.__ne__"))) (hob : subIn K (.ref C) (.type "object") = some true) (hs : findIn K (.ref C) "__eq__" = some (some (.ref f))) (hf : isFn K (.ref f) = true)
    (h : wpAny (model prog w) A.in1 (call (.ref f) [.ref x, b]) (fun v s' => ∃ t, v = .bool t ∧ Q (.bool !t) s') E s) : wpAny (model prog w) A (richCompare .NotEq (.ref x) b) Q E s := by
  have X := X₀.keeps F.keep
  have one : wpAny (model prog w) A (tryCompare (.ref x) "__ne__" b) (fun r s' => ∃ t, r = some (.bool t) ∧ Q (.bool t) s') E s :=
    own_ne hu X I hne hob hs hf (wpAny_mono h (fun v s' z => by
      obtain ⟨t, e, q⟩ := z
      exact ⟨t, e, !t, rfl, q⟩) fun _ _ e => e)
  unfold richCompare
  simp only [cmpInfo_NotEq, oneThing_ref]
  refine wpAny_holding (wpAny_bind (wpAny_cRoomFor (Nat.lt_of_succ_lt hu) (wpAny_bind (I.type.here (wpAny_bind (hb.here ?_))))))
  split
  · rename_i q
    have e : (subIn K tb (.ref C) = some false) := by
      rcases (Bool.or_eq_true_iff.mp hn) with e | e
      · rw [beq_iff_eq.mp e] at q
        simp at q
      · exact beq_iff_eq.mp e
    refine wpAny_bind ((looks_subIn X e).here ?_); simp only [Bool.false_eq_true, if_false]
    refine wpAny_bind (wpAny_mono one (fun r s' z => ?_) fun _ _ e => e); obtain ⟨t, rfl, hq⟩ := z
    exact wpAny_pure hq
  · refine wpAny_bind (wpAny_pure ?_); simp only [Bool.false_eq_true, if_false]
    refine wpAny_bind (wpAny_mono one (fun r s' z => ?_) fun _ _ e => e); obtain ⟨t, rfl, hq⟩ := z
    exact wpAny_pure hq
end
end PySem.W
namespace L2
open PyProof.Rows PySem.Spec PySem
/-! ### x == y, x != y, x an instance of a plain class with its own __eq__, y of any known type: what __eq__ answers -/
structure EqC (K : PySem.W.Frag) (C f : Addr) : Prop where
  eq : PySem.W.findIn K (.ref C) "__eq__" = some (some (.ref f))
  fn : (PySem.W.isFn K (.ref f)) = true
  ne : PySem.W.findIn K (.ref C) "__ne__" = some (some (.builtin "object.__ne__"))
  ob : PySem.W.subIn K (.ref C) (.type "object") = some true
def rEqI (K : PySem.W.Frag) (C : Addr) (sp : Sp) : R2 := fun x y H Q => ∃ (a dx : Addr) (fs : List (Str × V)) (t : Value), x = .ref a ∧ H a = some (.ins C dx fs) ∧ TyX K H y t ∧ PySem.W.notFirst K C t = true ∧ sp [.ref a, y] H (fun v H' => ∃ b, v = .bl b ∧ Q (.bl b) H') E0
def rNeI (K : PySem.W.Frag) (C : Addr) (sp : Sp) : R2 := fun x y H Q => ∃ (a dx : Addr) (fs : List (Str × V)) (t : Value), x = .ref a ∧ H a = some (.ins C dx fs) ∧ TyX K H y t ∧ PySem.W.notFirst K C t = true ∧ sp [.ref a, y] H (fun v H' => ∃ b, v = .bl b ∧ Q (.bl !b) H') E0
section
variable {X : Cx} {n : Nat} {C f : Addr} {fd : FuncData} {ps : List Str} {sp : Sp}
theorem run_own {A : Around} {pins : List (Addr × Obj)} {σ : St} {H : Hp} {s : Shared} {a : Addr} {y : V} {u : Value} {R : Value → Shared → Prop} {Q : VK} (F : FnOk X.prog X.w X.K X.mg X.base CX0 n f fd ps sp) (hb : Binds X.K fd ps []) (hr : Room n A) (fr : A.frames = X.A.frames)
    (I : Inv X pins σ H s) (ry : RelV y u) (h : sp [.ref a, y] H Q E0) (out : ∀ v H' w s', Inv X pins σ H' s' → RelV v w → Q v H' → R w s') : wpAny (model X.prog X.w) A (call (.ref f) [.ref a, u]) R X.xe s := by
  have ev := I.env0
  have e0 : Env0 X.prog X.w X.K X.mg X.base A X.stack s H := ⟨fr.trans ev.frames, ev.mod, ev.bs, ev.bsz, ev.funs, ev.frf, ev.hok, ev.bare⟩
  have rel : Vals [V.ref a, y] [Value.ref a, u] := .cons rfl (.cons ry .nil)
  have hl := F.len _ _ _ _ h
  have bt := hb s [.ref a, u] I.kIn (by simpa using hl)
  rw [List.append_nil] at bt
  refine wpAny_call (codeAny_mono (F.run A X.stack s H ⟨[.ref a, u], []⟩ [.ref a, u] [.ref a, y] Q E0 hr e0 bt rel h) fun r s' o => ?_)
  cases r with
  | error _ => exact o.elim
  | ok fl =>
    cases fl with
    | ret w =>
      obtain ⟨v, H', I', rv, q⟩ := I.after o
      exact out v H' w s' I' rv q
    | next => exact o.elim
    | brk => exact o.elim
    | cont => exact o.elim
theorem op_eqI (K : PySem.W.Frag) (eK : X.K = K) (EC : EqC K C f) (F : FnOk X.prog X.w X.K X.mg X.base CX0 n f fd ps sp) (hb : Binds X.K fd ps []) (hr : Room n X.A) : OpR X (compareOp .Eq) (rEqI K C sp) := by
  subst eK
  intro pins s σ H x y v u Q I rx ry h; obtain ⟨a, dx, fs, t, rfl, ha, ty, hn, q⟩ := h
  cases rx
  obtain ⟨mA, J, _⟩ := ins_get I.hok ha; obtain ⟨od, J, _⟩ := J.look
  obtain ⟨m, hF⟩ := I.fr
  obtain ⟨P, Z, p, _⟩ := kit_of I ry ty
  refine PySem.W.cmp_K (op := .Eq) hr.units0 hF I.ok.mod.kin J (Z.ty _ _ I.kIn p) hn EC.eq EC.fn ?_
  refine run_own F hb hr rfl I ry q fun v H' w s' I' rv z => ?_
  obtain ⟨b, rfl, q2⟩ := z
  cases rv
  exact ⟨.bl b, H', I', rfl, q2⟩
theorem op_neI (K : PySem.W.Frag) (eK : X.K = K) (EC : EqC K C f) (F : FnOk X.prog X.w X.K X.mg X.base CX0 n f fd ps sp) (hb : Binds X.K fd ps []) (hr : Room (n + 1) X.A) : OpR X (compareOp .NotEq) (rNeI K C sp) := by
  subst eK
  intro pins s σ H x y v u Q I rx ry h; obtain ⟨a, dx, fs, t, rfl, ha, ty, hn, q⟩ := h
  cases rx
  obtain ⟨mA, J, _⟩ := ins_get I.hok ha; obtain ⟨od, J, _⟩ := J.look
  obtain ⟨m, hF⟩ := I.fr
  obtain ⟨P, Z, p, _⟩ := kit_of I ry ty
  refine PySem.W.rich_ne (by have := hr.units; omega) hF I.ok.mod.kin J (Z.ty _ _ I.kIn p) hn EC.ne EC.ob EC.eq EC.fn ?_
  refine run_own (A := X.A.in1) F hb hr.in1 rfl I ry q fun v H' w s' I' rv z => ?_
  obtain ⟨b, rfl, q2⟩ := z
  cases rv
  exact ⟨b, rfl, .bl !b, H', I', rfl, q2⟩
end
end L2
namespace L2
open PyProof.Rows PySem.Spec PySem
/-! ### min(xs, default=d), xs a list of ints -/
theorem ints_read {h : Heap} : ∀ {us : List Value} {ns : List Int}, Vals (ns.map V.int) us → ReadsAll h us (ns.map PyData.int) []
  | _, [], .nil => .nil
  | _, n :: ns, .cons r rs => by
    obtain ⟨t, rfl⟩ := r
    exact .cons (.int n t) (ints_read rs)
theorem min_fold : ∀ (ns : List Int) (n : Int), (ns.foldl min n = n ∨ ns.foldl min n ∈ ns) ∧ ns.foldl min n ≤ n ∧ ∀ y ∈ ns, ns.foldl min n ≤ y
  | [], n => ⟨.inl rfl, Int.le_refl _, fun _ h => by cases h⟩
  | k :: ns, n => by
    obtain ⟨h1, h2, h3⟩ := min_fold ns (min n k)
    rw [List.foldl_cons]
    have a1 : min n k ≤ n := Int.min_le_left n k
    have a2 : min n k ≤ k := Int.min_le_right n k
    refine ⟨?_, Int.le_trans h2 a1, fun y hy => ?_⟩
    · rcases h1 with e | e
      · rw [e]
        rcases Int.le_total n k with z | z
        · exact .inl (Int.min_eq_left z)
        · exact .inr (by rw [Int.min_eq_right z]; simp)
      · exact .inr (List.mem_cons_of_mem _ e)
    · rcases List.mem_cons.mp hy with e | e
      · rw [e]
        exact Int.le_trans h2 a2
      · exact h3 y e
def rMinD (K : PySem.W.Frag) : List V → List V → Hp → VK → Prop := fun vs zs H Q => ∃ (a : Addr) (ns : List Int) (d : V), vs = [.ref a] ∧ zs = [d] ∧ SqL K H a (ns.map V.int) ∧ (ns = [] → Q d H) ∧ ∀ m, m ∈ ns → (∀ y ∈ ns, m ≤ y) → Q (.int m) H
theorem crk_minD {X : Cx} (K : PySem.W.Frag) (eK : X.K = K) (hc : X.calm = true) (hu : X.A.units + 1 < cLine) : CallRK X (.builtin "min") ["default"] (rMinD K) := by
  subst eK
  intro pins s σ H vs zs us ws Q I r rz h; obtain ⟨a, ns, d, rfl, rfl, hs, q0, q1⟩ := h
  obtain ⟨its, rv, hl, _⟩ := I.list hs; rw [Vals.ref1 r]
  cases rz with
  | cons rd rn =>
    cases rn
    rename_i u
    have al : PySem.W.AlikeAll (ns.map PyData.int) := ⟨fun x hx y hy => by
      obtain ⟨i, _, rfl⟩ := List.mem_map.mp hx
      obtain ⟨j, _, rfl⟩ := List.mem_map.mp hy
      simp [PySem.W.alike], fun x hx => by
      obtain ⟨i, _, rfl⟩ := List.mem_map.mp hx
      intro z
      cases z⟩
    show wpAny _ _ (call (.builtin "min") [.ref a] [(Str.ofString "default", u)]) _ _ _
    refine PySem.W.min_list_default (I.ok.hd hc) hl.isList (ints_read rv) al (by rw [PySem.W.depth_ints]; exact hu) (fun e h' tk hk => ?_) fun y ys i v h' tk bs e hv hr hk => ?_
    · have e2 : ns = [] := List.map_eq_nil_iff.mp e
      exact ⟨d, H, I.kept hk, rd, q0 e2⟩
    · cases ns with
      | nil => cases e
      | cons n ns =>
        rw [List.map_cons] at e
        injection e with e1 e2
        subst e1 e2
        rw [PySem.W.minD_ints] at hr
        obtain ⟨m1, m2, m3⟩ := min_fold ns n
        cases hr with
        | int _ t => exact ⟨.int _, H, I.kept hk, ⟨t, rfl⟩, q1 _ (by rcases m1 with z | z <;> simp [z]) fun y hy => (List.mem_cons.mp hy).elim (fun z => by rw [z]; exact m2) (m3 y)⟩
end L2
namespace Pk
open L2 PyProof.Rows PySem.Spec PySem
abbrev sEqR : Stmt := inClass (top 67) 9
/-- what is compared of two rules -/
structure RK where
  sty : Str
  cap : Str
  low : Str
  root : Bool
deriving DecidableEq
/-- at r: rules of these texts -/
def RulesK (C : Addr) (H : Hp) (r : Addr) (k : RK) : Prop := ∃ x1 x2, RulesAt C H r k.sty (.str k.cap) (.str k.low) (.bl k.root) x1 x2
structure InsIs (K : PySem.W.Frag) (C : Addr) : Prop where
  ha : (PySem.W.findIn K (.ref C) "__class__") = some (some (.builtin "object.__class__"))
  hn : (PySem.W.specialIn K (.builtin "object.__class__") "__get__") = some (some (.builtin "getset_descriptor.__get__"))
  ht : (PySem.W.takesIn K (.builtin "object.__class__")) = some true
  hm : (PySem.W.mroIn K C (.type "object")) = some true
  self : PySem.W.kitOne K (.ref C) (.ref C) = some true
  tup : PySem.W.kitOne K (.type "tuple") (.ref C) = some false
def rkD (k : RK) : PyData := .tuple [.str k.sty, .str k.cap, .str k.low, .bool k.root]
def spEqR (K : PySem.W.Frag) (C : Addr) : Sp := fun vs H Q _ => ∃ (r : Addr) (k : RK) (y : V), vs = [.ref r, y] ∧ RulesK C H r k ∧
  ((∃ a xs, y = .ref a ∧ H a = some (.tup xs) ∧ Q (.bl false) H) ∨ ∃ r2 k2, y = .ref r2 ∧ RulesK C H r2 k2 ∧ (rkD k).canLay0 = true ∧ (rkD k2).canLay0 = true ∧ ∀ H', Same H H' → Q (.bl (decide (k = k2))) H')
theorem rk_eqv (a b : RK) : PyData.eqv (rkD a) (rkD b) = decide (a = b) := by
  obtain ⟨a1, a2, a3, a4⟩ := a
  obtain ⟨b1, b2, b3, b4⟩ := b
  simp only [rkD, PyData.eqv, PyData.eqvAll, Bool.and_true]
  by_cases h : (RK.mk a1 a2 a3 a4) = RK.mk b1 b2 b3 b4
  · rw [decide_eq_true h]
    cases h
    simp
  · rw [decide_eq_false h]
    simp only [RK.mk.injEq, not_and] at h
    simp only [Bool.and_eq_false_iff, beq_eq_false_iff_ne, ne_eq]
    by_cases h1 : a1 = b1
    · by_cases h2 : a2 = b2
      · by_cases h3 : a3 = b3
        · exact .inr (.inr (.inr (h h1 h2 h3)))
        · exact .inr (.inr (.inl h3))
      · exact .inr (.inl h2)
    · exact .inl h1
theorem rk_shaped {k : RK} (h : (rkD k).canLay0 = true) : SeqAt.shaped (rkD k) = true := by
  have d : (rkD k).depth ≤ 64 := by
    simp [rkD, PyData.depth, PyData.depthAll]
  exact Bool.and_eq_true_iff.mpr ⟨h, decide_eq_true d⟩
section
variable {K : PySem.W.Frag} {P : Program} {w : World} {base : Heap} {mg : Str → Option Value} {C fI : Addr}
theorem sc_Rules___eq__ : FnScope ["self", "other", "one"] ["self", "other"] (defScope sEqR) := ⟨rfl, rfl, rfl, by decide +kernel, rfl, by decide +kernel, by decide +kernel⟩
theorem ok_Rules_eq {f : Addr} {fd : FuncData} (F : FunD K "__eq__" "Rules.__eq__" (defArgs sEqR) (defBody sEqR) (defScope sEqR) [] [] f fd) (RC : RulesC K mg C fI) (II : InsIs K C) (mIsi : mg "isinstance" = none) : FnOk P w K mg base CX0 1 f fd ["self", "other"] (spEqR K C) := by
  refine F.ok sc_Rules___eq__ (fun vs H Q E h => ?_) (fun cdv A outer s H vs Q E hr h => ?_)
  · obtain ⟨r, k, y, rfl, _⟩ := h
    rfl
  · obtain ⟨r, k, y, rfl, ⟨x1, x2, R⟩, hy⟩ := h
    refine ⟨_, PSs.nox (pss_cons (by exact (ps_if (pt_not (pt_val (pe_callB call_isi (by rfl) mIsi PyProof.Rows.boot_isinstance (pa_cons (pv 1) (pa_cons (pe_glob (v := .ref C) (by rfl) RC.g rfl) pa_nil))))) (pss_one (by exact (ps_ret pe_bl))) pss_nil)) (pss_cons (by exact (ps_set (i := 2) sc_Rules___eq__.nd rfl (Or.inl rfl) (pe_tup (pa_cons (pe_fld (pv 0) rfl) (pa_cons (pe_fld (pv 0) rfl) (pa_cons (pe_fld (pv 0) rfl) (pa_cons (pe_fld (pv 0) rfl) pa_nil))))))) (pss_one (by exact (ps_ret (pe_cmpR (op_eqDK K rfl (Room.units hr)) (pv 2) (pe_tup (pa_cons (pe_fld (pv 1) rfl) (pa_cons (pe_fld (pv 1) rfl) (pa_cons (pe_fld (pv 1) rfl) (pa_cons (pe_fld (pv 1) rfl) pa_nil))))) (nomark _))))))), ?_⟩
    rcases hy with ⟨a, xs, rfl, ha, q⟩ | ⟨r2, k2, rfl, ⟨y1, y2, R2⟩, o1, o2, q⟩
    · refine ⟨_, rfl, .ref a, _, .type "tuple", _, _, rfl, .own C, .base (.tup ha), II.tup, _, rfl, ?_⟩
      exact q
    · obtain ⟨dx, os, p1, p2, cs, ls, h1, _⟩ := R
      obtain ⟨dx2, os2, p3, p4, cs2, ls2, h2, _⟩ := R2
      refine ⟨_, rfl, .ref r2, _, .ref C, _, _, rfl, .own C, .base (.ins h2 RC.cls II.ha II.hn II.ht II.hm), II.self, _, rfl, ?_⟩
      refine ⟨_, rfl, r, C, dx, _, .str k.sty, rfl, h1, RC.cls, RC.no _ (by simp), rfl, _, rfl, r, C, dx, _, .str k.cap, rfl, h1, RC.cls, RC.no _ (by simp), rfl, _, rfl, r, C, dx, _, .str k.low, rfl, h1, RC.cls, RC.no _ (by simp), rfl, _, rfl, r, C, dx, _, .bl k.root, rfl, h1, RC.cls, RC.no _ (by simp), rfl, by show 4 ≤ sizeLine; decide, fun t ht => ?_⟩
      refine ⟨_, rfl, _, rfl, r2, C, dx2, _, .str k2.sty, rfl, same_new ht _ _ h2, RC.cls, RC.no _ (by simp), rfl, _, rfl, r2, C, dx2, _, .str k2.cap, rfl, same_new ht _ _ h2, RC.cls, RC.no _ (by simp), rfl, _, rfl, r2, C, dx2, _, .str k2.low, rfl, same_new ht _ _ h2, RC.cls, RC.no _ (by simp), rfl, _, rfl, r2, C, dx2, _, .bl k2.root, rfl, same_new ht _ _ h2, RC.cls, RC.no _ (by simp), rfl, by show 4 ≤ sizeLine; decide, fun t2 ht2 => ?_⟩
      have s1 := same_new (o := .tup [.str k.sty, .str k.cap, .str k.low, .bl k.root]) ht
      have s2 := same_new (o := .tup [.str k2.sty, .str k2.cap, .str k2.low, .bl k2.root]) ht2
      refine ⟨rkD k, rkD k2, .tup (SqT.of (s2 _ _ upd_same)) (.cons (.str _) (.cons (.str _) (.cons (.str _) (.cons (.bl _) .nil)))), .tup (SqT.of upd_same) (.cons (.str _) (.cons (.str _) (.cons (.str _) (.cons (.bl _) .nil)))), rk_shaped o1, rk_shaped o2, ?_⟩
      rw [rk_eqv]
      exact q _ (s1.trans s2)
end
end Pk
namespace L2
open PyProof.Rows PySem.Spec PySem
/-! ### a text times a number from 2 on -/
def repS (z : Str) (n : Nat) : Str := ⟨(List.replicate n z.cps).foldl (· ++ ·) #[]⟩
def rTimesN : R2 := fun x y H Q => ∃ (z : Str) (n : Nat), x = .str z ∧ y = .int (n : Nat) ∧ 2 ≤ n ∧ n ≤ 1000000 ∧ 0 < z.length ∧ z.length ≤ 1000 ∧ z.length * n ≤ 900000 ∧ (repS z n).length ≤ sizeLine ∧ Q (.str (repS z n)) H
theorem op_timesN {X : Cx} : OpR X (binaryOp .Mult) rTimesN := by
  intro pins s σ H x y v u Q I rx ry h; obtain ⟨z, n, rfl, rfl, n2, nx, z0, z1, zn, zl, q⟩ := h
  obtain ⟨t, rfl⟩ := rx
  obtain ⟨t', rfl⟩ := ry
  refine P.mul_str (n := (n : Int)) ?_ (fun _ _ => ?_) (fun _ _ => ?_) ?_
  · rw [decide_eq_false (show ¬ (n : Int) < -(2 ^ 63 : Int) by omega), decide_eq_false (show ¬ (n : Int) ≥ 2 ^ 63 by omega)]
    rfl
  · have h1 : (1000 : Int) ≤ (2 ^ 63 - 1) / (n : Int) := Int.le_ediv_of_mul_le (by omega) (by omega)
    omega
  · have e : (n : Int).toNat = n := rfl
    rw [e]
    show decide (z.length * n > _) = false
    exact decide_eq_false (by
      have k : (900000 : Nat) ≤ sizeLine := by decide
      exact Nat.not_lt.mpr (Nat.le_trans zn k))
  · have e1 : ((n : Int) == 1 || z.length == 0) = false := by
      rw [show ((n : Int) == 1) = false by simpa using (show ¬ (n : Int) = 1 by omega), show (z.length == 0) = false by simpa using (show ¬ z.length = 0 by omega)]
      rfl
    rw [if_neg (show ¬ (n : Int) < 1 by omega), e1, if_neg (by decide)]
    exact ⟨zl, .str _, H, I.tok _, ⟨_, rfl⟩, q⟩
end L2
namespace Pk
open L2 PyProof.Rows PySem.Spec PySem
def BagO (c : Addr) (m : Nat) (n : Int) (o : HO) : Prop := ∃ i dg f, o = .dK (bagD c i dg n f) ∧ i ≤ m ∧ 0 ≤ dg ∧ 0 ≤ f ∧ f < 2147483648 ∧ 0 ≤ n
theorem dgS {H : Hp} {a : Addr} {kvs : List (Key × V)} {x : Str} {r : Option V} (e : H a = some (.dK kvs)) (h : valV kvs (.inr x) = r) : DGet H a (.str x) r := .inl ⟨kvs, .inr x, .inl e, rfl, h.symm⟩
theorem bag_len {c i dg n f} : (bagD c i dg n f).length < sizeLine := by show 5 < sizeLine; decide
def spDraw : Sp := fun vs H Q _ => ∃ (b c : Addr) (ns : List Int) (lim n : Int) (o : HO), vs = [.ref b, .int lim] ∧ 1 ≤ lim ∧ lim ≤ 10 ^ 50 ∧ H b = some o ∧ BagO c ns.length n o ∧ n ≤ 1000000 ∧ H c = some (.lst (ns.map V.int)) ∧
  ∀ (r : Int) (o' : HO), 0 ≤ r → r < lim → BagO c ns.length (n + 1) o' → Q (.int r) (upd H b o')
def spBag (K : PySem.W.Frag) : Sp := fun vs H Q _ => ∃ (a : Addr) (ns : List Int), vs = [.ref a] ∧ SqL K H a (ns.map V.int) ∧ ns.length ≤ 63 ∧
  ∀ (b c : Addr) (o : HO), H b = none → H c = none → c ≠ b → BagO c ns.length 0 o → Q (.ref b) (upd (upd (upd H b (.dK [])) c (.lst (ns.map V.int))) b o)
section
variable {K : PySem.W.Frag} {P : Program} {w : World} {base : Heap} {mg : Str → Option Value}
theorem sc_law_draw : FnScope ["_law_bag_here", "_law_limit", "_law_cell", "_law_digit", "_law_base"] ["_law_bag_here", "_law_limit"] (defScope sDraw) := ⟨rfl, rfl, rfl, by decide +kernel, rfl, by decide +kernel, by decide +kernel⟩
theorem ok_draw {f : Addr} {fd : FuncData} (F : FunD K "_law_draw" "_law_draw" (defArgs sDraw) (defBody sDraw) (defScope sDraw) [] [] f fd) (mInt : mg "int" = none) (mLen : mg "len" = none) : FnOk P w K mg base CX0 1 f fd ["_law_bag_here", "_law_limit"] spDraw := by
  refine F.ok sc_law_draw (fun vs H Q E h => ?_) (fun cdv A outer s H vs Q E hr h => ?_)
  · obtain ⟨b, c, ns, lim, n, o, rfl, _⟩ := h
    rfl
  · obtain ⟨b, c, ns, lim, n, o, rfl, l1, l2, hb, ⟨i, dg, f0, rfl, hi, hdg, hf1, hf2, hn0⟩, hn, hc, k⟩ := h
    have hu := hu_of hr
    refine ⟨_, PSs.nox (pss_cons (by exact (ps_dput hu (pv 0) pe_str (pe_op op_add (pe_dget hu (pv 0) pe_str (fun _ _ => rfl)) pe_int) rfl)) (C8.pss_cut (by exact (ps_if (PW.pt (pw_and (pt_cmpR op_eq (pe_dget hu (pv 0) pe_str (fun _ _ => rfl)) pe_int (nomark _)) (pw_and1 (pt_cmpR op_lt (pe_dget hu (pv 0) pe_str (fun _ _ => rfl)) (pe_callB call_len_seq (by rfl) mLen PySem.boot_len (pa_cons (pe_dget hu (pv 0) pe_str (fun _ _ => rfl)) pa_nil)) (nomark _))))) (pss_cons (by exact (ps_set (i := 2) sc_law_draw.nd rfl (Or.inl rfl) (pe_ix (ix_listK K rfl) (pe_dget hu (pv 0) pe_str (fun _ _ => rfl)) (pe_dget hu (pv 0) pe_str (fun _ _ => rfl)) (fun _ _ => rfl)))) (pss_cons (by exact (ps_dput hu (pv 0) pe_str (pe_op op_add (pe_dget hu (pv 0) pe_str (fun _ _ => rfl)) pe_int) rfl)) (pss_one (by exact (ps_if (pt_cmpR op_ge (pv 2) (pe_op op_pow pe_int pe_int) (nomark _)) (pss_one (by exact (ps_dput hu (pv 0) pe_str (pe_op op_sub (pv 2) (pe_op op_pow pe_int pe_int)) rfl))) (pss_one (by exact (ps_dput hu (pv 0) pe_str (pe_op op_mod (pe_callTy call_int1 (by rfl) mInt (by decide +kernel) (pa_cons (pe_op op_add (pe_op op_mul (pe_dget hu (pv 0) pe_str (fun _ _ => rfl)) pe_int) (pv 2)) pa_nil)) pe_int) rfl)))))))) pss_nil)) (pss_cons (by exact (ps_if (pt_cmpR op_gt (pe_dget hu (pv 0) pe_str (fun _ _ => rfl)) pe_int (nomark _)) (pss_cons (by exact (ps_set (i := 3) sc_law_draw.nd rfl (Or.inl rfl) (pe_op op_mod (pe_callTy call_int1 (by rfl) mInt (by decide +kernel) (pa_cons (pe_dget hu (pv 0) pe_str (fun _ _ => rfl)) pa_nil)) (pv 1)))) (pss_cons (by exact (ps_dput hu (pv 0) pe_str (pe_op op_fdivW (pe_dget hu (pv 0) pe_str (fun _ _ => rfl)) (pv 1)) rfl)) (pss_one (by exact (ps_ret (pv 3)))))) pss_nil)) (pss_cons (by exact (ps_set (i := 4) sc_law_draw.nd rfl (Or.inl rfl) (pe_op op_add (pe_op op_add (pe_dget hu (pv 0) pe_str (fun _ _ => rfl)) (pe_op op_mul (pe_dget hu (pv 0) pe_str (fun _ _ => rfl)) pe_int)) pe_int))) (pss_one (by exact (ps_ret (pe_op op_mod (pe_op op_fdivW (pe_callTy call_int1 (by rfl) mInt (by decide +kernel) (pa_cons (pe_op op_mod (pe_op op_pow (pv 4) pe_int) pe_int) pa_nil)) pe_int) (pv 1))))))))), ?_⟩
    -- count
    refine ⟨_, rfl, _, _, rfl, dgS hb bag_count, _, _, rfl, rfl, _, rfl, b, _, rfl, DPut.k (k := .inr "count") hb bag_len, ?_⟩
    rw [bag_put_count]
    have ncb : c ≠ b := ne_of hc hb (by intro z; cases z)
    have hc1 : ∀ o, upd H b o c = some (.lst (ns.map V.int)) := fun o => by rw [upd_ne ncb]; exact hc
    -- the if: some bag stands behind it
    refine ⟨fun σ H1 => ∃ (i : Nat) (dg f0 : Int) (v : Option V), σ = [some (.ref b), some (.int lim), v, none, none] ∧ H1 = upd H b (.dK (bagD c i dg (n + 1) f0)) ∧ i ≤ ns.length ∧ 0 ≤ dg ∧ 0 ≤ f0 ∧ f0 < 2147483648, ?_, ?_⟩
    · refine ⟨_, rfl, _, _, rfl, dgS upd_same bag_digits, rfl, _, rfl, ?_⟩
      refine ite2 (fun hz => ?_) (fun _ => ⟨i, dg, f0, _, rfl, rfl, hi, hdg, hf1, hf2⟩)
      refine ⟨_, rfl, _, _, rfl, dgS upd_same bag_at, _, rfl, _, _, rfl, dgS upd_same bag_cells, c, _, rfl, .inl (SqL.of (hc1 _)), _, _, rfl, rfl, _, rfl, ?_⟩
      refine ite2 (fun hlt => ?_) (fun _ => ⟨i, dg, f0, _, rfl, rfl, hi, hdg, hf1, hf2⟩)
      have hil : i < ns.length := by
        have z := of_decide_eq_true hlt
        rw [List.length_map] at z
        omega
      -- cell
      refine ⟨_, rfl, _, _, rfl, dgS upd_same bag_cells, _, rfl, _, _, rfl, dgS upd_same bag_at, c, _, _, .int (ns[i]), rfl, rfl, SqL.of (hc1 _), atI_nat (by simp [hil]), ?_⟩
      -- at
      refine ⟨_, rfl, _, _, rfl, dgS upd_same bag_at, _, _, rfl, rfl, _, rfl, b, _, rfl, DPut.k (k := .inr "at") upd_same bag_len, ?_⟩
      rw [upd_upd, bag_put_at]
      refine ⟨_, rfl, _, _, rfl, rfl, ⟨by decide, by decide, by decide⟩, _, _, rfl, rfl, _, rfl, ?_⟩
      refine ite2 (fun hge => ?_) (fun _ => ?_)
      · have hge' := of_decide_eq_true hge
        refine ⟨_, rfl, _, _, rfl, rfl, ⟨by decide, by decide, by decide⟩, _, _, rfl, rfl, _, rfl, b, _, rfl, DPut.k (k := .inr "digits") upd_same bag_len, ?_⟩
        rw [upd_upd, bag_put_digits]
        exact ⟨i + 1, _, f0, _, rfl, rfl, hil, by omega, hf1, hf2⟩
      · refine ⟨_, rfl, _, _, rfl, dgS upd_same bag_fold, _, _, rfl, rfl, .inr ⟨by decide, by decide⟩, _, rfl, _, _, rfl, rfl, .inl ⟨_, rfl, _, _, rfl, rfl, (by show (0 : Int) < 2147483587; decide), _, rfl, b, _, rfl, DPut.k (k := .inr "fold") upd_same bag_len, ?_⟩⟩
        rw [upd_upd, bag_put_fold]
        exact ⟨i + 1, dg, _, _, rfl, rfl, hil, hdg, Int.emod_nonneg _ (by decide), Int.lt_trans (Int.emod_lt_of_pos _ (by decide)) (by decide)⟩
    · rintro σ H1 ⟨i, dg, f0, v, rfl, rfl, hi, hdg, hf1, hf2⟩
      refine ⟨_, rfl, _, _, rfl, dgS upd_same bag_digits, _, _, rfl, rfl, _, rfl, ?_⟩
      refine ite2 (fun hz => ?_) (fun _ => ?_)
      · refine ⟨_, rfl, _, _, rfl, dgS upd_same bag_digits, .inl ⟨_, rfl, _, rfl, _, _, rfl, rfl, (by omega), ?_⟩⟩
        refine ⟨_, rfl, _, _, rfl, dgS upd_same bag_digits, _, rfl, _, _, rfl, rfl, wide_div (b := 200) (by omega) ?_ (by decide) (by decide), _, rfl, b, _, rfl, DPut.k (k := .inr "digits") upd_same bag_len, ?_⟩
        · have : (10 : Int) ^ 50 < 2 ^ 200 := by decide
          omega
        · rw [upd_upd, bag_put_digits]
          refine ⟨_, rfl, k _ _ (Int.emod_nonneg _ (by omega)) (Int.emod_lt_of_pos _ (by omega)) ⟨i, _, f0, rfl, hi, Int.ediv_nonneg hdg (by omega), hf1, hf2, by omega⟩⟩
      · refine ⟨_, rfl, _, _, rfl, dgS upd_same bag_fold, _, rfl, _, _, rfl, dgS upd_same bag_count, _, _, rfl, rfl, .inr ⟨by decide, by decide⟩, _, _, rfl, rfl, _, _, rfl, rfl, ?_⟩
        refine ⟨_, rfl, _, _, rfl, rfl, ⟨by decide, by decide, ?_⟩, _, _, rfl, rfl, (by show (0 : Int) < 2305843009213693951; decide), .inl ⟨_, rfl, _, _, rfl, rfl, wide_div (b := 10) (by decide) (by decide) (by decide) (by decide), _, rfl, _, _, rfl, rfl, (by omega), ?_⟩⟩
        · have h1 : (n + 1) * 7907 ≤ 1000001 * 7907 := by omega
          have h2 : 0 ≤ (n + 1) * 7907 := by omega
          omega
        · exact k _ _ (Int.emod_nonneg _ (by omega)) (Int.emod_lt_of_pos _ (by omega)) ⟨i, dg, f0, rfl, hi, hdg, hf1, hf2, by omega⟩
end
end Pk
namespace Pk
open L2 PyProof.Rows PySem.Spec PySem
theorem int_item {ns : List Int} {i : Nat} {y : V} (h : (ns.map V.int)[i]? = some y) : ∃ z, ns[i]? = some z ∧ y = .int z := by
  rw [List.getElem?_map] at h
  cases e : ns[i]? with
  | none => (rw [e] at h; cases h)
  | some z => rw [e] at h; exact ⟨z, rfl, (Option.some.inj h).symm⟩
section
variable {K : PySem.W.Frag} {P : Program} {w : World} {base : Heap} {mg : Str → Option Value}
theorem sc_law_bag : FnScope ["_law_script", "_law_fold", "_law_cell"] ["_law_script"] (defScope sBag) := ⟨rfl, rfl, rfl, by decide +kernel, rfl, by decide +kernel, by decide +kernel⟩
theorem ok_bag {f : Addr} {fd : FuncData} (F : FunD K "_law_bag" "_law_bag" (defArgs sBag) (defBody sBag) (defScope sBag) [] [] f fd) (mInt : mg "int" = none) (mList : mg "list" = none) : FnOk P w K mg base CX0 1 f fd ["_law_script"] (spBag K) := by
  refine F.ok sc_law_bag (fun vs H Q E h => ?_) (fun cdv A outer s H vs Q E hr h => ?_)
  · obtain ⟨a, ns, rfl, _⟩ := h
    rfl
  · obtain ⟨a, ns, rfl, hS, hl, k⟩ := h
    have hu := hu_of hr
    refine ⟨_, PSs.nox (pss_cons (by exact (ps_set (i := 1) sc_law_bag.nd rfl (Or.inl rfl) pe_int)) (pss_cons (by exact (ps_for PassesOwn.never rfl (pi_list (pv 0)) (pg_name (i := 2) sc_law_bag.nd rfl (Or.inl rfl)) (pss_one (by exact (ps_set (i := 1) sc_law_bag.nd rfl (Or.inl rfl) (pe_op op_mod (pe_callTy call_int1 (by rfl) mInt (by decide +kernel) (pa_cons (pe_op op_add (pe_op op_mul (pv 1) pe_int) (pv 2)) pa_nil)) pe_int)))))) (pss_one (by exact (ps_ret (pe_disp (pps_cons pe_str (pe_callTy call_list_of (by rfl) mList (by decide +kernel) (pa_cons (pv 0) pa_nil)) (pps_cons pe_str pe_int (pps_cons pe_str pe_int (pps_cons pe_str pe_int (pps_cons pe_str (pv 1) pps_nil))))) (by rfl) (by rfl) (fun z => by cases z) (by decide))))))), ?_⟩
    refine ⟨_, rfl, a, rfl, ⟨_, hS⟩, for_list (K := K) (a := a) (xs := ns.map V.int) (fun i σ H' => ∃ (f : Int) (v : Option V), σ = [some (.ref a), some (.int f), v] ∧ H' = H ∧ 0 ≤ f ∧ f < 2147483648)
      ⟨0, none, rfl, rfl, by decide, by decide⟩ (fun i σ H' _ ⟨_, _, _, e, _⟩ => by rw [e]; exact hS) ?_ ?_⟩
    · rintro i y σ H' hi ⟨f, v, rfl, rfl, h1, h2⟩
      obtain ⟨z, hz, rfl⟩ := int_item hi
      refine ⟨_, rfl, _, _, rfl, rfl, .inr ⟨by decide, by decide⟩, _, rfl, _, _, rfl, rfl, .inl ⟨_, rfl, _, _, rfl, rfl, (by show (0 : Int) < 1000000009; decide), ?_⟩⟩
      exact ⟨_, _, rfl, rfl, Int.emod_nonneg _ (by decide), Int.lt_trans (Int.emod_lt_of_pos _ (by decide)) (by decide)⟩
    · rintro σ H' ⟨f, v, rfl, rfl, h1, h2⟩
      intro b hb
      refine ⟨_, rfl, a, _, rfl, .inl ((same_new hb).seq hS), fun c hc => ⟨_, rfl, ?_⟩⟩
      have hcb : c ≠ b := fun z => by rw [z, upd_same] at hc; cases hc
      have hc' : H' c = none := by rw [upd_ne hcb] at hc; exact hc
      refine ⟨by rw [upd_ne (Ne.symm hcb)]; exact upd_same, bagD c 0 0 0 f, rfl, by show 5 ≤ 15; decide, ?_⟩
      have e : mergeK [] (bagD c 0 0 0 f) = bagD c 0 0 0 f := by rfl
      rw [e]
      exact k b c _ hb hc' hcb ⟨0, 0, f, rfl, Nat.zero_le _, by decide, h1, h2, by decide⟩
end
end Pk
namespace L2
open PyProof.Rows PySem.Spec PySem
/-! ### defs that are called while an exception is handled -/
/-- such a def's body's context: not calm -/
def cxW (CX : CXT) (P : Program) (w : World) (K : PySem.W.Frag) (mg : Str → Option Value) (base : Heap) (N : List Str) (qual : Str) (scope : Scope) (f : Addr) (cd : Value) (A : Around) (outer : List Env) (s : Shared) (H : Hp) (E : XK) : Cx :=
  { cxOf CX P w K mg base N qual scope f cd A outer s H E with calm := false }
structure FnW (P : Program) (w : World) (K : PySem.W.Frag) (mg : Str → Option Value) (base : Heap) (CX : CXT) (k : Nat) (f : Addr) (fd : FuncData) (ps : List Str) (sp : Sp) : Prop where
  arity : ∀ vs H Q E, sp vs H Q E → vs.length = ps.length
  goes : ∀ (A : Around) (outer : List Env) (s : Shared) (H : Hp) (args : Args) (us : List Value) (vs : List V) (Q : VK) (E : XK), L2H.RoomH k A → Env0 P w K mg base A outer s H → BindsTo s fd args (ps.zip us) → Vals vs us → sp vs H Q E →
    (codeAny (model P w) A (.call (.ref f) args) (CR CX outer P w H s Q E) s)
theorem env0_unmark {P : Program} {w : World} {K : PySem.W.Frag} {mg : Str → Option Value} {base : Heap} {A : Around} {outer : List Env} {s : Shared} {H : Hp} (e : Env0 P w K mg base A outer s H) : Env0 P w K mg base { A with handled := none } outer s H :=
  ⟨e.frames, e.mod, e.bs, e.bsz, e.funs, e.frf, e.hok, e.bare⟩
theorem warm_start {CX : CXT} {P : Program} {w : World} {K : PySem.W.Frag} {mg : Str → Option Value} {base : Heap} {N ps : List Str} {qual : Str} {scope : Scope} {f : Addr} {cd : Value} {A : Around} {outer : List Env} {s s1 : Shared} {H : Hp} {E : XK} {us : List Value} {vs : List V}
    (S : FnScope N ps scope) (e0 : Env0 P w K mg base A outer s H) (hl : vs.length = ps.length) (r : Vals vs us)
    (x : InCallC s s.heap.objs.size (bindL (envOfC qual scope s.heap.objs.size f cd).kindOf (ps.zip us) (fun _ => none)) (cellsFrom (s.heap.objs.size + 1) scope.names []) (bindC (envOfC qual scope s.heap.objs.size f cd).kindOf (ps.zip us) (fun _ => none)) s1) :
    Inv (cxW CX P w K mg base N qual scope f cd A outer s H E) [] (L2.start N vs) H s1 := by
  have J := inv_start (CX := CX) (E := E) (qual := qual) (f := f) (cd := cd) (A := { A with handled := none }) S rfl (env0_unmark e0) hl r x
  obtain ⟨o, j1, j2, j3, j4, j5, j6, j7, j8, j9, j10⟩ := J
  exact ⟨⟨o.mod, o.kind, o.glob, o.blt, o.above, o.inj, o.has, o.cab, (fun z => nomatch z), Around.frames_deeper e0.frames, .inr ⟨rfl, rfl⟩, o.exf, o.bs, o.bsz, o.noex, o.exfs, o.funs, o.frf⟩, j1, j2, j3, j4, j5, j6, j7, j8, j9, j10⟩
theorem FunD.warm {P : Program} {w : World} {K : PySem.W.Frag} {mg : Str → Option Value} {base : Heap} {CX : CXT} {k : Nat} {f : Addr} {fd : FuncData} {name qual : Str} {params : Arguments} {body : List Stmt} {scope : Scope} {ds : List V} {ks : List (Str × V)} {N ps : List Str} {sp : Sp}
    (F : FunD K name qual params body scope ds ks f fd) (S : FnScope N ps scope) (len : ∀ vs H Q E, sp vs H Q E → vs.length = ps.length)
    (hbody : ∀ (cdv : Value) (A : Around) (outer : List Env) (s : Shared) (H : Hp) (vs : List V) (Q : VK) (E : XK), L2H.RoomH k (A.deeper (envOfC qual scope s.heap.objs.size f cdv)) → sp vs H Q E →
      ∃ t, PSs (cxW CX P w K mg base N qual scope f cdv A outer s H E) body t ∧ t { nx := fun _ H' => Q .non H', rt := Q } (L2.start N vs) H) : FnW P w K mg base CX (k + 1) f fd ps sp := by
  obtain ⟨⟨oc, od, dV, kV, doc, pm, an, cdv, ct, osl, rfl, lk, hcd, _⟩, _⟩ := F
  refine ⟨len, fun A outer s H args us vs Q E hr e0 hb r hsp => ?_⟩; have lv := len vs H Q E hsp
  have KX : K.In s.heap := e0.mod.kin.keeps fun b o e => (e0.bs b o e).1; have noL : s.heap.NoLimit := e0.mod.nolimit.keeps fun b o e => (e0.bs b o e).1
  have kinds : ∀ y ∈ ps.zip us, scope.names.lookup y.1 = some .local ∨ (scope.names.lookup y.1 = some .cell ∧ ((cellsFrom (s.heap.objs.size + 1) scope.names []).lookup y.1).isSome = true) := fun ⟨n, v⟩ hy => (S.par n (List.of_mem_zip hy).1).imp id fun q => ⟨q, PySem.W.cellsFrom_some _ _ _ (.inl q)⟩
  refine codeAny_call_function hr.depth (KX _ _ lk) rfl S.co S.gen rfl (PySem.W.codeRec_of KX hcd) (hb _ _ _ _ (wpAny_newFunctionEnv_cells S.kind kinds fun env he s1 x => ?_))
  subst he
  obtain ⟨t, ht, hq⟩ := hbody cdv A outer s H vs Q E (hr.deeper _) hsp
  refine ⟨noL.keeps x.toInCall.keep, codeAny_func (wpAny_mono (ht.run [] s1 (L2.start N vs) H _ (warm_start S e0 lv r x) hq) (fun fl s' hs => ?_) fun e s' hs => hs)⟩
  cases fl with
  | ret u =>
    obtain ⟨v, _, H', J, rv, q⟩ := hs
    exact ⟨v, H', J.os, J.bare, J.base, J.hok, rv, q⟩
  | next =>
    obtain ⟨_, H', J, q⟩ := hs
    exact ⟨V.non, H', J.os, J.bare, J.base, J.hok, rfl, q⟩
  | brk =>
    obtain ⟨_, _, _, q⟩ := hs
    exact q.elim
  | cont =>
    obtain ⟨_, _, _, q⟩ := hs
    exact q.elim
section
variable {X : Cx} {CX : CXT} {k : Nat} {f : Addr} {fd : FuncData} {ps : List Str} {sp : Sp} {x : Str} {q pos : Pos} {e : Expr} {es : List Expr} {t : TA} {E : XK}
theorem pe_callW (F : FnW X.prog X.w X.K X.mg X.base CX k f fd ps sp) (hr : L2H.RoomH k X.A) (hg : Gl X x) (hm : X.mg x = some (.ref f)) (hk : PySem.W.keepIn X.K (.ref f) = true) (hb : Binds X.K fd ps []) (hx : Passes CX X E) (ha : PA X (e :: es) t) (hdb : (x == ("__debug__" : Str)) = false := by decide)
    (he : starEach (e :: es) X.env = (false, eval e X.env) :: starEach es X.env := by rfl) (hpl : (backTo pos (starEach es X.env)).any (·.1) = false := by rfl) : PE X (.Call (.Name x q) (e :: es) [] pos) (fun σ H Q => t σ H fun vs H1 => sp vs H1 Q E) := by
  refine ⟨fun pins s σ H Q I h => wpAny_Call_Name_kw (ld_glob I hg hm (PySem.W.callWith_K (h₀ := X.base) I.ok.mod.kin hk (thn (ha.run pos pins s σ H _ I h) fun us s1 z => ?_) he hpl) hdb)⟩
  obtain ⟨vs, H1, I1, r, hq⟩ := z
  refine ⟨I1.kIn, wpAny_call (codeAny_mono (F.goes X.A X.stack s1 H1 ⟨us, []⟩ us vs Q E hr I1.env0 ?_ r hq) fun a s' ho => ?_)⟩
  · have b := hb s1 us I1.kIn (by rw [List.append_nil, ← r.length]; exact F.arity _ _ _ _ hq)
    rw [List.append_nil] at b
    exact b
  · cases a with
    | error e => exact hx pins σ H1 s1 e s' I1 ho
    | ok fl =>
      cases fl with
      | ret u => exact I1.after ho
      | next => exact ho.elim
      | brk => exact ho.elim
      | cont => exact ho.elim
end
theorem Room.warm {j k : Nat} {A : Around} {h : Option Value} (r : Room k A) (l : j ≤ k := by decide) : L2H.RoomH j (A.mark h) :=
  have q := L2H.roomH_of (r.mono l)
  ⟨q.dp, q.un⟩
theorem call_isTK {X : Cx} (K : PySem.W.Frag) (e : X.K = K) : CallR X (.builtin "isinstance") (rIsT K) := by
  subst e
  exact call_isT
theorem pe_xfTK {X : Cx} {o : Expr} {te : TE} {pos : Pos} {n : Str} (K : PySem.W.Frag) (e : X.K = K) (he : PE X o te) (hb : attributeBase o n X.env (eval o X.env) = eval o X.env := by rfl) : PE X (.Attribute o n pos) (tXfT K n te) := by
  subst e
  exact pe_xfT he hb
end L2
namespace Pk
open L2 PyProof.Rows PySem.Spec PySem
abbrev sCodeI : Stmt := inClass (top 57) 0
def kindV : V → Option Str
  | .str z => if z ∈ KINDL then some z else none
  | _ => none
/-- what comes of making a code -/
inductive CodeR where
  | badKind
  | lines (n : Nat)
  | line (l : Nat)
  | ifs (n : Nat)
  | refused (l : Nat)
  | made (kind : Str) (rows : List Row)
def codeM (k : V) (t : Str) (taken : Bool) (product : Nat) : CodeR := match kindV k with
  | none => .badKind
  | some kind => if (linesM t).length > 40 then .lines (linesM t).length else match readM t with
    | .error e => .line e
    | .ok rows => match limitsM rows taken product with
      | .fine => .made kind rows
      | .many n => .ifs n
      | .refused l => .refused l
/-- the error that tells it -/
def failM (k : V) : CodeR → Option (Str × List (Str × V))
  | .badKind => some ("BadKind", [("kind", k)])
  | .lines n => some ("TooMany", [("most", .int 40), ("many", .int (n : Nat)), ("what", .str "lines")])
  | .line l => some ("BadLine", [("line", .int (l : Nat))])
  | .ifs n => some ("TooMany", [("most", .int 7), ("many", .int (n : Nat)), ("what", .str "ifs")])
  | .refused l => some ("Refused", [("line", .int (l : Nat))])
  | .made _ _ => none
structure CodeC (K : PySem.W.Frag) (mg : Str → Option Value) (C fI : Addr) : Prop where
  cls : Cls K C
  made : Mk K C fI
  g : mg "Code" = some (.ref C)
  no : ∀ f ∈ (["kind", "rules", "text", "own_lines", "rows", "own_tables"] : List Str), NoAttr K C f
def codeF (kind : Str) (r : Addr) (t : Str) (ls ra tb : Addr) : List (Str × V) := [("kind", .str kind), ("rules", .ref r), ("text", .str t), ("own_lines", .ref ls), ("rows", .ref ra), ("own_tables", .ref tb)]
/-- at c: a code -/
structure CodeAt (C : Addr) (H : Hp) (c : Addr) (kind : Str) (r : Addr) (t : Str) (rows : List Row) (dx ls ra tb : Addr) (rr : List Addr) (fr : Addr → Prop) : Prop where
  h : H c = some (.ins C dx (codeF kind r t ls ra tb))
  ls : H ls = some (.lst ((linesM t).map V.str))
  ra : H ra = some (.lst (rr.map V.ref))
  rr : RowsAt fr H rr rows
  tb : H tb = some (.dK [])
theorem CodeAt.same {C : Addr} {H H' : Hp} {c : Addr} {kind : Str} {r : Addr} {t : Str} {rows : List Row} {dx ls ra tb : Addr} {rr : List Addr} {fr : Addr → Prop} (h : CodeAt C H c kind r t rows dx ls ra tb rr fr) (s : Same H H') : CodeAt C H' c kind r t rows dx ls ra tb rr fr :=
  ⟨s _ _ h.h, s _ _ h.ls, s _ _ h.ra, h.rr.keep (Keeps.same s) fun _ z => z, s _ _ h.tb⟩
theorem RulesAt.keepB {C : Addr} {H H' : Hp} {r c Cc dc : Addr} {sty : Str} {cap low root : V} {x1 x2 : Share} (h : RulesAt C H r sty cap low root x1 x2) (hc : H c = some (.ins Cc dc [])) (k : KeepB c H H') : RulesAt C H' r sty cap low root x1 x2 := by
  obtain ⟨dx, os, p1, p2, cs, ls, h1, h2, h3, h4, h5, h6, h7, h8⟩ := h
  have t : ∀ b xs, H b = some (.tup xs) → H' b = some (.tup xs) := fun b xs e => k b _ (fun z => by rw [z, hc] at e; cases e) e
  exact ⟨dx, os, p1, p2, cs, ls, k _ _ (fun z => by rw [z, hc] at h1; cases h1) h1, h2, h3, t _ _ h4, h5.tk t, h6.tk t, t _ _ h7, t _ _ h8⟩
def ErrB (K : PySem.W.Frag) (c : Addr) (x : Str) (fs : List (Str × V)) (H : Hp) (E : XK) : Prop := ∀ d H1, KeepB c H H1 → H1 d = none → E (.ref (He.ga K x)) (some d) (upd H1 d (.xd fs))
def spCodeI (K : PySem.W.Frag) (C RC : Addr) : Sp := fun vs H Q E => ∃ (c dx r : Addr) (k : V) (t : Str) (tk : Value) (sty : Str) (cap low root : V) (x1 x2 : Share), vs = [.ref c, k, .ref r, .str t] ∧ H c = some (.ins C dx []) ∧ Kd K H k tk ∧ okT t ∧ RulesAt RC H r sty cap low root x1 x2 ∧
  (∀ x fs, failM k (codeM k t (decide (sty = "taken")) ((lineM x1).d * (lineM x2).d)) = some (x, fs) → ErrB K c x fs H E) ∧
  ∀ kind rows, codeM k t (decide (sty = "taken")) ((lineM x1).d * (lineM x2).d) = .made kind rows → ∀ H' ls ra tb rr fr, KeepB c H H' → CodeAt C H' c kind r t rows dx ls ra tb rr fr → (∀ b, fr b → H b = none ∧ b ≠ c) → H ls = none → H ra = none → H tb = none → Q .non H'
section
variable {K : PySem.W.Frag} {P : Program} {w : World} {base : Heap} {mg : Str → Option Value} {C fI RC fRI : Addr}
theorem sc_Code___init__ : FnScope ["self", "kind", "rules", "text"] ["self", "kind", "rules", "text"] (defScope sCodeI) := ⟨rfl, rfl, rfl, by decide +kernel, rfl, by decide +kernel, by decide +kernel⟩
theorem ok_Code_init {f fR fL : Addr} {fd fdR fdL : FuncData} (F : FunD K "__init__" "Code.__init__" (defArgs sCodeI) (defBody sCodeI) (defScope sCodeI) [] [] f fd) (CC : CodeC K mg C fI) (ER : Errs P K mg)
    (FR : FunD K "read" "read" (defArgs sRead) (defBody sRead) (defScope sRead) [] [] fR fdR) (GR : FnOk P w K mg base (L2.CX P w) 89 fR fdR ["text"] (spRead K)) (gR : mg "read" = some (.ref fR))
    (FL : FunD K "need_limits" "need_limits" (defArgs sLimits) (defBody sLimits) (defScope sLimits) [] [] fL fdL) (GL : FnOk P w K mg base (L2.CX P w) 86 fL fdL ["rows", "rules"] (spLimits K RC)) (gL : mg "need_limits" = some (.ref fL))
    (mIsi : mg "isinstance" = none) (mStr : mg "str" = none) (mLen : mg "len" = none) (gML : ∃ u, mg "MOST_LINES" = some u ∧ RelV (.int 40) u) {aK : Addr} (gK : ∃ u, mg "KINDS" = some u ∧ RelV (.ref aK) u) (tK : ∀ H, SqT K H aK (KINDL.map V.str)) :
    FnOk P w K mg base (L2.CX P w) 90 f fd ["self", "kind", "rules", "text"] (spCodeI K C RC) := by
  have bR : Binds K fdR ["text"] [] := FR.bindsN fun _ _ _ _ _ _ us hl => match us, hl with | [_], _ => rfl
  have bL : Binds K fdL ["rows", "rules"] [] := FL.bindsN fun _ _ _ _ _ _ us hl => match us, hl with | [_, _], _ => rfl
  refine F.ok sc_Code___init__ (fun vs H Q E h => ?_) (fun cdv A outer s H vs Q E hr h => ?_)
  · obtain ⟨c, dx, r, k, t, tk, sty, cap, low, root, x1, x2, rfl, _⟩ := h
    rfl
  · obtain ⟨c, dx, r, k, t, tk, sty, cap, low, root, x1, x2, rfl, hC, kk, ht, R, qe, q⟩ := h
    obtain ⟨fdK, IBadKind⟩ := ER.iBadKind
    obtain ⟨fdT, ITooMany⟩ := ER.iTooMany
    refine ⟨_, (pss_cons (by exact (ps_if (PW.pt (pw_or (pt_not (pt_val (pe_callB call_isi (by rfl) mIsi PyProof.Rows.boot_isinstance (pa_cons (pv 1) (pa_cons (pe_bltn (v := .ty "str") (by rfl) mStr (by decide +kernel) rfl) pa_nil))))) (pw_or1 (pt_cmpR (op_notInK K rfl) (pv 1) (C8.pe_gc (v := .ref aK) rfl gK) rfl)))) (pss_one (by exact (ps_raise rfl (takes_of rfl rfl rfl rfl) (pmk_sup1 IBadKind.sup (okIBadKind IBadKind ER.mS ER.hP) (hr.mono (by decide)) (bIBadKind IBadKind) pass0 rfl (pv 1))))) pss_nil)) (pss_cons (by exact (ps_fld (pv 0) (pv 1) rfl)) (pss_cons (by exact (ps_fld (pv 0) (pv 2) rfl)) (pss_cons (by exact (ps_fld (pv 0) (pv 3) rfl)) (C8.pss_cut (by exact (ps_fld (pv 0) (pe_ifExp (pt_cmpR op_ne (pv 3) pe_str (nomark _)) (pe_split (pv 3) pe_str) (pe_lst pa_nil)) rfl)) (pss_cons (by exact (ps_if (pt_cmpR op_gt (pe_callB call_len_seq (by rfl) mLen PySem.boot_len (pa_cons (pe_fld (pv 0) rfl) pa_nil)) (C8.pe_gc (v := .int 40) rfl gML) (nomark _)) (pss_one (by exact (ps_raise rfl (takes_of rfl rfl rfl rfl) (pmk_sup3 ITooMany.sup (okITooMany ITooMany ER.mS ER.hP) (hr.mono (by decide)) (bITooMany ITooMany) pass0 rfl pe_str (pe_callB call_len_seq (by rfl) mLen PySem.boot_len (pa_cons (pe_fld (pv 0) rfl) pa_nil)) (C8.pe_gc (v := .int 40) rfl gML))))) pss_nil)) (pss_cons (by exact (ps_fld (pv 0) (pe_callS GR (hr.mono (by decide)) rfl gR FR.kp bR (fun σ => passAt (takes_of rfl rfl rfl rfl) σ) (pa_cons (pv 3) pa_nil)) rfl)) (pss_cons (by exact (ps_expr (pe_callS GL (hr.mono (by decide)) rfl gL FL.kp bL (fun σ => passAt (takes_of rfl rfl rfl rfl) σ) (pa_cons (pe_fld (pv 0) rfl) (pa_cons (pv 2) pa_nil))))) (pss_one (by exact (ps_fld (pv 0) pe_dnewK rfl))))))))))), ?_⟩
    refine ⟨_, rfl, k, _, tk, _, _, rfl, .ty "str", kk.ty, kk.st, _, rfl, ite2 (fun e => ?_) fun e => ?_⟩
    · refine ⟨_, rfl, fun dd hd => qe "BadKind" _ ?_ dd H (fun _ _ _ h => h) hd⟩
      cases k with
      | str z => cases e
      | _ => rfl
    obtain ⟨z, rfl⟩ : ∃ z, k = .str z := by
      cases k with
      | str z => exact ⟨z, rfl⟩
      | _ => exact absurd rfl e
    refine ⟨_, rfl, aK, _, rfl, .inr (tK _), rfl, flat_strs, _, rfl, ite2 (fun e2 => ?_) fun e2 => ?_⟩
    · have m := niE e2
      refine ⟨_, rfl, fun dd hd => qe "BadKind" _ ?_ dd H (fun _ _ _ h => h) hd⟩
      unfold codeM kindV
      dsimp only
      rw [if_neg m]
      rfl
    have m := niN e2
    have ek : kindV (.str z) = some z := if_pos m
    have no := CC.no
    refine ⟨_, rfl, _, rfl, c, C, dx, _, rfl, hC, CC.cls, no _ (by simp), by show 0 < 1000; decide, ?_⟩
    refine ⟨_, rfl, _, rfl, c, C, dx, _, rfl, upd_same, CC.cls, no _ (by simp), by show 1 < 1000; decide, ?_⟩
    refine ⟨_, rfl, _, rfl, c, C, dx, _, rfl, upd_same, CC.cls, no _ (by simp), by show 2 < 1000; decide, ?_⟩
    refine ⟨fun σ H1 => ∃ ls, σ = [some (.ref c), some (.str z), some (.ref r), some (.str t)] ∧ KeepB c H H1 ∧ H ls = none ∧ ls ≠ c ∧ H1 ls = some (.lst ((linesM t).map V.str)) ∧ H1 c = some (.ins C dx [("kind", .str z), ("rules", .ref r), ("text", .str t), ("own_lines", .ref ls)]), ?_, ?_⟩
    · have k0 : KeepB c H (upd (upd (upd H c (.ins C dx [("kind", .str z)])) c (.ins C dx [("kind", .str z), ("rules", .ref r)])) c (.ins C dx [("kind", .str z), ("rules", .ref r), ("text", .str t)])) := fun b o nb h => by
        rw [upd_ne nb, upd_ne nb, upd_ne nb]
        exact h
      have fin : ∀ (ls : List Str) (tl : Addr), ls = linesM t → (upd (upd (upd H c (.ins C dx [("kind", .str z)])) c (.ins C dx [("kind", .str z), ("rules", .ref r)])) c (.ins C dx [("kind", .str z), ("rules", .ref r), ("text", .str t)])) tl = none → ∃ lsA, ([some (V.ref c), some (.str z), some (.ref r), some (.str t)] : List (Option V)) = [some (.ref c), some (.str z), some (.ref r), some (.str t)] ∧ KeepB c H (upd (upd (upd (upd (upd H c (.ins C dx [("kind", .str z)])) c (.ins C dx [("kind", .str z), ("rules", .ref r)])) c (.ins C dx [("kind", .str z), ("rules", .ref r), ("text", .str t)])) tl (.lst (ls.map V.str))) c (.ins C dx [("kind", .str z), ("rules", .ref r), ("text", .str t), ("own_lines", .ref tl)])) ∧ H lsA = none ∧ lsA ≠ c ∧ (upd (upd (upd (upd (upd H c (.ins C dx [("kind", .str z)])) c (.ins C dx [("kind", .str z), ("rules", .ref r)])) c (.ins C dx [("kind", .str z), ("rules", .ref r), ("text", .str t)])) tl (.lst (ls.map V.str))) c (.ins C dx [("kind", .str z), ("rules", .ref r), ("text", .str t), ("own_lines", .ref tl)])) lsA = some (.lst ((linesM t).map V.str)) ∧ (upd (upd (upd (upd (upd H c (.ins C dx [("kind", .str z)])) c (.ins C dx [("kind", .str z), ("rules", .ref r)])) c (.ins C dx [("kind", .str z), ("rules", .ref r), ("text", .str t)])) tl (.lst (ls.map V.str))) c (.ins C dx [("kind", .str z), ("rules", .ref r), ("text", .str t), ("own_lines", .ref tl)])) c = some (.ins C dx [("kind", .str z), ("rules", .ref r), ("text", .str t), ("own_lines", .ref lsA)]) := fun ls tl e n => by
        have nc : tl ≠ c := fun q => by rw [q, upd_same] at n; cases n
        have n0 : H tl = none := by
          rw [upd_ne nc, upd_ne nc, upd_ne nc] at n
          exact n
        refine ⟨tl, rfl, fun b o nb h => ?_, n0, nc, ?_, upd_same⟩
        · rw [upd_ne nb]
          exact same_new n _ _ (k0 b o nb h)
        · rw [upd_ne nc, upd_same, e]
      refine ⟨_, rfl, rfl, _, rfl, ite2 (fun e => ?_) fun e => ?_⟩
      · have ne := neE e
        refine ⟨_, rfl, ⟨_, rfl⟩, t, "\n", rfl, rfl, rfl, Nat.le_trans (Nat.add_le_add_right ht.1 2) (by decide), fun tl htl => ?_⟩
        refine ⟨_, rfl, c, C, dx, _, rfl, same_new htl _ _ upd_same, CC.cls, no _ (by simp), by show 3 < 1000; decide, ?_⟩
        exact fin _ tl (by unfold linesM; rw [if_neg ne]) htl
      · have ne := neN e
        refine ⟨by show 0 ≤ sizeLine; decide, fun tl htl => ?_⟩
        refine ⟨_, rfl, c, C, dx, _, rfl, same_new htl _ _ upd_same, CC.cls, no _ (by simp), by show 3 < 1000; decide, ?_⟩
        exact fin [] tl (by unfold linesM; rw [if_pos ne]) htl
    · rintro σ H1 ⟨ls, rfl, k1, nls, nlc, hls, hc1⟩
      refine ⟨_, rfl, c, C, dx, _, .ref ls, rfl, hc1, CC.cls, no _ (by simp), rfl, ls, _, rfl, .inl (SqL.of hls), _, _, rfl, rfl, _, rfl, ite2 (fun e => ?_) fun e => ?_⟩
      · have many : (linesM t).length > 40 := by
          have := of_decide_eq_true e
          rw [List.length_map] at this
          omega
        refine ⟨_, rfl, c, C, dx, _, .ref ls, rfl, hc1, CC.cls, no _ (by simp), rfl, ls, _, rfl, .inl (SqL.of hls), fun dd hd => ?_⟩
        rw [List.length_map]
        refine qe "TooMany" _ ?_ dd H1 k1 hd
        unfold codeM
        rw [ek]
        dsimp only
        rw [if_pos many]
        rfl
      · have few : ¬ (linesM t).length > 40 := fun q => e (decide_eq_true (by rw [List.length_map]; omega))
        have eR : codeM (.str z) t (decide (sty = "taken")) ((lineM x1).d * (lineM x2).d) = (match readM t with
            | .error e => .line e
            | .ok rows => match limitsM rows (decide (sty = "taken")) ((lineM x1).d * (lineM x2).d) with
              | .fine => .made z rows
              | .many n => .ifs n
              | .refused l => .refused l) := by
          unfold codeM
          rw [ek]
          dsimp only
          rw [if_neg few]
        rw [eR] at qe q
        refine ⟨_, rfl, t, rfl, ht, by omega, fun el er d2 H2 s2 n2 => ?_, fun rows er a rr H2 s2 na ha hrr => ?_⟩
        · rw [er] at qe
          exact qe "BadLine" _ rfl d2 H2 (k1.trans s2.keepB) n2
        · rw [er] at qe q
          have r2 := s2 _ _ hc1
          refine ⟨_, rfl, c, C, dx, _, rfl, r2, CC.cls, no _ (by simp), by show 4 < 1000; decide, ?_⟩
          have k3 : KeepB c H (upd H2 c (.ins C dx [("kind", .str z), ("rules", .ref r), ("text", .str t), ("own_lines", .ref ls), ("rows", .ref a)])) := (k1.trans s2.keepB).trans KeepB.upd
          have kp : Keeps (fun b => H1 b = none) H2 (upd H2 c (.ins C dx [("kind", .str z), ("rules", .ref r), ("text", .str t), ("own_lines", .ref ls), ("rows", .ref a)])) := ⟨fun b xs e => by
            rw [upd_ne (fun y => by rw [y, r2] at e; cases e)]
            exact e, fun b xs _ e => by
            rw [upd_ne (fun y => by rw [y, r2] at e; cases e)]
            exact e⟩
          have fr3 : ∀ b, H1 b = none → H b = none ∧ b ≠ c := fun b y => by
            have nb : b ≠ c := fun u => by rw [u, hc1] at y; cases y
            refine ⟨?_, nb⟩
            cases e : H b with
            | none => rfl
            | some o =>
              rw [k1 _ _ nb e] at y
              cases y
          have hrr3 := hrr.keep (fr' := fun b => H b = none ∧ b ≠ c) kp fr3
          have ha3 : (upd H2 c (.ins C dx [("kind", .str z), ("rules", .ref r), ("text", .str t), ("own_lines", .ref ls), ("rows", .ref a)])) a = some (.lst (rr.map V.ref)) := by
            rw [upd_ne (fun y => by rw [y, r2] at ha; cases ha)]
            exact ha
          have hls3 : (upd H2 c (.ins C dx [("kind", .str z), ("rules", .ref r), ("text", .str t), ("own_lines", .ref ls), ("rows", .ref a)])) ls = some (.lst ((linesM t).map V.str)) := by
            rw [upd_ne nlc]
            exact s2 _ _ hls
          have R3 := R.keepB hC k3
          obtain ⟨f1, f2⟩ := readM_few er
          refine ⟨_, rfl, c, C, dx, _, .ref a, rfl, upd_same, CC.cls, no _ (by simp), rfl, _, rfl, a, r, _, rr, rows, sty, cap, low, root, x1, x2, rfl, ha3, hrr3, readM_good er, by omega, by omega, R3, fun ef H4 s4 => ?_, fun n en => ?_, fun l el => ?_⟩
          · intro tb htb
            have c4 := s4 _ _ (upd_same (H := H2) (a := c) (o := HO.ins C dx [("kind", .str z), ("rules", .ref r), ("text", .str t), ("own_lines", .ref ls), ("rows", .ref a)]))
            refine ⟨_, rfl, c, C, dx, _, rfl, same_new htb _ _ c4, CC.cls, no _ (by simp), by show 5 < 1000; decide, ?_⟩
            have ntb : tb ≠ c := fun y => by rw [y, c4] at htb; cases htb
            have kk5 := ((k3.trans s4.keepB).trans (same_new (o := .dK []) htb).keepB).trans (KeepB.upd (b := c) (o := .ins C dx (codeF z r t ls a tb)))
            have s5 := same_new (o := .dK []) htb
            have up : ∀ {b o}, b ≠ c → H4 b = some o → (upd (upd H4 tb (.dK [])) c (.ins C dx (codeF z r t ls a tb))) b = some o := fun {b o} nb e => by
              rw [upd_ne nb]
              exact s5 _ _ e
            have nac : a ≠ c := fun y => by rw [y, r2] at ha; cases ha
            have ntH : H tb = none := by
              cases e : H tb with
              | none => rfl
              | some o =>
                have := s4 _ _ (k3 _ _ ntb e)
                rw [this] at htb
                cases htb
            have naH : H a = none := (fr3 a na).1
            dsimp only at q
            rw [ef] at q
            refine q z rows rfl _ ls a tb rr (fun b => H b = none ∧ b ≠ c) kk5 ⟨upd_same, up nlc (s4 _ _ hls3), up nac (s4 _ _ ha3), hrr3.keep ⟨fun b xs e => ?_, fun b xs f e => up f.2 (s4 _ _ e)⟩ fun _ y => y, ?_⟩ (fun _ y => y) nls naH ntH
            · refine up (fun y => ?_) (s4 _ _ e)
              rw [y, upd_same] at e
              cases e
            · rw [upd_ne ntb]
              exact upd_same
          · intro d H4 s4 n4
            dsimp only at qe
            rw [en] at qe
            exact qe "TooMany" _ rfl d H4 (k3.trans s4.keepB) n4
          · intro d H4 s4 n4
            dsimp only at qe
            rw [el] at qe
            exact qe "Refused" _ rfl d H4 (k3.trans s4.keepB) n4
end
end Pk
namespace Pk
open L2 PyProof.Rows PySem.Spec PySem
abbrev sCLen : Stmt := inClass (top 57) 1
abbrev sCGet : Stmt := inClass (top 57) 3
abbrev sCEq : Stmt := inClass (top 57) 4
/-- at c: a code of this kind, these rules, this text -/
def CodeK (C RC : Addr) (H : Hp) (c : Addr) (kind : Str) (t : Str) (r : Addr) (k : RK) : Prop := RulesK RC H r k ∧ ∃ rows dx ls ra tb rr fr, CodeAt C H c kind r t rows dx ls ra tb rr fr
theorem RulesK.same {C : Addr} {H H' : Hp} {r : Addr} {k : RK} (h : RulesK C H r k) (s : Same H H') : RulesK C H' r k := by
  obtain ⟨x1, x2, R⟩ := h
  exact ⟨x1, x2, R.same s⟩
theorem CodeK.same {C RC : Addr} {H H' : Hp} {c : Addr} {kind t : Str} {r : Addr} {k : RK} (h : CodeK C RC H c kind t r k) (s : Same H H') : CodeK C RC H' c kind t r k := by
  obtain ⟨R, rows, dx, ls, ra, tb, rr, fr, z⟩ := h
  exact ⟨R.same s, rows, dx, ls, ra, tb, rr, fr, z.same s⟩
def spCLen (C RC : Addr) : Sp := fun vs H Q _ => ∃ (c r : Addr) (kind t : Str) (k : RK), vs = [.ref c] ∧ CodeK C RC H c kind t r k ∧ Q (.int ((linesM t).length : Nat)) H
def spCGet (C RC : Addr) : Sp := fun vs H Q _ => ∃ (c r : Addr) (kind t : Str) (k : RK) (n : Nat) (l : Str), vs = [.ref c, .int ((n : Int) + 1)] ∧ CodeK C RC H c kind t r k ∧ (linesM t)[n]? = some l ∧ Q (.str l) H
/-- what is compared of two codes -/
structure CK where
  kind : Str
  text : Str
  rules : RK
deriving DecidableEq
def ckD (kind t : Str) : PyData := .tuple [.str kind, .str t]
theorem ck_eqv (a b x y : Str) : PyData.eqv (ckD a b) (ckD x y) = decide (a = x ∧ b = y) := by
  simp only [ckD, PyData.eqv, PyData.eqvAll, Bool.and_true]
  by_cases h1 : a = x
  · by_cases h2 : b = y
    · simp [h1, h2]
    · simp [h1, h2]
  · simp [h1]
theorem ck_shaped {a b : Str} (h : (ckD a b).canLay0 = true) : SeqAt.shaped (ckD a b) = true := by
  have d : (ckD a b).depth ≤ 64 := by
    simp [ckD, PyData.depth, PyData.depthAll]
  exact Bool.and_eq_true_iff.mpr ⟨h, decide_eq_true d⟩
structure InsC (K : PySem.W.Frag) (C : Addr) : (Prop) where
  ha : (PySem.W.findIn K (.ref C) "__class__") = some (some (.builtin "object.__class__"))
  hn : (PySem.W.specialIn K (.builtin "object.__class__") "__get__") = some (some (.builtin "getset_descriptor.__get__"))
  ht : (PySem.W.takesIn K (.builtin "object.__class__")) = some true
  hm : (PySem.W.mroIn K C (.type "object")) = some true
  self : PySem.W.kitOne K (.ref C) (.ref C) = some true
  str : PySem.W.kitOne K (.type "str") (.ref C) = some false
def spCEq (K : PySem.W.Frag) (C RC : Addr) : Sp := fun vs H Q _ => ∃ (c r : Addr) (y : V) (kind t : Str) (k : RK), vs = [.ref c, y] ∧ CodeK C RC H c kind t r k ∧
  ((∃ s, y = .str s ∧ Q (.bl false) H) ∨ ∃ c2 r2 kind2 t2 k2, y = .ref c2 ∧ CodeK C RC H c2 kind2 t2 r2 k2 ∧ (ckD kind t).canLay0 = true ∧ (ckD kind2 t2).canLay0 = true ∧ (rkD k).canLay0 = true ∧ (rkD k2).canLay0 = true ∧ ∀ H', Same H H' → Q (.bl (decide (kind = kind2 ∧ t = t2 ∧ k = k2))) H')
section
variable {K : PySem.W.Frag} {P : Program} {w : World} {base : Heap} {mg : Str → Option Value} {C fI RC fRI : Addr}
theorem sc_Code___len__ : FnScope ["self"] ["self"] (defScope sCLen) := ⟨rfl, rfl, rfl, by decide +kernel, rfl, by decide +kernel, by decide +kernel⟩
theorem ok_Code_len {f : Addr} {fd : FuncData} (F : FunD K "__len__" "Code.__len__" (defArgs sCLen) (defBody sCLen) (defScope sCLen) [] [] f fd) (CC : CodeC K mg C fI) (mLen : mg "len" = none) : FnOk P w K mg base CX0 1 f fd ["self"] (spCLen C RC) := by
  refine F.ok sc_Code___len__ (fun vs H Q E h => ?_) (fun cdv A outer s H vs Q E hr h => ?_)
  · obtain ⟨c, r, kind, t, k, rfl, _⟩ := h
    rfl
  · obtain ⟨c, r, kind, t, k, rfl, ⟨R, rows, dx, ls, ra, tb, rr, fr, z⟩, q⟩ := h
    refine ⟨_, PSs.nox (pss_one (by exact (ps_ret (pe_callB call_len_seq (by rfl) mLen PySem.boot_len (pa_cons (pe_fld (pv 0) rfl) pa_nil))))), ?_⟩
    refine ⟨_, rfl, c, C, dx, _, .ref ls, rfl, z.h, CC.cls, CC.no _ (by simp), rfl, ls, _, rfl, .inl (SqL.of z.ls), ?_⟩
    rw [List.length_map]
    exact q
theorem sc_Code___getitem__ : FnScope ["self", "k"] ["self", "k"] (defScope sCGet) := ⟨rfl, rfl, rfl, by decide +kernel, rfl, by decide +kernel, by decide +kernel⟩
theorem ok_Code_getitem {f : Addr} {fd : FuncData} (F : FunD K "__getitem__" "Code.__getitem__" (defArgs sCGet) (defBody sCGet) (defScope sCGet) [] [] f fd) (CC : CodeC K mg C fI) : FnOk P w K mg base CX0 1 f fd ["self", "k"] (spCGet C RC) := by
  refine F.ok sc_Code___getitem__ (fun vs H Q E h => ?_) (fun cdv A outer s H vs Q E hr h => ?_)
  · obtain ⟨c, r, kind, t, k, n, l, rfl, _⟩ := h
    rfl
  · obtain ⟨c, r, kind, t, k, n, l, rfl, ⟨R, rows, dx, ls, ra, tb, rr, fr, z⟩, hl, q⟩ := h
    refine ⟨_, PSs.nox (pss_one (by exact (ps_ret (pe_ix (ix_listK K rfl) (pe_fld (pv 0) rfl) (pe_op op_sub (pv 1) pe_int) (fun _ _ => rfl))))), ?_⟩
    refine ⟨_, rfl, c, C, dx, _, .ref ls, rfl, z.h, CC.cls, CC.no _ (by simp), rfl, _, rfl, _, _, rfl, rfl, ls, _, (n : Int), .str l, rfl, ?_, SqL.of z.ls, ?_, q⟩
    · show V.int ((n : Int) + 1 - 1) = _
      rw [Int.add_sub_cancel]
    · have e : ((linesM t).map V.str)[n]? = some (.str l) := by
        rw [List.getElem?_map, hl]
        rfl
      exact atI_nat e
theorem sc_Code___eq__ : FnScope ["self", "other"] ["self", "other"] (defScope sCEq) := ⟨rfl, rfl, rfl, by decide +kernel, rfl, by decide +kernel, by decide +kernel⟩
theorem ok_Code_eq {f fE : Addr} {fd fdE : FuncData} (F : FunD K "__eq__" "Code.__eq__" (defArgs sCEq) (defBody sCEq) (defScope sCEq) [] [] f fd) (CC : CodeC K mg C fI) (II : InsC K C) (EC : EqC K RC fE) (GE : FnOk P w K mg base CX0 1 fE fdE ["self", "other"] (spEqR K RC)) (bE : Binds K fdE ["self", "other"] []) (nf : PySem.W.notFirst K RC (.ref RC) = true) (RCc : RulesC K mg RC fRI) (IR : InsIs K RC) (mIsi : mg "isinstance" = none) : FnOk P w K mg base CX0 2 f fd ["self", "other"] (spCEq K C RC) := by
  refine F.ok sc_Code___eq__ (fun vs H Q E h => ?_) (fun cdv A outer s H vs Q E hr h => ?_)
  · obtain ⟨c, r, y, kind, t, k, rfl, _⟩ := h
    rfl
  · obtain ⟨c, r, y, kind, t, k, rfl, Z, hy⟩ := h
    obtain ⟨R, rows, dx, ls, ra, tb, rr, fr, z⟩ := id Z
    refine ⟨_, PSs.nox (pss_cons (by exact (ps_if (pt_not (pt_val (pe_callB call_isi (by rfl) mIsi PyProof.Rows.boot_isinstance (pa_cons (pv 1) (pa_cons (pe_glob (v := .ref C) (by rfl) CC.g rfl) pa_nil))))) (pss_one (by exact (ps_ret pe_bl))) pss_nil)) (pss_one (by exact (ps_ret (pe_and (pe_cmpR (op_eqDK K rfl (Room.units hr)) (pe_tup (pa_cons (pe_fld (pv 0) rfl) (pa_cons (pe_fld (pv 0) rfl) pa_nil))) (pe_tup (pa_cons (pe_fld (pv 1) rfl) (pa_cons (pe_fld (pv 1) rfl) pa_nil))) (nomark _)) (pe_one (pe_cmpR (op_eqI K rfl EC GE bE (hr.mono (by decide))) (pe_fld (pv 0) rfl) (pe_fld (pv 1) rfl) (nomark _)))))))), ?_⟩
    rcases hy with ⟨x, rfl, q⟩ | ⟨c2, r2, kind2, t2, k2, rfl, Z2, o1, o2, g1, g2, q⟩
    · refine ⟨_, rfl, .str x, _, .type "str", _, _, rfl, .own C, .base (.str x), II.str, _, rfl, ?_⟩
      exact q
    · obtain ⟨R2, rows2, dx2, ls2, ra2, tb2, rr2, fr2, z2⟩ := id Z2
      refine ⟨_, rfl, .ref c2, _, .ref C, _, _, rfl, .own C, .base (.ins z2.h CC.cls II.ha II.hn II.ht II.hm), II.self, _, rfl, ?_⟩
      refine ⟨_, rfl, c, C, dx, _, .str kind, rfl, z.h, CC.cls, CC.no _ (by simp), rfl, _, rfl, c, C, dx, _, .str t, rfl, z.h, CC.cls, CC.no _ (by simp), rfl, by show 2 ≤ sizeLine; decide, fun p1 hp1 => ?_⟩
      have s1 := same_new (o := .tup [.str kind, .str t]) hp1
      refine ⟨_, rfl, c2, C, dx2, _, .str kind2, rfl, s1 _ _ z2.h, CC.cls, CC.no _ (by simp), rfl, _, rfl, c2, C, dx2, _, .str t2, rfl, s1 _ _ z2.h, CC.cls, CC.no _ (by simp), rfl, by show 2 ≤ sizeLine; decide, fun p2 hp2 => ?_⟩
      have s2 := same_new (o := .tup [.str kind2, .str t2]) hp2
      have s12 := s1.trans s2
      refine ⟨ckD kind t, ckD kind2 t2, .tup (SqT.of (s2 _ _ upd_same)) (.cons (.str _) (.cons (.str _) .nil)), .tup (SqT.of upd_same) (.cons (.str _) (.cons (.str _) .nil)), ck_shaped o1, ck_shaped o2, ?_⟩
      rw [ck_eqv]
      refine ⟨_, rfl, ite2 (fun e => ?_) fun e => ?_⟩
      · obtain ⟨e1, e2⟩ := of_decide_eq_true e
        have RA := R.same s12
        have RB := R2.same s12
        obtain ⟨x1, x2, dxr, _, _, _, _, _, hr1, _⟩ := id RA
        obtain ⟨y1, y2, dxr2, _, _, _, _, _, hr2, _⟩ := id RB
        refine ⟨_, rfl, c, C, dx, _, .ref r, rfl, s12 _ _ z.h, CC.cls, CC.no _ (by simp), rfl, _, rfl, c2, C, dx2, _, .ref r2, rfl, s12 _ _ z2.h, CC.cls, CC.no _ (by simp), rfl, r, dxr, _, _, rfl, hr1, .base (.ins hr2 RCc.cls IR.ha IR.hn IR.ht IR.hm), nf, r, k, .ref r2, rfl, RA, .inr ⟨r2, k2, rfl, RB, g1, g2, fun H' s3 => ⟨_, rfl, ?_⟩⟩⟩
        have q2 := q H' (s12.trans s3)
        have e3 : decide (kind = kind2 ∧ t = t2 ∧ k = k2) = decide (k = k2) := by
          by_cases h : k = k2
          · rw [decide_eq_true h, decide_eq_true ⟨e1, e2, h⟩]
          · rw [decide_eq_false h, decide_eq_false fun y => h y.2.2]
        rw [e3] at q2
        exact q2
      · have q2 := q _ s12
        rw [decide_eq_false (fun y : kind = kind2 ∧ t = t2 ∧ k = k2 => e (decide_eq_true ⟨y.1, y.2.1⟩))] at q2
        exact q2
end
end Pk
namespace L2
open PyProof.Rows PySem.Spec PySem
/-! ### len(x), x[k], x an instance of a plain class with its own __len__, __getitem__: what these answer -/
structure OwnC (K : PySem.W.Frag) (C f : Addr) (name : Str) : Prop where
  at_ : PySem.W.findIn K (.ref C) name = some (some (.ref f))
  fn : PySem.W.typeIn K (.ref f) = some (.type "function")
  fnIn : PySem.W.fnIn K f = true
section
variable {X : Cx} {n : Nat} {C f : Addr} {fd : FuncData} {ps : List Str} {sp : Sp}
theorem run_any {A : Around} {pins : List (Addr × Obj)} {σ : St} {H : Hp} {s : Shared} {vs : List V} {us : List Value} {R : Value → Shared → Prop} {Q : VK} (F : FnOk X.prog X.w X.K X.mg X.base CX0 n f fd ps sp) (hb : Binds X.K fd ps []) (hr : Room n A) (fr : A.frames = X.A.frames)
    (I : Inv X pins σ H s) (rel : Vals vs us) (h : sp vs H Q E0) (out : ∀ v H' w s', Inv X pins σ H' s' → RelV v w → Q v H' → R w s') : wpAny (model X.prog X.w) A (call (.ref f) us) R X.xe s := by
  have ev := I.env0
  have e0 : Env0 X.prog X.w X.K X.mg X.base A X.stack s H := ⟨fr.trans ev.frames, ev.mod, ev.bs, ev.bsz, ev.funs, ev.frf, ev.hok, ev.bare⟩
  have hl := F.len _ _ _ _ h
  have bt := hb s us I.kIn (by rw [List.append_nil, ← Vals.length rel]; exact hl)
  rw [List.append_nil] at bt
  refine wpAny_call (codeAny_mono (F.run A X.stack s H ⟨us, []⟩ us vs Q E0 hr e0 bt rel h) fun r s' o => ?_)
  cases r with
  | error _ => exact o.elim
  | ok fl =>
    cases fl with
    | ret w =>
      obtain ⟨v, H', I', rv, q⟩ := I.after o
      exact out v H' w s' I' rv q
    | next => exact o.elim
    | brk => exact o.elim
    | cont => exact o.elim
def rLenI (C : Addr) (sp : Sp) : List V → Hp → VK → Prop := fun xs H Q => ∃ (a dx : Addr) (fs : List (Str × V)), xs = [.ref a] ∧ H a = some (.ins C dx fs) ∧ sp [.ref a] H (fun v H' => ∃ k : Nat, v = .int (k : Nat) ∧ k < 2 ^ 62 ∧ Q (.int (k : Nat)) H') E0
theorem call_lenI (OC : OwnC X.K C f "__len__") (F : FnOk X.prog X.w X.K X.mg X.base CX0 n f fd ps sp) (hb : Binds X.K fd ps []) (hr : Room (n + 1) X.A) : CallR X (.builtin "len") (rLenI C sp) := by
  intro pins s σ H vs us Q I r h; obtain ⟨a, dx, fs, rfl, ha, q⟩ := h
  rw [Vals.ref1 r]
  obtain ⟨mA, J, _⟩ := ins_get I.hok ha; obtain ⟨od, J, _⟩ := J.look
  refine Calls.call_function_entry kind_len plain_len entry_len (args_len1 _) ?_; unfold Builtin.«len»
  refine wpAny_bind (m := oneArg "len" _) (wpAny_pure ?_); refine wpAny_bind (m := callSpecial? (.ref a) (Str.ofString "__len__")) (PySem.W.special_fn I.kIn J OC.at_ OC.fn ?_)
  have rel : Vals [V.ref a] [Value.ref a] := .cons rfl .nil
  refine run_any (A := X.A.in1) F hb hr.in1 rfl I rel q fun v H' w s' I' rv z => ?_
  obtain ⟨k, rfl, hk, q2⟩ := z
  obtain ⟨t, rfl⟩ := rv
  refine wpAny_bind (wpAny_holding (wpAny_pure ?_)); refine wpAny_bind (wpAny_letGo ?_)
  show wpAny _ _ (if ((k : Nat) : Int) < 0 then _ else _) _ _ _
  rw [if_neg (by omega)]
  show wpAny _ _ (if ((k : Nat) : Int) ≥ 2 ^ 63 then _ else _) _ _ _
  rw [if_neg (by omega)]
  exact wpAny_bind (wpAny_mkInt (wpAny_pure ⟨_, rfl, .int k, H', I'.tok _, ⟨_, rfl⟩, q2⟩))
def rIxI (C : Addr) (sp : Sp) : R2 := fun x y H Q => ∃ (a dx : Addr) (fs : List (Str × V)), x = .ref a ∧ H a = some (.ins C dx fs) ∧ sp [.ref a, y] H Q E0
theorem pe_ixI {a b : Expr} {ta tb : TE} {pos : Pos} (K : PySem.W.Frag) (eK : X.K = K) (OC : OwnC K C f "__getitem__") (F : FnOk X.prog X.w X.K X.mg X.base CX0 n f fd ps sp) (hb : Binds X.K fd ps []) (hr : Room (n + 1) X.A) (ha : PE X a ta) (hi : PE X b tb)
    (hsl : ∀ x i, subscripted b true (.ref x) i = runValue (.builtin "lifetime.subscript" ⟨[.ref x, i], []⟩) := by intro _ _; with_unfolding_all rfl) : PE X (.Subscript a b pos) (tOp (rIxI C sp) ta tb) := by
  subst eK
  refine ⟨fun pins s σ H Q I h => ?_⟩; refine Subscript_ (binT ha hi I h fun v u s2 x y H2 I2 rx ry q => ?_)
  obtain ⟨o, dx, fs, rfl, ho, q⟩ := q
  cases rx
  obtain ⟨mA, J, _⟩ := ins_get I2.hok ho
  obtain ⟨od, J, _⟩ := J.look
  obtain ⟨m, hF⟩ := I2.fr
  refine PySem.W.sub_K hF I2.ok.mod.kin J OC.at_ OC.fnIn (by unfold PySem.W.isFn; rw [OC.fn]; rfl) ?_ (hsl _ _)
  have rel : Vals [V.ref o, y] [Value.ref o, u] := .cons rfl (.cons ry .nil)
  exact run_any (A := X.A.in1) F hb hr.in1 rfl I2 rel q fun v H' w s' I' rv z => ⟨v, H', I', rv, z⟩
end
end L2
namespace L2
open PyProof.Rows PySem.Spec PySem
def rJoin (K : PySem.W.Frag) : V → List V → Hp → VK → Prop := fun x xs H Q => ∃ a p, ∃ ys : List Str, x = .str a ∧ xs = [.ref p] ∧ (SqL K H p (ys.map V.str) ∨ SqT K H p (ys.map V.str)) ∧ (ys.map (·.length)).sum + ys.length * a.length ≤ 16777216 ∧ Q (.str (Txt.join a ys)) H
theorem pe_joinK {X : Cx} {o e : Expr} {to te : TE} {apos pos : Pos} (K : PySem.W.Frag) (eK : X.K = K) (ho : PE X o to) (he : PE X e te) (hs : starEach [e] X.env = [(false, eval e X.env)] := by rfl) (hbase : attributeBase o "join" X.env (eval o X.env) = eval o X.env := by rfl) (hline : (apos.endLine == pos.line) = true := by rfl) :
    PE X (.Call (.Attribute o "join" apos) [e] [] pos) (tM1 (rJoin K) to te) := by
  subst eK
  exact pe_join ho he hs hbase hline
end L2
namespace Pk
open L2 PyProof.Rows PySem.Spec PySem
/-! ### shares written from numbers are read back -/
inductive It where
  | num (n : Nat)
  | fac (f : Nat)
def numS (n : Nat) : Str := Str.ofString (toString (n : Int))
def itW : It → List Str
  | .num n => [numS n]
  | .fac f => if f ≤ 1 then ["k"] else [numS f, "*", "k"]
def itT : It → Nat × Option Str
  | .num n => (n, none)
  | .fac f => (f, some "k")
def itOk : It → Bool
  | .num n => decide (n < 12)
  | .fac f => decide (1 ≤ f) && decide (f ≤ 12)
theorem num_small : ∀ n, n < 13 → numM (numS n) = some n ∧ ¬ numS n ∈ ATOMSL ∧ numS n ≠ "+" ∧ numS n ≠ "-" ∧ numS n ≠ "//" ∧ ¬ 32 ∈ (numS n).cps.toList := by decide +kernel
theorem it_term {i : It} (h : itOk i = true) : termM (itW i) = some (itT i) := by
  cases i with
  | num n =>
    have h' : n < 12 := of_decide_eq_true h
    obtain ⟨a, b, _⟩ := num_small n (by omega)
    show termM [numS n] = _
    rw [termM_1, if_neg b, a]
    rfl
  | fac f =>
    obtain ⟨h1, h2⟩ := Bool.and_eq_true_iff.mp (show (decide (1 ≤ f) && decide (f ≤ 12)) = true from h)
    have h1 := of_decide_eq_true h1
    have h2 := of_decide_eq_true h2
    obtain ⟨a, b, _⟩ := num_small f (by omega)
    by_cases hf : f ≤ 1
    · have e : f = 1 := by omega
      subst e
      decide +kernel
    · show termM (if f ≤ 1 then ["k"] else [numS f, "*", "k"]) = _
      rw [if_neg hf, termM_3, a, if_pos ⟨rfl, by decide +kernel⟩]
      show (if 2 ≤ f ∧ f ≤ 12 then some (f, some ("k" : Str)) else none) = _
      rw [if_pos ⟨by omega, h2⟩]
      rfl
theorem it_plain {i : It} (h : itOk i = true) : ∀ w ∈ itW i, w ≠ "+" ∧ w ≠ "-" ∧ w ≠ "//" ∧ ¬ 32 ∈ w.cps.toList := by
  have k : ("k" : Str) ≠ "+" ∧ ("k" : Str) ≠ "-" ∧ ("k" : Str) ≠ "//" ∧ ¬ 32 ∈ ("k" : Str).cps.toList := by decide +kernel
  have s : ("*" : Str) ≠ "+" ∧ ("*" : Str) ≠ "-" ∧ ("*" : Str) ≠ "//" ∧ ¬ 32 ∈ ("*" : Str).cps.toList := by decide +kernel
  intro w hw
  cases i with
  | num n =>
    have h' : n < 12 := of_decide_eq_true h
    obtain ⟨_, _, q⟩ := num_small n (by omega)
    rw [List.mem_singleton.mp (show w ∈ [numS n] from hw)]
    exact q
  | fac f =>
    obtain ⟨h1, h2⟩ := Bool.and_eq_true_iff.mp (show (decide (1 ≤ f) && decide (f ≤ 12)) = true from h)
    have h2 := of_decide_eq_true h2
    obtain ⟨_, _, q⟩ := num_small f (by omega)
    by_cases hf : f ≤ 1
    · have e : itW (.fac f) = [("k" : Str)] := if_pos hf
      rw [e] at hw
      rw [List.mem_singleton.mp hw]
      exact k
    · have e : itW (.fac f) = [numS f, ("*" : Str), ("k" : Str)] := if_neg hf
      rw [e] at hw
      simp only [List.mem_cons, List.not_mem_nil, or_false] at hw
      rcases hw with e | e | e <;> rw [e]
      · exact q
      · exact s
      · exact k
theorem sumGo_take : ∀ (us : List Str) (W : List Str) (found : List Term) (term : List Str) (sign : Int), (∀ w ∈ us, w ≠ "+" ∧ w ≠ "-") → sumGo (us ++ W) found term sign = sumGo W found (term ++ us) sign
  | [], W, found, term, sign, _ => by rw [List.nil_append, List.append_nil]
  | u :: us, W, found, term, sign, h => by
    obtain ⟨a, b⟩ := h u (by simp)
    rw [List.cons_append, sumGo, if_neg (fun z => z.elim a b), sumGo_take us W found (term ++ [u]) sign fun w hw => h w (List.mem_cons_of_mem _ hw), List.append_assoc]
    rfl
theorem sumGo_it {i : It} (h : itOk i = true) {sw : Str} (hs : sw = "+" ∨ sw = "-") (W : List Str) (found : List Term) (sign : Int) : sumGo (itW i ++ (sw :: W)) found [] sign = sumGo W (found ++ [(sign * ((itT i).1 : Nat), (itT i).2)]) [] (if sw = "+" then 1 else -1) := by
  rw [sumGo_take _ _ _ _ _ fun w hw => ⟨(it_plain h w hw).1, (it_plain h w hw).2.1⟩, List.nil_append, sumGo, if_pos hs, it_term h]
/-- sign words: false +, true - -/
def sgW (s : Bool) : Str := if s then "-" else "+"
def sgZ (s : Bool) : Int := if s then -1 else 1
def restW : List (Bool × It) → List Str
  | [] => []
  | p :: r => sgW p.1 :: (itW p.2 ++ restW r)
def termsOf (s : Bool) (i : It) : List (Bool × It) → List Term
  | [] => [(sgZ s * ((itT i).1 : Nat), (itT i).2)]
  | p :: r => (sgZ s * ((itT i).1 : Nat), (itT i).2) :: termsOf p.1 p.2 r
theorem sgW_ok (s : Bool) : (sgW s = "+" ∨ sgW s = "-") ∧ (if sgW s = "+" then (1 : Int) else -1) = sgZ s := by
  cases s <;> decide +kernel
theorem sumGo_all : ∀ (r : List (Bool × It)) (s : Bool) (i : It) (found : List Term), itOk i = true → (∀ p ∈ r, itOk p.2 = true) → sumGo (itW i ++ restW r ++ [("+" : Str)]) found [] (sgZ s) = some (found ++ termsOf s i r)
  | [], s, i, found, h, _ => by
    rw [restW, List.append_nil, sumGo_it h (.inl rfl), sumGo]
    rfl
  | p :: r, s, i, found, h, hr => by
    obtain ⟨a, b⟩ := sgW_ok p.1
    have e : itW i ++ restW (p :: r) ++ [("+" : Str)] = itW i ++ (sgW p.1 :: (itW p.2 ++ restW r ++ [("+" : Str)])) := by
      rw [restW, List.append_assoc]
      rfl
    rw [e, sumGo_it h a, b, sumGo_all r p.1 p.2 _ (hr p (by simp)) fun q hq => hr q (List.mem_cons_of_mem _ hq), List.append_assoc]
    rfl
theorem sumM_all {r : List (Bool × It)} {i : It} (h : itOk i = true) (hr : ∀ p ∈ r, itOk p.2 = true) (ok : sumOk (termsOf false i r) = true) : sumM (itW i ++ restW r) = some (termsOf false i r) := by
  unfold sumM
  have q := sumGo_all r false i [] h hr
  rw [show sgZ false = 1 from rfl, List.nil_append] at q
  rw [q]
  exact if_pos ok
end Pk
namespace L2
open PyProof.Rows PySem.Spec PySem
/-! ### text * 0, text * 1 -/
def rTimes01 : R2 := fun x y H Q => ∃ (z : Str) (b : Bool), x = .str z ∧ y = .int (if b then 1 else 0) ∧ Q (.str (if b then z else Str.empty)) H
theorem op_times01 {X : Cx} : OpR X (binaryOp .Mult) rTimes01 := by
  intro pins s σ H x y v u Q I rx ry h; obtain ⟨z, b, rfl, rfl, q⟩ := h
  obtain ⟨t, rfl⟩ := rx
  obtain ⟨t', rfl⟩ := ry
  cases b with
  | false => exact P.mul_str_none (by decide) (by decide) ⟨.str Str.empty, H, I.tok _, ⟨_, rfl⟩, q⟩
  | true =>
    refine P.mul_str (n := 1) (by decide) (fun _ z => by cases z) (fun _ z => by cases z) ?_
    rw [if_neg (show ¬ (1 : Int) < 1 by decide), if_pos (show ((1 : Int) == 1 || z.length == 0) = true by rfl)]
    exact ⟨L2.V.str z, H, I, ⟨t, rfl⟩, q⟩
end L2
namespace Pk
open L2 PyProof.Rows PySem.Spec PySem
def goodT (s : Str) : Prop := s.length ≤ 900000 ∧ (PyData.str s).canLay0 = true ∧ ∃ x, shareM s = some x
def goodK (k : RK) : Prop := k.sty ∈ STYL ∧ goodT k.cap ∧ goodT k.low
theorem goodK.lay {k : RK} (h : goodK k) : (rkD k).canLay0 = true := by
  have s : ∀ z ∈ STYL, (PyData.str z).canLay0 = true := by decide +kernel
  have a := s _ h.1
  have b := h.2.1.2.1
  have c := h.2.2.2.1
  simp only [rkD, PyData.canLay0, PyData.canLayAll0] at a b c ⊢
  rw [a, b, c]
  rfl
section
variable {K : PySem.W.Frag} {P : Program} {w : World} {base : Heap} {mg : Str → Option Value} {C fI : Addr}
/-- Rules(..) of good texts -/
theorem mk_rules {H : Hp} {Q : VK} (k : RK) (g : goodK k) {x dx : Addr} (nx : H x = none) (nd : H dx = none) (ndx : dx ≠ x) (q : ∀ H', Same H H' → RulesK C H' x k → Q .non H') :
    spInit K C [.ref x, .str k.sty, .str k.cap, .str k.low, .bl k.root] (upd (upd H dx (.own x)) x (.ins C dx [])) Q (fun _ _ _ => False) := by
  obtain ⟨hs, ⟨l1, _, x1, e1⟩, l2, _, x2, e2⟩ := g
  have nx' : upd H dx (.own x) x = none := by
    rw [upd_ne (Ne.symm ndx)]
    exact nx
  have sA : Same H (upd (upd H dx (.own x)) x (.ins C dx [])) := (same_new nd).step nx'
  refine ⟨x, dx, .str k.sty, .str k.cap, .str k.low, .bl k.root, _, _, _, rfl, upd_same, Kd.str, Kd.str, Kd.str, decide_eq_true l1, decide_eq_true l2, fun z => ?_, fun sty es => ⟨fun z => ?_, fun y1 h1 => ⟨fun z => ?_, fun y2 h2 H' kB R => q H' (fun u o e => ?_) ?_⟩⟩⟩
  · have z' : (if k.sty ∈ STYL then some k.sty else none) = none := z
    rw [if_pos hs] at z'
    cases z'
  · have z' : shareM k.cap = none := z
    rw [e1] at z'
    cases z'
  · have z' : shareM k.low = none := z
    rw [e2] at z'
    cases z'
  · have ux : u ≠ x := fun z => by
      rw [z, nx] at e
      cases e
    exact kB u o ux (sA u o e)
  · have es' : (if k.sty ∈ STYL then some k.sty else none) = some sty := es
    rw [if_pos hs] at es'
    cases es'
    exact ⟨y1, y2, R⟩
theorem RulesK.same2 {H H' : Hp} {r : Addr} {k : RK} (h : RulesK C H r k) (s : Same H H') : RulesK C H' r k := by
  obtain ⟨x1, x2, R⟩ := h
  exact ⟨x1, x2, R.same s⟩
/-- rules == rules -/
theorem eq_rules {H : Hp} {Q : VK} {r r2 : Addr} {k k2 : RK} (RC : RulesC K mg C fI) (II : InsIs K C) (h : RulesK C H r k) (h2 : RulesK C H r2 k2) (g : goodK k) (g2 : goodK k2) (nf : PySem.W.notFirst K C (.ref C) = true) (q : ∀ H', Same H H' → Q (.bl (decide (k = k2))) H') : rEqI K C (spEqR K C) (.ref r) (.ref r2) H Q := by
  obtain ⟨x1, x2, dx, os, p1, p2, cs, ls, e, _⟩ := id h
  obtain ⟨y1, y2, dx2, os2, p3, p4, cs2, ls2, e2, _⟩ := id h2
  exact ⟨r, dx, _, _, rfl, e, .base (.ins e2 RC.cls II.ha II.hn II.ht II.hm), nf, r, k, .ref r2, rfl, h, .inr ⟨r2, k2, rfl, h2, g.lay, g2.lay, fun H' s => ⟨_, rfl, q H' s⟩⟩⟩
theorem ne_rules {H : Hp} {Q : VK} {r r2 : Addr} {k k2 : RK} (RC : RulesC K mg C fI) (II : InsIs K C) (h : RulesK C H r k) (h2 : RulesK C H r2 k2) (g : goodK k) (g2 : goodK k2) (nf : PySem.W.notFirst K C (.ref C) = true) (q : ∀ H', Same H H' → Q (.bl !(decide (k = k2))) H') : rNeI K C (spEqR K C) (.ref r) (.ref r2) H Q := by
  obtain ⟨x1, x2, dx, os, p1, p2, cs, ls, e, _⟩ := id h
  obtain ⟨y1, y2, dx2, os2, p3, p4, cs2, ls2, e2, _⟩ := id h2
  exact ⟨r, dx, _, _, rfl, e, .base (.ins e2 RC.cls II.ha II.hn II.ht II.hm), nf, r, k, .ref r2, rfl, h, .inr ⟨r2, k2, rfl, h2, g.lay, g2.lay, fun H' s => ⟨_, rfl, q H' s⟩⟩⟩
/-- rules == a tuple -/
theorem eq_tuple {H : Hp} {Q : VK} {r t : Addr} {k : RK} {xs : List V} (h : RulesK C H r k) (ht : H t = some (.tup xs)) (nf : PySem.W.notFirst K C (.type "tuple") = true) (q : Q (.bl false) H) : rEqI K C (spEqR K C) (.ref r) (.ref t) H Q := by
  obtain ⟨x1, x2, dx, os, p1, p2, cs, ls, e, _⟩ := id h
  exact ⟨r, dx, _, _, rfl, e, .base (.tup ht), nf, r, k, .ref t, rfl, h, .inl ⟨t, xs, rfl, ht, ⟨_, rfl, q⟩⟩⟩
end
end Pk
namespace L2
open PyProof.Rows PySem.Spec PySem
/-! ### two tuples of the very same items, whatever these are -/
def SameIt (v : V) : Prop := flatB v = true ∨ ∃ c, v = .ref c
theorem same_items {A : Around} {s : Shared} : ∀ {xs : List V} {us ws : List Value}, (∀ v ∈ xs, SameIt v) → Vals xs us → Vals xs ws → ∀ j (h1 : j < us.length) (h2 : j < ws.length), SeqAt.EqAt A s us[j] ws[j] true
  | _, _, _, _, .nil, _, j, h1, _ => absurd h1 (Nat.not_lt_zero j)
  | v :: r, _, _, h, .cons a1 b1, .cons a2 b2, 0, _, _ => by
    rcases h v List.mem_cons_self with f | ⟨c, rfl⟩
    · exact eqAt_same a1 a2 f
    · rename_i u _ u' _ _ _
      cases (show u = Value.ref c from a1)
      cases (show u' = Value.ref c from a2)
      exact SeqAt.EqAt.same _
  | v :: r, _, _, h, .cons a1 b1, .cons a2 b2, j + 1, h1, h2 => same_items (fun x hx => h x (List.mem_cons_of_mem _ hx)) b1 b2 j (Nat.lt_of_succ_lt_succ h1) (Nat.lt_of_succ_lt_succ h2)
def rNeM (K : PySem.W.Frag) : R2 := fun x y H Q => rNeD K x y H Q ∨ ∃ a b xs, x = .ref a ∧ y = .ref b ∧ SqT K H a xs ∧ SqT K H b xs ∧ (∀ v ∈ xs, SameIt v) ∧ Q (.bl false) H
theorem op_neM {X : Cx} (K : PySem.W.Frag) (e : X.K = K) (hu : X.A.units + 64 < cLine) : OpR X (compareOp .NotEq) (rNeM K) := by
  subst e
  intro pins s σ H x y v u Q I rx ry h; rcases h with h | ⟨a, b, xs, rfl, rfl, ha, hb, hf, q⟩
  · exact op_neD hu pins s σ H x y v u Q I rx ry h
  · cases (show v = Value.ref a from rx); cases (show u = Value.ref b from ry)
    obtain ⟨us, r1, p1, _⟩ := I.tuple ha
    obtain ⟨ws, r2, p2, _⟩ := I.tuple hb
    refine SeqAt.RcNeAt.tuples (e := fun _ => true) p1 p2 (by omega) (fun j h1 h2 => ?_) X.prog X.w _ _ ?_
    · have k := same_items (A := X.A.in1) (s := s) hf r1 r2 j (by simpa using h1) (by simpa using h2)
      simpa using k
    · have e : us.toArray.size = ws.toArray.size := by
        rw [List.size_toArray, List.size_toArray]; rw [← r1.length, ← r2.length]
      rw [e, Nat.min_self, show ((List.range ws.toArray.size).all fun _ => true) = true from List.all_eq_true.mpr fun _ _ => rfl, beq_self_eq_true]
      exact ⟨.bl false, H, I, rfl, q⟩
end L2
namespace Pk
open L2 PyProof.Rows PySem.Spec PySem
/-! codes made, and compared -/
section
variable {K : PySem.W.Frag} {P : Program} {w : World} {base : Heap} {mg : Str → Option Value} {C fI RC fRI : Addr}
theorem mk_code {H : Hp} {Q : VK} {kind t : Str} {r : Addr} {k : RK} (ht : okT t) (R : RulesK RC H r k) (hm : ∀ p, ∃ rows, codeM (.str kind) t (decide (k.sty = "taken")) p = .made kind rows) {x dx : Addr} (nx : H x = none) (nd : H dx = none) (ndx : dx ≠ x) (q : ∀ H', Same H H' → CodeK C RC H' x kind t r k → Q .non H') :
    spCodeI K C RC [.ref x, .str kind, .ref r, .str t] (upd (upd H dx (.own x)) x (.ins C dx [])) Q (fun _ _ _ => False) := by
  have nx' : upd H dx (.own x) x = none := by
    rw [upd_ne (Ne.symm ndx)]
    exact nx
  have sA : Same H (upd (upd H dx (.own x)) x (.ins C dx [])) := (same_new nd).step nx'
  obtain ⟨x1, x2, R⟩ := R
  obtain ⟨rows, ec⟩ := hm ((lineM x1).d * (lineM x2).d)
  refine ⟨x, dx, r, .str kind, t, _, k.sty, _, _, _, x1, x2, rfl, upd_same, Kd.str, ht, R.same sA, fun y fs ef => ?_, fun kind' rows' ec' H' ls ra tb rr fr k1 Z _ nls nra ntb => ?_⟩
  · rw [ec] at ef
    cases ef
  · rw [ec] at ec'
    cases ec'
    have sZ : Same H H' := fun u o e => k1 u o (fun z => by rw [z, nx] at e; cases e) (sA u o e)
    exact q H' sZ ⟨⟨x1, x2, R.same sZ⟩, rows, dx, ls, ra, tb, rr, fr, Z⟩
theorem kind_lay {kind t : Str} (hk : kind ∈ KINDL) (ht : okT t) : (ckD kind t).canLay0 = true := by
  have a : ∀ z ∈ KINDL, (PyData.str z).canLay0 = true := by decide +kernel
  have b := a _ hk
  have c := ht.2
  simp only [ckD, PyData.canLay0, PyData.canLayAll0] at b c ⊢
  rw [b, c]
  rfl
theorem eq_codes {H : Hp} {Q : VK} {c c2 r r2 : Addr} {kind kind2 t t2 : Str} {k k2 : RK} (CC : CodeC K mg C fI) (II : InsC K C) (nf : PySem.W.notFirst K C (.ref C) = true) (h : CodeK C RC H c kind t r k) (h2 : CodeK C RC H c2 kind2 t2 r2 k2) (hk : kind ∈ KINDL) (hk2 : kind2 ∈ KINDL) (ht : okT t) (ht2 : okT t2) (g : goodK k) (g2 : goodK k2)
    (q : ∀ H', Same H H' → Q (.bl (decide (kind = kind2 ∧ t = t2 ∧ k = k2))) H') : rEqI K C (spCEq K C RC) (.ref c) (.ref c2) H Q := by
  obtain ⟨_, _, _, _, _, _, _, _, Z⟩ := id h
  obtain ⟨_, _, _, _, _, _, _, _, Z2⟩ := id h2
  exact ⟨c, _, _, _, rfl, Z.h, .base (.ins Z2.h CC.cls II.ha II.hn II.ht II.hm), nf, c, r, .ref c2, kind, t, k, rfl, h, .inr ⟨c2, r2, kind2, t2, k2, rfl, h2, kind_lay hk ht, kind_lay hk2 ht2, g.lay, g2.lay, fun H' s => ⟨_, rfl, q H' s⟩⟩⟩
theorem ne_codes {H : Hp} {Q : VK} {c c2 r r2 : Addr} {kind kind2 t t2 : Str} {k k2 : RK} (CC : CodeC K mg C fI) (II : InsC K C) (nf : PySem.W.notFirst K C (.ref C) = true) (h : CodeK C RC H c kind t r k) (h2 : CodeK C RC H c2 kind2 t2 r2 k2) (hk : kind ∈ KINDL) (hk2 : kind2 ∈ KINDL) (ht : okT t) (ht2 : okT t2) (g : goodK k) (g2 : goodK k2)
    (q : ∀ H', Same H H' → Q (.bl !(decide (kind = kind2 ∧ t = t2 ∧ k = k2))) H') : rNeI K C (spCEq K C RC) (.ref c) (.ref c2) H Q := by
  obtain ⟨_, _, _, _, _, _, _, _, Z⟩ := id h
  obtain ⟨_, _, _, _, _, _, _, _, Z2⟩ := id h2
  exact ⟨c, _, _, _, rfl, Z.h, .base (.ins Z2.h CC.cls II.ha II.hn II.ht II.hm), nf, c, r, .ref c2, kind, t, k, rfl, h, .inr ⟨c2, r2, kind2, t2, k2, rfl, h2, kind_lay hk ht, kind_lay hk2 ht2, g.lay, g2.lay, fun H' s => ⟨_, rfl, q H' s⟩⟩⟩
theorem eq_text {H : Hp} {Q : VK} {c r : Addr} {kind t z : Str} {k : RK} (nf : PySem.W.notFirst K C (.type "str") = true) (h : CodeK C RC H c kind t r k) (q : Q (.bl false) H) : rEqI K C (spCEq K C RC) (.ref c) (.str z) H Q := by
  obtain ⟨_, _, _, _, _, _, _, _, Z⟩ := id h
  exact ⟨c, _, _, _, rfl, Z.h, .base (.str z), nf, c, r, .str z, kind, t, k, rfl, h, .inl ⟨z, rfl, ⟨_, rfl, q⟩⟩⟩
end
def shD (s : Str) : Option Nat := (shareM s).map fun x => (lineM x).d
theorem d2k : shD "2 * k" = some 1 := by decide +kernel
theorem d3k : shD "3 * k" = some 1 := by decide +kernel
theorem d1k : shD "k" = some 1 := by decide +kernel
theorem shD_get {s : Str} {n : Nat} (h : shD s = some n) : ∃ x, shareM s = some x := by
  unfold shD at h
  cases e : shareM s with
  | none => (rw [e] at h; cases h)
  | some x => exact ⟨x, rfl⟩
theorem shD_eq {s : Str} {n : Nat} {x : Share} (h : shD s = some n) (e : shareM s = some x) : (lineM x).d = n := by
  unfold shD at h
  rw [e] at h
  exact Option.some.inj h
theorem gT2 : goodT "2 * k" := ⟨by decide +kernel, by decide +kernel, shD_get d2k⟩
theorem gT3 : goodT "3 * k" := ⟨by decide +kernel, by decide +kernel, shD_get d3k⟩
theorem gT1 : goodT "k" := ⟨by decide +kernel, by decide +kernel, shD_get d1k⟩
theorem good_2k {sty : Str} (h : sty ∈ STYL) (b : Bool) : goodK ⟨sty, "2 * k", "k", b⟩ := ⟨h, gT2, gT1⟩
theorem good_3k {sty : Str} (h : sty ∈ STYL) (b : Bool) : goodK ⟨sty, "3 * k", "k", b⟩ := ⟨h, gT3, gT1⟩
theorem RulesK.keepD {RC : Addr} {H H' : Hp} {r b : Addr} {k : RK} {kvs : List (Key × V)} (h : RulesK RC H r k) (hb : H b = some (.dK kvs)) (kp : KeepB b H H') : RulesK RC H' r k := by
  obtain ⟨x1, x2, dx, os, p1, p2, cs, ls, h1, h2, h3, h4, h5, h6, h7, h8⟩ := h
  have t : ∀ b' xs, H b' = some (.tup xs) → H' b' = some (.tup xs) := fun b' xs e => kp b' _ (fun z => by rw [z, hb] at e; cases e) e
  exact ⟨x1, x2, dx, os, p1, p2, cs, ls, kp _ _ (fun z => by rw [z, hb] at h1; cases h1) h1, h2, h3, t _ _ h4, h5.tk t, h6.tk t, t _ _ h7, t _ _ h8⟩
end Pk
namespace Pk
open L2 PyProof.Rows PySem.Spec PySem
abbrev sWholeP : Stmt := top 20
abbrev sIsCase : Stmt := top 22
/-- what may be asked as a case: a tuple, or anything else -/
inductive CaseV (K : PySem.W.Frag) (H : Hp) : V → Option (List V) → Prop
  | tup {p : Addr} {xs : List V} (h : H p = some (.tup xs)) (ki : PySem.W.kitOne K (.type "tuple") (.type "tuple") = some true) (kd : ∀ v ∈ xs, ∃ t, Kd K H v t) : CaseV K H (.ref p) (some xs)
  | odd {x : V} {t : Value} (ty : Kd K H x t) (ki : PySem.W.kitOne K t (.type "tuple") = some false) : CaseV K H x none
theorem CaseV.same {K : PySem.W.Frag} {H H' : Hp} {x : V} {o : Option (List V)} (h : CaseV K H x o) (s : Same H H') : CaseV K H' x o := by
  cases h with
  | tup h ki kd => exact .tup (s _ _ h) ki fun v hv => let ⟨t, k⟩ := kd v hv; ⟨t, k.mono s⟩
  | odd ty ki => exact .odd (ty.mono s) ki
def fitV (low cap : Int) : V → Bool
  | .int c => decide (low ≤ c) && decide (c ≤ cap)
  | _ => false
def notNon : V → Bool
  | .non => false
  | _ => true
def besideL (v1 v3 : V) : List V := [v1, v3].filter notNon
def caseQ (x1 x2 : Share) (under root : Bool) (v0 v1 v2 v3 : V) : Bool := match v0 with
  | .int k => decide (1 ≤ k) && (usedL x1 x2 k && (!((besideL v1 v3).isEmpty && (under || !root)) && (decide (v2 = .int (if under then (lineM x2).at_ k - 1 else (lineM x1).at_ k + 1)) && (besideL v1 v3).all (fitV ((lineM x2).at_ k) ((lineM x1).at_ k)))))
  | _ => false
def caseL (x1 x2 : Share) (under root : Bool) : List V → Bool
  | [v0, v1, v2, v3] => caseQ x1 x2 under root v0 v1 v2 v3
  | _ => false
def caseM (x1 x2 : Share) (under root : Bool) : Option (List V) → Bool
  | some xs => caseL x1 x2 under root xs
  | none => false
theorem tt' {c : Bool} {a b : Prop} (e : c = true) (h : a) : if c = true then a else b := by rw [if_pos e]; exact h
theorem ff' {c : Bool} {a b : Prop} (e : c = false) (h : b) : if c = true then a else b := by rw [if_neg (by rw [e]; decide)]; exact h
theorem ff {a b : Prop} (h : b) : if false = true then a else b := h
theorem at_new {H : Hp} {a : Addr} {o : HO} (_ : H a = none) : upd H a o a = some o := upd_same
theorem notNon_eq (v : V) : notNon v = !decide (v = .non) := by cases v <;> rfl
/-- small enough to be reckoned with -/
def smallV : V → Prop
  | .int k => k.natAbs < 2 ^ 400
  | _ => True
def spIsCase (K : PySem.W.Frag) (C RC : Addr) : Sp := fun vs H Q _ => ∃ (c : Addr) (x : V) (o : Option (List V)) (kind t : Str) (r : Addr) (k : RK) (x1 x2 : Share) (dx ls ra tb : Addr), vs = [.ref c, x] ∧ H c = some (.ins C dx (codeF kind r t ls ra tb)) ∧ kind ∈ KINDL ∧ RulesAt RC H r k.sty (.str k.cap) (.str k.low) (.bl k.root) x1 x2 ∧ CaseV K H x o ∧ (∀ xs, o = some xs → ∀ v ∈ xs, smallV v) ∧
  ∀ H', Same H H' → Q (.bl (caseM x1 x2 (decide (kind = "under")) k.root o)) H'
section
variable {K : PySem.W.Frag} {P : Program} {w : World} {base : Heap} {mg : Str → Option Value} {C fI RC fRI : Addr}
theorem sc_is_whole_play : FnScope ["value"] ["value"] (defScope sWholeP) := ⟨rfl, rfl, rfl, by decide +kernel, rfl, by decide +kernel, by decide +kernel⟩
theorem ok_is_whole_play {f : Addr} {fd : FuncData} (F : FunD K "is_whole" "is_whole" (defArgs sWholeP) (defBody sWholeP) (defScope sWholeP) [] [] f fd) (mIsi : mg "isinstance" = none) (mInt : mg "int" = none) (mBool : mg "bool" = none) : FnOk P w K mg base CX0 1 f fd ["value"] (spWhole K) := by
  refine F.ok sc_is_whole_play (fun vs H Q E h => ?_) (fun cdv A outer s H vs Q E hr h => ?_)
  · obtain ⟨x, t, rfl, _⟩ := h
    rfl
  · obtain ⟨x, t, rfl, hk, q⟩ := h
    refine ⟨_, PSs.nox (pss_one (by exact (ps_ret (pe_and (pe_callB call_isi (by rfl) mIsi PyProof.Rows.boot_isinstance (pa_cons (pv 0) (pa_cons (pe_bltn (v := .ty "int") (by rfl) mInt (by decide +kernel) rfl) pa_nil))) (pe_one (pe_not (pe_callB call_isi (by rfl) mIsi PyProof.Rows.boot_isinstance (pa_cons (pv 0) (pa_cons (pe_bltn (v := .ty "bool") (by rfl) mBool (by decide +kernel) rfl) pa_nil))))))))), ?_⟩
    refine ⟨_, rfl, x, _, t, _, _, rfl, .ty "int", hk.ty, hk.it, _, rfl, ite2 (fun e => ?_) fun e => ?_⟩
    · refine ⟨_, rfl, x, _, t, _, _, rfl, .ty "bool", hk.ty, hk.bt, _, rfl, ?_⟩
      cases x with
      | int i => exact q
      | bl b => exact q
      | _ => cases e
    · cases x with
      | int i => exact absurd rfl e
      | bl b => exact absurd rfl e
      | _ => exact q
theorem sc_is_case : FnScope ["code", "value", "low", "cap", "beside", "count"] ["code", "value"] (defScope sIsCase) := ⟨rfl, rfl, rfl, by decide +kernel, rfl, by decide +kernel, by decide +kernel⟩
theorem ok_is_case {f fW fU fB : Addr} {fd fdW fdU fdB : FuncData} (F : FunD K "is_case" "is_case" (defArgs sIsCase) (defBody sIsCase) (defScope sIsCase) [] [] f fd) (CC : CodeC K mg C fI) (RR : RulesC K mg RC fRI)
    (FW : FunD K "is_whole" "is_whole" (defArgs sWholeP) (defBody sWholeP) (defScope sWholeP) [] [] fW fdW) (GW : FnOk P w K mg base CX0 1 fW fdW ["value"] (spWhole K)) (gW : mg "is_whole_play" = some (.ref fW))
    (FU : FunD K "in_use" "Rules.in_use" (defArgs sInUse) (defBody sInUse) (defScope sInUse) [] [] fU fdU) (GU : FnOk P w K mg base (L2.CX P w) 4 fU fdU ["self", "k"] (spCapQ K RC (fun x1 x2 k => .bl (usedL x1 x2 k)))) (mU : Meth K RC "in_use" fU)
    (FB : FunD K "bounds" "Rules.bounds" (defArgs sBounds) (defBody sBounds) (defScope sBounds) [] [] fB fdB) (GB : FnOk P w K mg base CX0 2 fB fdB ["self", "k"] (spBounds RC)) (mB : Meth K RC "bounds" fB)
    (mIsi : mg "isinstance" = none) (mTuple : mg "tuple" = none) (mLen : mg "len" = none) (mAll : mg "all" = none) : FnOk P w K mg base CX0 6 f fd ["code", "value"] (spIsCase K C RC) := by
  have bW : Binds K fdW ["value"] [] := FW.bindsN fun _ _ _ _ _ _ us hl => match us, hl with | [_], _ => rfl
  have bU : Binds K fdU ["self", "k"] [] := FU.bindsN fun _ _ _ _ _ _ us hl => match us, hl with | [_, _], _ => rfl
  have bB : Binds K fdB ["self", "k"] [] := FB.bindsN fun _ _ _ _ _ _ us hl => match us, hl with | [_, _], _ => rfl
  refine F.ok sc_is_case (fun vs H Q E h => ?_) (fun cdv A outer s H vs Q E hr h => ?_)
  · obtain ⟨c, x, o, kind, t, r, k, x1, x2, dx, ls, ra, tb, rfl, _⟩ := h
    rfl
  · obtain ⟨c, x, o, kind, t, r, k, x1, x2, dx, ls, ra, tb, rfl, hc, hkind, R, cv, hsm, q⟩ := h
    have hu : True := trivial
    refine ⟨_, PSs.nox (pss_cons (by exact (ps_if (PW.pt (pw_or (pt_not (pt_val (pe_callB call_isi (by rfl) mIsi PyProof.Rows.boot_isinstance (pa_cons (pv 1) (pa_cons (pe_bltn (v := .ty "tuple") (by rfl) mTuple (by decide +kernel) rfl) pa_nil))))) (pw_or (pt_cmpR op_ne (pe_callB call_len_seq (by rfl) mLen PySem.boot_len (pa_cons (pv 1) pa_nil)) pe_int (nomark _)) (pw_or (pt_not (pt_val (pe_call GW (hr.mono (by decide)) rfl gW FW.kp bW .nil pass0 (pa_cons (pe_ix (ix_tupK K rfl) (pv 1) pe_int (fun _ _ => rfl)) pa_nil)))) (pw_or1 (pt_cmpR op_lt (pe_ix (ix_tupK K rfl) (pv 1) pe_int (fun _ _ => rfl)) pe_int (nomark _))))))) (pss_one (by exact (ps_ret pe_bl))) pss_nil)) (pss_cons (by exact (ps_if (pt_not (pt_val (pe_meth (pe_fld (pv 0) rfl) RR.cls mU GU (hr.mono (by decide)) bU .nil passF (pa_cons (pe_ix (ix_tupK K rfl) (pv 1) pe_int (fun _ _ => rfl)) pa_nil)))) (pss_one (by exact (ps_ret pe_bl))) pss_nil)) (pss_cons (by exact (ps_asg (pe_meth (pe_fld (pv 0) rfl) RR.cls mB GB (hr.mono (by decide)) bB .nil pass0 (pa_cons (pe_ix (ix_tupK K rfl) (pv 1) pe_int (fun _ _ => rfl)) pa_nil)) (pg_tupK (n := 2) K rfl rfl (pgs_cons (pg_name (i := 2) sc_is_case.nd rfl (Or.inr rfl)) (pgs_cons (pg_name (i := 3) sc_is_case.nd rfl (Or.inr rfl)) pgs_nil))))) (pss_cons (by exact (ps_setLc (i := 4) (own := [("count", 5)]) (g := gName 5) rfl sc_is_case.nd rfl rfl (sw_true rfl rfl rfl (by decide +kernel)) (pi_tup (pe_tup (pa_cons (pe_ix (ix_tupK K rfl) (pv 1) pe_int (fun _ _ => rfl)) (pa_cons (pe_ix (ix_tupK K rfl) (pv 1) pe_int (fun _ _ => rfl)) pa_nil)))) (blkOk_by (N := ["code", "value", "low", "cap", "beside", "count"]) (sc := defScope sIsCase) (by decide +kernel)) (fun _ _ _ _ _ => pg_name (i := 5) sc_is_case.nd rfl (Or.inl rfl)) (fun _ _ _ _ _ => (pts_one (pt_cmp (pc_notN (pv 5))))) (fun _ _ _ _ _ => (pv 5)))) (C8.pss_cut (by exact (ps_if (PW.pt (pw_and (pt_cmpR op_eq (pe_callB call_len_seq (by rfl) mLen PySem.boot_len (pa_cons (pv 4) pa_nil)) pe_int (nomark _)) (pw_and1 (PW.pt (pw_or (pt_cmpR op_eq (pe_fld (pv 0) rfl) pe_str (nomark _)) (pw_or1 (pt_not (pt_val (pe_fld (pe_fld (pv 0) rfl) rfl))))))))) (pss_one (by exact (ps_ret pe_bl))) pss_nil)) (C8.pss_cut (by exact (ps_if (PW.pt (pw_or (pt_not (pt_val (pe_call GW (hr.mono (by decide)) rfl gW FW.kp bW .nil pass0 (pa_cons (pe_ix (ix_tupK K rfl) (pv 1) pe_int (fun _ _ => rfl)) pa_nil)))) (pw_or1 (pt_cmpR op_ne (pe_ix (ix_tupK K rfl) (pv 1) pe_int (fun _ _ => rfl)) (pe_ifExp (pt_cmpR op_eq (pe_fld (pv 0) rfl) pe_str (nomark _)) (pe_op op_add (pv 3) pe_int) (pe_op op_sub (pv 2) pe_int)) (nomark _))))) (pss_one (by exact (ps_ret pe_bl))) pss_nil)) (pss_one (by exact (ps_ret (pe_callB (cr_allK K rfl rfl) (by rfl) mAll (by decide +kernel) (pa_cons (pe_lc (own := [("count", 5)]) (g := gName 5) (tt := tYes) rfl sc_is_case.nd (pi_list (pv 4)) (blkOk_by (N := ["code", "value", "low", "cap", "beside", "count"]) (sc := defScope sIsCase) (by decide +kernel)) (fun _ _ _ _ _ => pg_name (i := 5) sc_is_case.nd rfl (Or.inl rfl)) (fun _ _ _ _ _ => pts_nil) (fun _ _ _ _ _ => (pe_and (pe_call GW (hr.mono (by decide)) rfl gW FW.kp bW .nil pass0 (pa_cons (pv 5) pa_nil)) (pe_one (pe_chain op_le op_le (pv 2) (pv 5) (pv 3)))))) pa_nil))))))))))), ?_⟩
    have fin : caseM x1 x2 (decide (kind = "under")) k.root o = false → ∀ H', Same H H' → Q (.bl false) H' := fun e H' s' => by
      have := q H' s'
      rw [e] at this
      exact this
    cases cv with
    | odd ty ki => exact ⟨_, rfl, x, _, _, _, _, rfl, .ty "tuple", ty.ty, ki, _, rfl, q _ (Same.refl _)⟩
    | tup hp ki kd =>
      rename_i p xs
      refine ⟨_, rfl, .ref p, _, _, _, _, rfl, .ty "tuple", .base (.tup hp), ki, _, rfl, ?_⟩
      refine ff ⟨_, rfl, p, xs, rfl, .inr (SqT.of hp), rfl, _, rfl, ?_⟩
      by_cases h4 : xs.length = 4
      case neg =>
        refine tt' (by rw [decide_eq_false (fun z => h4 (by have := V.int.inj z; omega))]; rfl) (fin ?_ _ (Same.refl _))
        match xs, h4 with
        | [], _ => rfl
        | [_], _ => rfl
        | [_, _], _ => rfl
        | [_, _, _], _ => rfl
        | _ :: _ :: _ :: _ :: _ :: _, _ => rfl
        | [_, _, _, _], h => exact absurd rfl h
      refine ff' (by rw [decide_eq_true (by rw [h4]; rfl)]; rfl) ?_
      obtain ⟨v0, v1, v2, v3, rfl⟩ : ∃ v0 v1 v2 v3, xs = [v0, v1, v2, v3] := by
        match xs, h4 with
        | [a, b, c, d], _ => exact ⟨a, b, c, d, rfl⟩
      obtain ⟨t0, k0⟩ := kd v0 (by simp)
      obtain ⟨t1, k1⟩ := kd v1 (by simp)
      obtain ⟨t2, k2⟩ := kd v2 (by simp)
      obtain ⟨t3, k3⟩ := kd v3 (by simp)
      have sm0 := hsm _ rfl v0 (by simp)
      refine ⟨_, rfl, p, _, 0, v0, rfl, rfl, SqT.of hp, rfl, v0, t0, rfl, k0, _, rfl, ?_⟩
      by_cases hw : wholeV v0 = true
      case neg =>
        refine tt' (by rw [Bool.eq_false_iff.mpr hw]; rfl) (fin ?_ _ (Same.refl _))
        cases v0 <;> first | rfl | exact absurd rfl hw
      refine ff' (by rw [hw]; rfl) ?_
      obtain ⟨n, rfl⟩ : ∃ n, v0 = .int n := by
        cases v0 with
        | int n => exact ⟨n, rfl⟩
        | _ => cases hw
      refine ⟨_, rfl, p, _, 0, .int n, rfl, rfl, SqT.of hp, rfl, _, _, rfl, rfl, _, rfl, ?_⟩
      refine ite2 (fun e => fin ?_ _ (Same.refl _)) fun e => ?_
      · have := of_decide_eq_true e
        show (decide (1 ≤ n) && _) = false
        rw [decide_eq_false (by omega)]; rfl
      have hn : 1 ≤ n := by
        have : ¬ n < 1 := fun z => e (decide_eq_true z)
        omega
      obtain ⟨dr, os, p1, p2, cs, lsr, hr1, hr2, hr3, hr4, _⟩ := id R
      refine ⟨_, rfl, c, C, dx, _, .ref r, rfl, hc, CC.cls, CC.no _ (by simp), rfl, r, dr, _, rfl, hr1, rfl, _, rfl, p, _, 0, .int n, rfl, rfl, SqT.of hp, rfl, ?_⟩
      refine ⟨r, .int n, t0, k.sty, _, _, _, x1, x2, rfl, R, k0, fun k' e => (by cases e; exact sm0), fun k' e h1 H1 s1 => ?_, fun no => absurd hn (no n rfl)⟩
      obtain rfl : n = k' := V.int.inj e
      refine ⟨_, rfl, ?_⟩
      by_cases hu : usedL x1 x2 n = true
      case neg =>
        refine tt' (by rw [Bool.eq_false_iff.mpr hu]; rfl) (fin ?_ _ s1)
        show (decide (1 ≤ n) && (usedL x1 x2 n && _)) = false
        rw [Bool.eq_false_iff.mpr hu, decide_eq_true hn]
        rfl
      refine ff' (by rw [hu]; rfl) ?_
      have R1 := R.same s1
      have hp1 := s1 _ _ hp
      refine ⟨_, rfl, c, C, dx, _, .ref r, rfl, s1 _ _ hc, CC.cls, CC.no _ (by simp), rfl, r, dr, _, rfl, s1 _ _ hr1, rfl, _, rfl, p, _, 0, .int n, rfl, rfl, SqT.of hp1, rfl, ?_⟩
      refine ⟨r, n, k.sty, _, _, _, x1, x2, rfl, R1, sm0, fun pb nb => ?_⟩
      have s2 := same_new (o := .tup [.int ((lineM x2).at_ n), .int ((lineM x1).at_ n)]) nb
      refine ⟨pb, _, rfl, SqT.of upd_same, rfl, _, _, rfl, _, _, rfl, rfl, ?_⟩
      have hp2 := s2 _ _ hp1
      have sH2 := s1.trans s2
      have hc2 := sH2 _ _ hc
      have R2 := R1.same s2
      generalize upd H1 pb _ = H2 at s2 hp2 sH2 hc2 R2 ⊢
      generalize hlow : (lineM x2).at_ n = low at *
      generalize hcap : (lineM x1).at_ n = cap at *
      refine ⟨_, rfl, p, _, 1, v1, rfl, rfl, SqT.of hp2, rfl, _, rfl, p, _, 3, v3, rfl, rfl, SqT.of hp2, rfl, by show 2 ≤ sizeLine; decide, fun pt nt => ?_⟩
      have s3 := same_new (o := .tup [v1, v3]) nt
      have ht3 := at_new nt (o := .tup [v1, v3])
      generalize upd H2 pt _ = H3 at s3 ht3 ⊢
      refine ⟨pt, rfl, ⟨_, SqT.of ht3⟩, fun D hD => lc_tup (K := K) (a := pt) (xs := [v1, v3]) (fun i H' => Same H3 H' ∧ H' D = some (.lst (([v1, v3].take i).filter notNon))) ⟨same_new hD, upd_same⟩ (fun i H' _ h => SqT.of (h.1 _ _ ht3)) ?_ ?_⟩
      · intro i v H' hi ⟨sp, hD'⟩
        refine ⟨rfl, ?_⟩
        have hv : i < 2 := (List.getElem?_eq_some_iff.mp hi).1
        have et : ([v1, v3].take (i + 1)).filter notNon = ([v1, v3].take i).filter notNon ++ [v].filter notNon := by
          rw [List.take_add_one, hi, List.filter_append]
          rfl
        have keep : ∀ acc, Same H3 (upd H' D (.lst acc)) := fun acc u o e => by
          rw [upd_ne (fun z => by rw [z, hD] at e; cases e)]
          exact sp _ _ e
        refine ⟨_, rfl, _, rfl, ite2 (fun e => ?_) fun e => ?_⟩
        · have en : notNon v = true := by rw [notNon_eq]; exact e
          refine ⟨_, rfl, _, hD', ?_, keep _, ?_⟩
          · exact Nat.lt_of_le_of_lt (Nat.le_trans (List.length_filter_le _ _) (List.length_take_le _ _)) (Nat.lt_of_lt_of_le hv (by decide))
          · rw [upd_same, et]
            rw [List.filter_cons_of_pos en]
            rfl
        · have en : ¬ notNon v = true := by rw [notNon_eq]; exact e
          refine ⟨sp, ?_⟩
          rw [hD', et]
          show _ = some (HO.lst (_ ++ [v].filter notNon))
          rw [List.filter_cons_of_neg en]
          show _ = some (HO.lst (_ ++ []))
          rw [List.append_nil]
      · intro H4 ⟨s4, hD4⟩
        have hD4 : H4 D = some (.lst (besideL v1 v3)) := hD4
        have sH4 := sH2.trans (s3.trans s4)
        have hc4 := sH4 _ _ hc
        have R4 := R2.same (s3.trans s4)
        have hr4' := sH4 _ _ hr1
        have hp4 := sH4 _ _ hp
        refine ⟨fun σ H5 => σ = [some (.ref c), some (.ref p), some (.int low), some (.int cap), some (.ref D), none] ∧ H5 = H4 ∧ ((besideL v1 v3).isEmpty && (decide (kind = "under") || !k.root)) = false, ?_, ?_⟩
        · refine ⟨_, rfl, D, _, rfl, .inl (SqL.of hD4), rfl, _, rfl, ?_⟩
          by_cases hb : besideL v1 v3 = []
          · have hbe : (besideL v1 v3).isEmpty = true := by rw [hb]; rfl
            have fin2 : (decide (kind = "under") || !k.root) = true → Q (.bl false) H4 := fun e => fin (by
              show (decide (1 ≤ n) && (usedL x1 x2 n && (!((besideL v1 v3).isEmpty && (decide (kind = "under") || !k.root)) && _))) = false
              rw [hbe, e, Bool.and_comm]
              simp) _ sH4
            refine tt' (by rw [hb]; rfl) ?_
            refine ⟨_, rfl, c, C, dx, _, .str kind, rfl, hc4, CC.cls, CC.no _ (by simp), rfl, rfl, _, rfl, ite2 (fun e => ?_) fun e => ?_⟩
            · have ek : kind = "under" := V.str.inj (of_decide_eq_true e)
              exact fin2 (by rw [ek]; rfl)
            · have ek : ¬ kind = "under" := fun z => e (by rw [z]; rfl)
              refine ⟨_, rfl, c, C, dx, _, .ref r, rfl, hc4, CC.cls, CC.no _ (by simp), rfl, r, RC, dr, _, .bl k.root, rfl, hr4', RR.cls, RR.no _ (by simp), rfl, ?_⟩
              refine ⟨_, rfl, ?_⟩
              cases er : k.root with
              | true => exact ff ⟨rfl, rfl, by rw [hbe, decide_eq_false ek]; rfl⟩
              | false => exact fin2 (by rw [er, Bool.or_comm]; rfl)
          · have hbe : (besideL v1 v3).isEmpty = false := by cases e : besideL v1 v3 with
              | nil => exact absurd e hb
              | cons a b => rfl
            refine ff' (decide_eq_false fun z => hb (List.eq_nil_of_length_eq_zero (by have := V.int.inj z; omega))) ?_
            exact ff ⟨rfl, rfl, by rw [hbe]; rfl⟩
        rintro σ H5 ⟨rfl, rfl, hbe⟩
        have finR : (decide (v2 = .int (if decide (kind = "under") = true then low - 1 else cap + 1)) && (besideL v1 v3).all (fitV low cap)) = false → ∀ H', Same H H' → Q (.bl false) H' := fun e => fin (by
          show (decide (1 ≤ n) && (usedL x1 x2 n && (!((besideL v1 v3).isEmpty && (decide (kind = "under") || !k.root)) && (decide (v2 = .int (if decide (kind = "under") = true then (lineM x2).at_ n - 1 else (lineM x1).at_ n + 1)) && (besideL v1 v3).all (fitV ((lineM x2).at_ n) ((lineM x1).at_ n)))))) = false
          rw [hlow, hcap, e]
          simp)
        have finT : ∀ H', Same H H' → v2 = .int (if decide (kind = "under") = true then low - 1 else cap + 1) → Q (.bl ((besideL v1 v3).all (fitV low cap))) H' := fun H' s' e => by
          have := q H' s'
          have e2 : caseM x1 x2 (decide (kind = "under")) k.root (some [.int n, v1, v2, v3]) = (besideL v1 v3).all (fitV low cap) := by
            show (decide (1 ≤ n) && (usedL x1 x2 n && (!((besideL v1 v3).isEmpty && (decide (kind = "under") || !k.root)) && (decide (v2 = .int (if decide (kind = "under") = true then (lineM x2).at_ n - 1 else (lineM x1).at_ n + 1)) && (besideL v1 v3).all (fitV ((lineM x2).at_ n) ((lineM x1).at_ n)))))) = _
            rw [hlow, hcap, hbe, decide_eq_true hn, hu, decide_eq_true e]
            rfl
          rw [e2] at this
          exact this
        refine ⟨fun σ H6 => σ = [some (.ref c), some (.ref p), some (.int low), some (.int cap), some (.ref D), none] ∧ H6 = H5 ∧ v2 = .int (if decide (kind = "under") = true then low - 1 else cap + 1), ?_, ?_⟩
        · refine ⟨_, rfl, p, _, 2, v2, rfl, rfl, SqT.of hp4, rfl, v2, t2, rfl, k2.mono sH4, _, rfl, ?_⟩
          by_cases hw2 : wholeV v2 = true
          case neg =>
            refine tt' (by rw [Bool.eq_false_iff.mpr hw2]; rfl) (finR ?_ _ sH4)
            rw [decide_eq_false (fun z => hw2 (by rw [z]; rfl))]
            rfl
          refine ff' (by rw [hw2]; rfl) ?_
          obtain ⟨m, rfl⟩ : ∃ m, v2 = .int m := by
            cases v2 with
            | int n => exact ⟨n, rfl⟩
            | _ => cases hw2
          have due : ∀ d : Int, d = (if decide (kind = "under") = true then low - 1 else cap + 1) → ¬ V.int m = V.int d → Q (.bl false) H5 := fun d e z => finR (by
            rw [← e, decide_eq_false z]
            rfl) _ sH4
          refine ⟨_, rfl, p, _, 2, .int m, rfl, rfl, SqT.of hp4, rfl, _, rfl, c, C, dx, _, .str kind, rfl, hc4, CC.cls, CC.no _ (by simp), rfl, rfl, _, rfl, ite2 (fun e => ?_) fun e => ?_⟩
          · have ek : kind = "over" := V.str.inj (of_decide_eq_true e)
            have ed : cap + 1 = (if decide (kind = "under") = true then low - 1 else cap + 1) := by rw [ek]; rfl
            refine ⟨_, rfl, _, _, rfl, rfl, rfl, _, rfl, ?_⟩
            by_cases em : V.int m = V.int (cap + 1)
            · exact ff' (by rw [decide_eq_true em]; rfl) ⟨rfl, rfl, by rw [← ed]; exact em⟩
            · exact tt' (by rw [decide_eq_false em]; rfl) (due _ ed em)
          · have ek : kind = "under" := by
              rcases List.mem_cons.mp hkind with z | z
              · exact absurd (by rw [z]; rfl) e
              · exact List.mem_singleton.mp z
            have ed : low - 1 = (if decide (kind = "under") = true then low - 1 else cap + 1) := by rw [ek]; rfl
            refine ⟨_, rfl, _, _, rfl, rfl, rfl, _, rfl, ?_⟩
            by_cases em : V.int m = V.int (low - 1)
            · exact ff' (by rw [decide_eq_true em]; rfl) ⟨rfl, rfl, by rw [← ed]; exact em⟩
            · exact tt' (by rw [decide_eq_false em]; rfl) (due _ ed em)
        rintro σ H6 ⟨rfl, rfl, hv2⟩
        have kdb : ∀ v ∈ besideL v1 v3, ∃ t, Kd K H6 v t := fun v hv => by
          have hm : v ∈ [v1, v3] := (List.mem_filter.mp hv).1; rcases List.mem_cons.mp hm with rfl | hm
          · exact ⟨_, k1.mono sH4⟩
          · rw [List.mem_singleton.mp hm]; exact ⟨_, k3.mono sH4⟩
        have blen : (besideL v1 v3).length ≤ 2 := List.length_filter_le _ _
        refine ⟨_, rfl, D, rfl, ⟨_, SqL.of hD4⟩, fun E2 hE => lc_list (K := K) (a := D) (xs := besideL v1 v3) (fun i H' => Same H6 H' ∧ H' E2 = some (.lst ((((besideL v1 v3).take i).map (fitV low cap)).map V.bl))) ⟨same_new hE, upd_same⟩ (fun i H' _ h => SqL.of (h.1 _ _ hD4)) ?_ ?_⟩
        · intro i v H' hi ⟨sp, hE'⟩
          refine ⟨rfl, ?_⟩
          have hv : i < (besideL v1 v3).length := (List.getElem?_eq_some_iff.mp hi).1
          obtain ⟨tv, kv⟩ := kdb v (List.mem_of_getElem? hi)
          have keep : ∀ acc, Same H6 (upd H' E2 (.lst acc)) := fun acc u o e => by
            rw [upd_ne (fun z => by rw [z, hE] at e; cases e)]
            exact sp _ _ e
          have et : ((((besideL v1 v3).take (i + 1)).map (fitV low cap)).map V.bl) = ((((besideL v1 v3).take i).map (fitV low cap)).map V.bl) ++ [V.bl (fitV low cap v)] := by
            rw [List.take_add_one, hi, List.map_append, List.map_append]
            rfl
          have put : ∃ acc, H' E2 = some (.lst acc) ∧ acc.length < sizeLine ∧ Same H6 (upd H' E2 (.lst (acc ++ [V.bl (fitV low cap v)]))) ∧ upd H' E2 (.lst (acc ++ [V.bl (fitV low cap v)])) E2 = some (.lst ((((besideL v1 v3).take (i + 1)).map (fitV low cap)).map V.bl)) := by
            refine ⟨_, hE', ?_, keep _, ?_⟩
            · rw [List.length_map, List.length_map]
              exact Nat.lt_of_le_of_lt (List.length_take_le _ _) (Nat.lt_of_lt_of_le hv (Nat.le_trans blen (by decide)))
            · rw [upd_same, et]
          refine ⟨_, rfl, v, tv, rfl, kv.mono sp, _, rfl, ite2 (fun e => ?_) fun e => ?_⟩
          · obtain ⟨m, rfl⟩ : ∃ m, v = .int m := by
              cases v with
              | int n => exact ⟨n, rfl⟩
              | _ => cases e
            refine ⟨_, rfl, _, rfl, _, _, rfl, rfl, _, rfl, ite2 (fun e1 => ?_) fun e1 => ?_⟩
            · refine ⟨_, rfl, _, _, rfl, rfl, ?_⟩
              have ef : fitV low cap (.int m) = decide (m ≤ cap) := by
                show (decide (low ≤ m) && decide (m ≤ cap)) = _
                rw [decide_eq_true (of_decide_eq_true e1)]
                rfl
              rw [ef] at put
              exact put
            · have ef : fitV low cap (.int m) = false := by
                show (decide (low ≤ m) && decide (m ≤ cap)) = _
                rw [decide_eq_false (fun z => e1 (decide_eq_true z))]
                rfl
              rw [ef] at put
              exact put
          · have ef : fitV low cap v = false := by
              cases v with
              | int n => exact absurd rfl e
              | _ => rfl
            rw [ef] at put
            exact put
        · intro H7 ⟨s7, hE7⟩
          have hE7 : H7 E2 = some (.lst ((((besideL v1 v3).take (besideL v1 v3).length).map (fitV low cap)).map V.bl)) := hE7
          rw [List.take_length] at hE7
          refine ⟨E2, (besideL v1 v3).map (fitV low cap), rfl, SqL.of hE7, ?_⟩
          have e : ((besideL v1 v3).map (fitV low cap)).all id = (besideL v1 v3).all (fitV low cap) := by
            rw [List.all_map]
            rfl
          rw [e]
          exact finT _ (sH4.trans s7) hv2
end
end Pk
namespace Pk
open L2 PyProof.Rows PySem.Spec PySem
abbrev sPLI : Stmt := inClass (top 17) 0
abbrev sLay : Stmt := inClass (top 17) 1
abbrev sPOn : Stmt := inClass (top 17) 2
abbrev sPWh : Stmt := inClass (top 17) 3
abbrev sTot : Stmt := inClass (top 17) 6
abbrev sDoR : Stmt := inClass (top 17) 8
abbrev sTPages : Stmt := inClass (top 17) 14
abbrev sTSeps : Stmt := inClass (top 17) 15
abbrev Page := Str × Int × Int
/-- a player's objects -/
structure PlA where
  pl : Addr
  dx : Addr
  rows : Addr
  kn : Addr
  od : Addr
  sp : Addr
  mks : Addr
  us : Addr
  tu : Addr
/-- where a play stands -/
structure PSt where
  tk : Bool
  known : List (Key × V)
  pages : List Page
  marks : List (Str × Int)
  ended : V
  moved : Int
  used : List (Key × V)
def PlA.own (d : PlA) : List Addr := [d.pl, d.kn, d.od, d.sp, d.mks, d.us, d.tu]
def plF (d : PlA) (s : PSt) : List (Str × V) := [("rows", .ref d.rows), ("is_taken", .bl s.tk), ("known", .ref d.kn), ("order", .ref d.od), ("spans", .ref d.sp), ("marks", .ref d.mks), ("ended", s.ended), ("moved", .int s.moved), ("used", .ref d.us), ("turned", .ref d.tu)]
def SpanAt (H : Hp) (kv : Key × V) (p : Page) : Prop := kv.1 = .inr p.1 ∧ ∃ t, kv.2 = .ref t ∧ H t = some (.tup [.int p.2.1, .int p.2.2])
structure PlAt (C : Addr) (H : Hp) (d : PlA) (s : PSt) : Prop where
  h : H d.pl = some (.ins C d.dx (plF d s))
  kn : H d.kn = some (.dK s.known)
  od : H d.od = some (.lst (s.pages.map fun p => .str p.1))
  sp : ∃ kvs, H d.sp = some (.dK kvs) ∧ Paired (SpanAt H) kvs s.pages
  ms : H d.mks = some (.dK (s.marks.map fun m => (.inr m.1, .int m.2)))
  us : H d.us = some (.dK s.used)
  tu : H d.tu = some (.dK [])
  nd : [d.kn, d.sp, d.mks, d.us, d.tu].Nodup
def KeepS (S : List Addr) (H H' : Hp) : Prop := ∀ a o, a ∉ S → H a = some o → H' a = some o
theorem KeepS.refl {S : List Addr} {H : Hp} : KeepS S H H := fun _ _ _ h => h
theorem KeepS.trans {S : List Addr} {H H1 H2 : Hp} (x : KeepS S H H1) (y : KeepS S H1 H2) : KeepS S H H2 := fun a o n h => y a o n (x a o n h)
theorem _root_.L2.Same.keepS {S : List Addr} {H H' : Hp} (s : Same H H') : KeepS S H H' := fun a o _ h => s a o h
theorem keepS_upd {S : List Addr} {H : Hp} {a : Addr} {o : HO} (m : a ∈ S) : KeepS S H (upd H a o) := fun b u n h => by
  rw [upd_ne (fun z => n (by rw [z]; exact m))]
  exact h
structure PlayerC (K : PySem.W.Frag) (mg : Str → Option Value) (C fI : Addr) : Prop where
  cls : Cls K C
  made : Mk K C fI
  g : mg "Player" = some (.ref C)
  no : ∀ f ∈ (["rows", "is_taken", "known", "order", "spans", "marks", "ended", "moved", "used", "turned"] : List Str), NoAttr K C f
/-! laying the pages -/
def layStep (tk : Bool) (st : List Page × Int) (x : Str × V) : List Page × Int := match x.2 with
  | .int c => (st.1 ++ [(x.1, st.2 + (if tk && !st.1.isEmpty then 1 else 0), st.2 + (if tk && !st.1.isEmpty then 1 else 0) + c)], st.2 + (if tk && !st.1.isEmpty then 1 else 0) + c)
  | _ => st
def layTo (tk : Bool) (vs : List V) (i : Nat) : List Page × Int := ((PLN.zip vs).take i).foldl (layStep tk) ([], 0)
def layAll (tk : Bool) (vs : List V) : List Page := (layTo tk vs 3).1
def marksP (ps : List Page) : List (Str × Int) := ps.tail.map fun p => (p.1, p.2.1)
theorem lay_names (tk : Bool) : ∀ (l : List (Str × V)) (st : List Page × Int), ∀ p ∈ (l.foldl (layStep tk) st).1, p ∈ st.1 ∨ p.1 ∈ l.map (·.1)
  | [], st, p, h => .inl h
  | x :: r, st, p, h => by
    rcases lay_names tk r (layStep tk st x) p h with a | a
    · unfold layStep at a
      split at a
      · rcases List.mem_append.mp a with b | b
        · exact .inl b
        · refine .inr ?_
          rw [List.mem_singleton.mp b]
          exact List.mem_cons_self
      · exact .inl a
    · exact .inr (List.mem_cons_of_mem _ a)
theorem zip_take_names (vs : List V) (i : Nat) : ∀ s ∈ ((PLN.zip vs).take i).map (·.1), s ∈ PLN.take i := fun s h => by
  obtain ⟨x, hx, rfl⟩ := List.mem_map.mp h
  obtain ⟨j, hj, e⟩ := List.mem_iff_getElem.mp hx
  rw [List.getElem_take] at e
  have hj' : j < i := by
    rw [List.length_take] at hj
    omega
  have hj2 : j < (PLN.zip vs).length := by
    rw [List.length_take] at hj
    omega
  have e1 : x.1 = PLN[j]'(by rw [List.length_zip] at hj2; omega) := by
    rw [← e, List.getElem_zip]
  rw [e1, List.mem_take_iff_getElem]
  exact ⟨j, by rw [List.length_zip] at hj2; omega, rfl⟩
theorem fresh_name {tk : Bool} {vs : List V} {i : Nat} {name : Str} (h : PLN[i]? = some name) : ∀ p ∈ (layTo tk vs i).1, p.1 ≠ name := fun p hp e => by
  rcases lay_names tk _ _ p hp with a | a
  · cases a
  · have m := zip_take_names vs i _ a
    rw [e] at m
    match i, h with
    | 0, h => cases m
    | 1, h =>
      cases h
      revert m
      decide
    | 2, h =>
      cases h
      revert m
      decide
theorem lay_next {tk : Bool} {vs : List V} {i : Nat} {name : Str} {v : V} (h : PLN[i]? = some name) (hv : vs[i]? = some v) : layTo tk vs (i + 1) = layStep tk (layTo tk vs i) (name, v) := by
  unfold layTo
  have e : (PLN.zip vs)[i]? = some (name, v) := by
    rw [List.getElem?_zip_eq_some]
    exact ⟨h, hv⟩
  rw [List.take_add_one, e, List.foldl_append]
  rfl
theorem putK_new {α : Type} [DecidableEq α] {kvs : List (α × V)} {k : α} {v : V} (h : ∀ kv ∈ kvs, kv.1 ≠ k) : putK kvs k v = kvs ++ [(k, v)] := by
  unfold putK
  rw [if_neg]
  intro z
  obtain ⟨kv, m, e⟩ := List.any_eq_true.mp z
  exact h kv m (of_decide_eq_true e)
end Pk
namespace Pk
open L2 PyProof.Rows PySem.Spec PySem
def numV (v : V) : Prop := v = .non ∨ ∃ c, v = .int c
def spLay (C : Addr) : Sp := fun vs H Q _ => ∃ (d : PlA) (s : PSt) (pc : Addr) (cs : List V), vs = [.ref d.pl, .ref pc] ∧ PlAt C H d s ∧ s.pages = [] ∧ s.marks = [] ∧ H pc = some (.tup cs) ∧ cs.length = 3 ∧ (∀ v ∈ cs, numV v) ∧
  ∀ H', KeepS d.own H H' → PlAt C H' d { s with pages := layAll s.tk cs, marks := marksP (layAll s.tk cs) } → Q .non H'
theorem PlAt.tupO {C : Addr} {H : Hp} {d : PlA} {s : PSt} (h : PlAt C H d s) {t : Addr} {xs : List V} (e : H t = some (.tup xs)) : t ∉ d.own := fun m => by
  obtain ⟨kvs, hs, _⟩ := h.sp
  simp only [PlA.own, List.mem_cons, List.not_mem_nil, or_false] at m
  rcases m with m | m | m | m | m | m | m <;> rw [m] at e
  · rw [h.h] at e; cases e
  · rw [h.kn] at e; cases e
  · rw [h.od] at e; cases e
  · rw [hs] at e; cases e
  · rw [h.ms] at e; cases e
  · rw [h.us] at e; cases e
  · rw [h.tu] at e; cases e
theorem PlAt.newO {C : Addr} {H : Hp} {d : PlA} {s : PSt} (h : PlAt C H d s) {t : Addr} (e : H t = none) : t ∉ d.own := fun m => by
  obtain ⟨kvs, hs, _⟩ := h.sp
  simp only [PlA.own, List.mem_cons, List.not_mem_nil, or_false] at m
  rcases m with m | m | m | m | m | m | m <;> rw [m] at e
  · rw [h.h] at e; cases e
  · rw [h.kn] at e; cases e
  · rw [h.od] at e; cases e
  · rw [hs] at e; cases e
  · rw [h.ms] at e; cases e
  · rw [h.us] at e; cases e
  · rw [h.tu] at e; cases e
theorem PlAt.same {C : Addr} {H H' : Hp} {d : PlA} {s : PSt} (h : PlAt C H d s) (x : Same H H') : PlAt C H' d s :=
  let ⟨kvs, hs, hp⟩ := h.sp
  ⟨x _ _ h.h, x _ _ h.kn, x _ _ h.od, ⟨kvs, x _ _ hs, L2.Paired.mapP hp fun _ _ ⟨a, t, b, c⟩ => ⟨a, t, b, x _ _ c⟩⟩, x _ _ h.ms, x _ _ h.us, x _ _ h.tu, h.nd⟩
theorem span_keep {H H' : Hp} {kvs : List (Key × V)} {ps : List Page} (h : Paired (SpanAt H) kvs ps) (k : ∀ t xs, H t = some (.tup xs) → H' t = some (.tup xs)) : Paired (SpanAt H') kvs ps := L2.Paired.mapP h fun _ _ ⟨a, t, b, c⟩ => ⟨a, t, b, k _ _ c⟩
theorem span_keys {H : Hp} : ∀ {kvs : List (Key × V)} {ps : List Page}, Paired (SpanAt H) kvs ps → ∀ kv ∈ kvs, ∃ p ∈ ps, kv.1 = .inr p.1
  | _, _, .nil, kv, m => nomatch m
  | _, _, .cons h t, kv, m => by
    rcases List.mem_cons.mp m with rfl | m
    · exact ⟨_, List.mem_cons_self, h.1⟩
    · obtain ⟨p, a, b⟩ := span_keys t kv m
      exact ⟨p, List.mem_cons_of_mem _ a, b⟩
theorem PlAt.apart {C : Addr} {H : Hp} {d : PlA} {s : PSt} (h : PlAt C H d s) : (d.pl ≠ d.kn ∧ d.pl ≠ d.od ∧ d.pl ≠ d.sp ∧ d.pl ≠ d.mks ∧ d.pl ≠ d.us ∧ d.pl ≠ d.tu) ∧ (d.od ≠ d.kn ∧ d.od ≠ d.sp ∧ d.od ≠ d.mks ∧ d.od ≠ d.us ∧ d.od ≠ d.tu) ∧ (d.kn ≠ d.sp ∧ d.kn ≠ d.mks ∧ d.kn ≠ d.us ∧ d.kn ≠ d.tu) ∧ (d.sp ≠ d.mks ∧ d.sp ≠ d.us ∧ d.sp ≠ d.tu) ∧ (d.mks ≠ d.us ∧ d.mks ≠ d.tu) ∧ d.us ≠ d.tu := by
  obtain ⟨kvs, hs, _⟩ := h.sp
  have nd := h.nd
  simp only [List.nodup_cons, List.mem_cons, List.not_mem_nil, or_false, not_or, List.nodup_nil, and_true] at nd
  obtain ⟨⟨n1, n2, n3, n4⟩, ⟨n5, n6, n7⟩, ⟨n8, n9⟩, n10, _⟩ := nd
  have ne : ∀ {a b : Addr} {o1 o2 : HO}, H a = some o1 → H b = some o2 → o1 ≠ o2 → a ≠ b := fun e1 e2 no z => by
    rw [z, e2] at e1
    exact no (Option.some.inj e1).symm
  exact ⟨⟨ne h.h h.kn (by simp), ne h.h h.od (by simp), ne h.h hs (by simp), ne h.h h.ms (by simp), ne h.h h.us (by simp), ne h.h h.tu (by simp)⟩, ⟨ne h.od h.kn (by simp), ne h.od hs (by simp), ne h.od h.ms (by simp), ne h.od h.us (by simp), ne h.od h.tu (by simp)⟩, ⟨n1, n2, n3, n4⟩, ⟨n5, n6, n7⟩, ⟨n8, n9⟩, n10⟩
theorem PlAt.span_ne {C : Addr} {H : Hp} {d : PlA} {s : PSt} (h : PlAt C H d s) {a : Addr} {o : HO} (m : a ∈ d.own) {kvs : List (Key × V)} {ps : List Page} (hp : Paired (SpanAt H) kvs ps) : Paired (SpanAt (upd H a o)) kvs ps := span_keep hp fun t xs e => by
  rw [upd_ne (fun z => h.tupO e (by rw [z]; exact m))]
  exact e
theorem PlAt.setMk {C : Addr} {H : Hp} {d : PlA} {s : PSt} (h : PlAt C H d s) (ms : List (Str × Int)) : PlAt C (upd H d.mks (.dK (ms.map fun m => (.inr m.1, .int m.2)))) d { s with marks := ms } := by
  obtain ⟨⟨a1, a2, a3, a4, a5, a6⟩, ⟨b1, b2, b3, b4, b5⟩, ⟨c1, c2, c3, c4⟩, ⟨e1, e2, e3⟩, ⟨f1, f2⟩, g1⟩ := h.apart
  obtain ⟨kvs, hs, hp⟩ := h.sp
  refine ⟨by rw [upd_ne a4]; exact h.h, by rw [upd_ne c2]; exact h.kn, by rw [upd_ne b3]; exact h.od, ⟨kvs, by rw [upd_ne e1]; exact hs, h.span_ne (by simp [PlA.own]) hp⟩, upd_same, by rw [upd_ne (Ne.symm f1)]; exact h.us, by rw [upd_ne (Ne.symm f2)]; exact h.tu, h.nd⟩
theorem PlAt.setF {C : Addr} {H : Hp} {d : PlA} {s : PSt} (h : PlAt C H d s) (en : V) (mv : Int) : PlAt C (upd H d.pl (.ins C d.dx (plF d { s with ended := en, moved := mv }))) d { s with ended := en, moved := mv } := by
  obtain ⟨⟨a1, a2, a3, a4, a5, a6⟩, _⟩ := h.apart
  obtain ⟨kvs, hs, hp⟩ := h.sp
  exact ⟨upd_same, by rw [upd_ne (Ne.symm a1)]; exact h.kn, by rw [upd_ne (Ne.symm a2)]; exact h.od, ⟨kvs, by rw [upd_ne (Ne.symm a3)]; exact hs, h.span_ne (by simp [PlA.own]) hp⟩, by rw [upd_ne (Ne.symm a4)]; exact h.ms, by rw [upd_ne (Ne.symm a5)]; exact h.us, by rw [upd_ne (Ne.symm a6)]; exact h.tu, h.nd⟩
theorem PlAt.setKn {C : Addr} {H : Hp} {d : PlA} {s : PSt} (h : PlAt C H d s) (kn : List (Key × V)) : PlAt C (upd H d.kn (.dK kn)) d { s with known := kn } := by
  obtain ⟨⟨a1, a2, a3, a4, a5, a6⟩, ⟨b1, b2, b3, b4, b5⟩, ⟨c1, c2, c3, c4⟩, ⟨e1, e2, e3⟩, ⟨f1, f2⟩, g1⟩ := h.apart
  obtain ⟨kvs, hs, hp⟩ := h.sp
  exact ⟨by rw [upd_ne a1]; exact h.h, upd_same, by rw [upd_ne b1]; exact h.od, ⟨kvs, by rw [upd_ne (Ne.symm c1)]; exact hs, h.span_ne (by simp [PlA.own]) hp⟩, by rw [upd_ne (Ne.symm c2)]; exact h.ms, by rw [upd_ne (Ne.symm c3)]; exact h.us, by rw [upd_ne (Ne.symm c4)]; exact h.tu, h.nd⟩
theorem PlAt.setUs {C : Addr} {H : Hp} {d : PlA} {s : PSt} (h : PlAt C H d s) (us : List (Key × V)) : PlAt C (upd H d.us (.dK us)) d { s with used := us } := by
  obtain ⟨⟨a1, a2, a3, a4, a5, a6⟩, ⟨b1, b2, b3, b4, b5⟩, ⟨c1, c2, c3, c4⟩, ⟨e1, e2, e3⟩, ⟨f1, f2⟩, g1⟩ := h.apart
  obtain ⟨kvs, hs, hp⟩ := h.sp
  exact ⟨by rw [upd_ne a5]; exact h.h, by rw [upd_ne c3]; exact h.kn, by rw [upd_ne b4]; exact h.od, ⟨kvs, by rw [upd_ne e2]; exact hs, h.span_ne (by simp [PlA.own]) hp⟩, by rw [upd_ne f1]; exact h.ms, upd_same, by rw [upd_ne (Ne.symm g1)]; exact h.tu, h.nd⟩
/-- one more page at the end -/
theorem PlAt.addPage {C : Addr} {H : Hp} {d : PlA} {s : PSt} (h : PlAt C H d s) {t : Addr} {p : Page} {kvs : List (Key × V)} (hs : H d.sp = some (.dK kvs)) (hp : Paired (SpanAt H) kvs s.pages) (ht : H t = some (.tup [.int p.2.1, .int p.2.2])) :
    PlAt C (upd (upd H d.od (.lst ((s.pages.map fun p => V.str p.1) ++ [.str p.1]))) d.sp (.dK (kvs ++ [(.inr p.1, .ref t)]))) d { s with pages := s.pages ++ [p] } := by
  obtain ⟨⟨a1, a2, a3, a4, a5, a6⟩, ⟨b1, b2, b3, b4, b5⟩, ⟨c1, c2, c3, c4⟩, ⟨e1, e2, e3⟩, ⟨f1, f2⟩, g1⟩ := h.apart
  have tk : ∀ t xs, H t = some (.tup xs) → upd (upd H d.od (.lst ((s.pages.map fun p => V.str p.1) ++ [.str p.1]))) d.sp (.dK (kvs ++ [(.inr p.1, .ref t)])) t = some (.tup xs) := fun t xs e => by
    rw [upd_ne (fun z => h.tupO e (by rw [z]; simp [PlA.own])), upd_ne (fun z => h.tupO e (by rw [z]; simp [PlA.own]))]
    exact e
  have tk2 : ∀ t' xs, H t' = some (.tup xs) → upd (upd H d.od (.lst ((s.pages.map fun p => V.str p.1) ++ [.str p.1]))) d.sp (.dK (kvs ++ [(.inr p.1, .ref t)])) t' = some (.tup xs) := fun t' xs e => by
    rw [upd_ne (fun z => h.tupO e (by rw [z]; simp [PlA.own])), upd_ne (fun z => h.tupO e (by rw [z]; simp [PlA.own]))]
    exact e
  refine ⟨by rw [upd_ne a3, upd_ne a2]; exact h.h, by rw [upd_ne c1, upd_ne (Ne.symm b1)]; exact h.kn, ?_, ⟨_, upd_same, paired_app (span_keep hp tk2) (.cons ⟨rfl, t, rfl, tk2 _ _ ht⟩ .nil)⟩, by rw [upd_ne (Ne.symm e1), upd_ne (Ne.symm b3)]; exact h.ms, by rw [upd_ne (Ne.symm e2), upd_ne (Ne.symm b4)]; exact h.us, by rw [upd_ne (Ne.symm e3), upd_ne (Ne.symm b5)]; exact h.tu, h.nd⟩
  rw [upd_ne b2, upd_same, List.map_append]
  rfl
theorem upd_swap {H : Hp} {a b : Addr} {x y : HO} (n : a ≠ b) : upd (upd H a x) b y = upd (upd H b y) a x := by
  funext c
  by_cases e1 : c = b
  · subst e1
    rw [upd_same, upd_ne (Ne.symm n), upd_same]
  · by_cases e2 : c = a
    · subst e2
      rw [upd_ne e1, upd_same, upd_same]
    · rw [upd_ne e1, upd_ne e2, upd_ne e2, upd_ne e1]
theorem lay_len (tk : Bool) (vs : List V) (i : Nat) : (layTo tk vs i).1.length ≤ i := by
  have g : ∀ (l : List (Str × V)) (st : List Page × Int), (l.foldl (layStep tk) st).1.length ≤ st.1.length + l.length := fun l => by
    induction l with
    | nil => exact fun st => Nat.le_refl _
    | cons x r ih =>
      intro st
      refine Nat.le_trans (ih _) ?_
      have : (layStep tk st x).1.length ≤ st.1.length + 1 := by
        unfold layStep
        split
        · rw [List.length_append]
          exact Nat.le_refl _
        · exact Nat.le_succ _
      rw [List.length_cons]
      omega
  have := g ((PLN.zip vs).take i) ([], 0)
  rw [List.length_take] at this
  unfold layTo
  have z : (([], 0) : List Page × Int).1.length = 0 := rfl
  omega
theorem marks_snoc (ps : List Page) (p : Page) : marksP (ps ++ [p]) = if ps.isEmpty = true then [] else marksP ps ++ [(p.1, p.2.1)] := by
  cases ps with
  | nil => rfl
  | cons a r =>
    show ((r ++ [p]).map fun p : Page => (p.1, p.2.1)) = _
    rw [List.map_append]
    rfl
section
variable {K : PySem.W.Frag} {P : Program} {w : World} {base : Heap} {mg : Str → Option Value} {C fI : Addr}
theorem sc_Player_lay_pages : FnScope ["self", "counts", "behind", "name", "count", "first"] ["self", "counts"] (defScope sLay) := ⟨rfl, rfl, rfl, by decide +kernel, rfl, by decide +kernel, by decide +kernel⟩
theorem ok_Player_lay_pages {f : Addr} {fd : FuncData} (F : FunD K "lay_pages" "Player.lay_pages" (defArgs sLay) (defBody sLay) (defScope sLay) [] [] f fd) (PL : PlayerC K mg C fI) (mZip : mg "zip" = none) (mLen : mg "len" = none) (mInt : mg "int" = none)
    {aPP : Addr} (gPP : ∃ u, mg "PAGES_player" = some u ∧ RelV (.ref aPP) u) (tPP : ∀ H, SqT K H aPP (PLN.map V.str)) : FnOk P w K mg base CX0 1 f fd ["self", "counts"] (spLay C) := by
  refine F.ok sc_Player_lay_pages (fun vs H Q E h => ?_) (fun cdv A outer s H vs Q E hr h => ?_)
  · obtain ⟨d, s, pc, cs, rfl, _⟩ := h
    rfl
  · obtain ⟨d, st, pc, cs, rfl, hP, hp0, hm0, hc, hl, hn, q⟩ := h
    have hu : (A.deeper (envOfC "Player.lay_pages" (defScope sLay) s.heap.objs.size f cdv)).units + 1 < cLine := Nat.lt_of_le_of_lt (by omega) (Room.units hr)
    refine ⟨_, PSs.nox (pss_cons (by exact (ps_set (i := 2) sc_Player_lay_pages.nd rfl (Or.inl rfl) pe_int)) (pss_one (by exact (ps_for PassesOwn.never rfl (RZ.pi_zipA (by rfl) mZip (pa_cons (C8.pe_gc (v := .ref aPP) rfl gPP) (pa_cons (pv 1) pa_nil))) (pg_tupK (n := 2) K rfl rfl (pgs_cons (pg_name (i := 3) sc_Player_lay_pages.nd rfl (Or.inl rfl)) (pgs_cons (pg_name (i := 4) sc_Player_lay_pages.nd rfl (Or.inl rfl)) pgs_nil))) (pss_cons (by exact (ps_if (pt_cmp (pc_isN (pv 4))) (pss_one (by exact ps_continue)) pss_nil)) (C8.pss_cut (by exact (ps_set (i := 5) sc_Player_lay_pages.nd rfl (Or.inl rfl) (pe_op op_add (pv 2) (pe_callTy call_int1 (by rfl) mInt (by decide +kernel) (pa_cons (pe_and (pe_fld (pv 0) rfl) (pe_one (pe_cmpR op_gt (pe_callB call_len_seq (by rfl) mLen PySem.boot_len (pa_cons (pe_fld (pv 0) rfl) pa_nil)) pe_int (nomark _)))) pa_nil))))) (C8.pss_cut (by exact (ps_if (pt_cmpR op_gt (pe_callB call_len_seq (by rfl) mLen PySem.boot_len (pa_cons (pe_fld (pv 0) rfl) pa_nil)) pe_int (nomark _)) (pss_one (by exact (ps_dput hu (pe_fld (pv 0) rfl) (pv 3) (pv 5) rfl))) pss_nil)) (pss_cons (by exact (ps_set (i := 2) sc_Player_lay_pages.nd rfl (Or.inl rfl) (pe_op op_add (pv 5) (pv 4)))) (pss_cons (by exact (ps_expr (pe_bm PySem.F.plainAttrs_list PySem.F.slot_list_append PySem.F.type_list_append mt_append (pe_fld (pv 0) rfl) (pa_cons (pv 3) pa_nil)))) (pss_one (by exact (ps_dput hu (pe_fld (pv 0) rfl) (pv 3) (pe_tup (pa_cons (pv 5) (pa_cons (pv 2) pa_nil))) rfl)))))))))))), ?_⟩
    refine ⟨_, rfl, aPP, pc, PLN.map V.str, cs, rfl, .inr ⟨tPP _, SqT.of hc, RZ.for_zipT (K := K) (xs := PLN.map V.str) (ys := cs) (by rw [hl]; rfl) (fun i σ H' => ∃ v3 v4 v5, σ = [some (.ref d.pl), some (.ref pc), some (.int (layTo st.tk cs i).2), v3, v4, v5] ∧ KeepS d.own H H' ∧ PlAt C H' d { st with pages := (layTo st.tk cs i).1, marks := marksP (layTo st.tk cs i).1 }) ?_ ?_ ?_ ?_⟩⟩
    · refine ⟨none, none, none, rfl, KeepS.refl, ?_⟩
      show PlAt C H d { st with pages := [], marks := [] }
      rw [← hp0, ← hm0]
      exact hP
    · rintro i σ H' ⟨_, _, _, _, k, _⟩
      exact ⟨tPP _, SqT.of (k _ _ (hP.tupO hc) hc)⟩
    · rintro i x y T σ H' hx hy ⟨v3, v4, v5, rfl, k, PH⟩ nT
      obtain ⟨name, hname, rfl⟩ : ∃ name, PLN[i]? = some name ∧ x = .str name := by
        rw [List.getElem?_map] at hx
        cases e : PLN[i]? with
        | none => rw [e] at hx; cases hx
        | some z => rw [e] at hx; cases hx; exact ⟨z, rfl, rfl⟩
      have sT := same_new (o := .tup [.str name, y]) nT
      have PH := PH.same sT
      have k := k.trans sT.keepS
      have nx := lay_next (tk := st.tk) hname hy
      have fr := fresh_name (tk := st.tk) (vs := cs) hname
      have pl3 : (layTo st.tk cs i).1.length ≤ 3 := Nat.le_trans (lay_len st.tk cs i) (by
        have := (List.getElem?_eq_some_iff.mp hname).1
        have e : PLN.length = 3 := rfl
        omega)
      refine ⟨T, _, rfl, SqT.of upd_same, rfl, _, _, rfl, _, _, rfl, rfl, ?_⟩
      generalize upd H' T _ = H1 at sT PH k ⊢
      generalize layTo st.tk cs i = lt at nx fr PH pl3
      obtain ⟨ps, bh⟩ := lt
      have pl3 : ps.length ≤ 3 := pl3
      have hod : H1 d.od = some (.lst (ps.map fun p => .str p.1)) := PH.od
      have lnz : (0 : Int) < ((ps.map fun p => V.str p.1).length : Nat) ↔ ps.isEmpty = false := by
        cases ps with
        | nil => simp
        | cons a b => simp
      rcases hn y (List.mem_of_getElem? hy) with rfl | ⟨c, rfl⟩
      · refine ⟨_, rfl, _, rfl, tt' (decide_eq_true rfl) ⟨some (.str name), some .non, v5, ?_, k, ?_⟩⟩
        · rw [nx]
          rfl
        · rw [nx]
          exact PH
      refine ⟨_, rfl, _, rfl, ff' (decide_eq_false (by intro z; cases z)) ?_⟩
      generalize hinc : (if st.tk && !ps.isEmpty then (1 : Int) else 0) = inc
      have nx : layTo st.tk cs (i + 1) = (ps ++ [(name, bh + inc, bh + inc + c)], bh + inc + c) := by
        rw [nx, ← hinc]
        rfl
      refine ⟨fun σ H2 => σ = [some (.ref d.pl), some (.ref pc), some (.int bh), some (.str name), some (.int c), some (.int (bh + inc))] ∧ H2 = H1, ?_, ?_⟩
      · refine ⟨_, rfl, _, rfl, d.pl, C, d.dx, _, .bl st.tk, rfl, PH.h, PL.cls, PL.no _ (by simp), rfl, _, rfl, ite2 (fun e => ?_) fun e => ?_⟩
        · refine ⟨_, rfl, d.pl, C, d.dx, _, .ref d.od, rfl, PH.h, PL.cls, PL.no _ (by simp), rfl, d.od, _, rfl, .inl (SqL.of hod), _, _, rfl, rfl, .inr ⟨_, rfl, _, _, rfl, rfl, ?_, rfl⟩⟩
          have e2 : (if decide ((0 : Int) < ((ps.map fun p => V.str p.1).length : Nat)) = true then (1 : Int) else 0) = inc := by
            rw [← hinc, e]
            cases ep : ps.isEmpty with
            | true => rw [decide_eq_false (fun z => by rw [lnz.mp z] at ep; cases ep)]; rfl
            | false => rw [decide_eq_true (lnz.mpr ep)]; rfl
          show [some _, some _, some _, some _, some _, some (V.int (bh + _))] = _
          rw [e2]
        · refine .inr ⟨_, rfl, _, _, rfl, rfl, ?_, rfl⟩
          have e2 : (if false = true then (1 : Int) else 0) = inc := by
            rw [← hinc, Bool.eq_false_iff.mpr e]
            rfl
          show [some _, some _, some _, some _, some _, some (V.int (bh + (if false = true then (1 : Int) else 0)))] = _
          rw [e2]
      rintro σ H2 ⟨rfl, rfl⟩
      refine ⟨fun σ H3 => σ = [some (.ref d.pl), some (.ref pc), some (.int bh), some (.str name), some (.int c), some (.int (bh + inc))] ∧ KeepS d.own H2 H3 ∧ PlAt C H3 d { st with pages := ps, marks := marksP (ps ++ [(name, bh + inc, bh + inc + c)]) }, ?_, ?_⟩
      · refine ⟨_, rfl, d.pl, C, d.dx, _, .ref d.od, rfl, PH.h, PL.cls, PL.no _ (by simp), rfl, d.od, _, rfl, .inl (SqL.of hod), _, _, rfl, rfl, _, rfl, ite2 (fun e => ?_) fun e => ?_⟩
        · have ep := lnz.mp (of_decide_eq_true e)
          have hmk : H2 d.mks = some (.dK ((marksP ps).map fun m => (.inr m.1, .int m.2))) := PH.ms
          have nm : putK ((marksP ps).map fun m => ((.inr m.1 : Key), V.int m.2)) (.inr name) (.int (bh + inc)) = (marksP (ps ++ [(name, bh + inc, bh + inc + c)])).map fun m => (.inr m.1, .int m.2) := by
            rw [putK_new, marks_snoc, if_neg (by rw [ep]; decide), List.map_append]
            · rfl
            · intro kv hkv
              obtain ⟨m, hm, rfl⟩ := List.mem_map.mp hkv
              obtain ⟨pg, hpg, rfl⟩ := List.mem_map.mp hm
              exact fun z => fr pg (List.mem_of_mem_tail hpg) (Sum.inr.inj z)
          refine ⟨_, rfl, _, rfl, d.pl, C, d.dx, _, .ref d.mks, rfl, PH.h, PL.cls, PL.no _ (by simp), rfl, _, rfl, d.mks, _, rfl, .inl ⟨_, .inr name, hmk, rfl, ?_, rfl⟩, rfl, keepS_upd (by simp [PlA.own]), ?_⟩
          · rw [List.length_map]
            unfold marksP
            rw [List.length_map, List.length_tail]
            exact Nat.lt_of_le_of_lt (show ps.length - 1 ≤ 3 by omega) (by decide)
          · rw [nm]
            exact PH.setMk _
        · have ep : ps.isEmpty = true := by
            cases ep : ps.isEmpty with
            | true => rfl
            | false => exact absurd (decide_eq_true (lnz.mpr ep)) e
          refine ⟨rfl, KeepS.refl, ?_⟩
          have e3 : marksP (ps ++ [(name, bh + inc, bh + inc + c)]) = marksP ps := by
            rw [marks_snoc, if_pos ep]
            cases ps with
            | nil => rfl
            | cons a b => cases ep
          rw [e3]
          exact PH
      rintro σ H3 ⟨rfl, k3, P3⟩
      have ho3 := P3.od
      obtain ⟨kvs, hs3, hp3⟩ := P3.sp
      refine ⟨_, rfl, _, rfl, _, _, rfl, rfl, ?_⟩; refine ⟨_, rfl, d.pl, C, d.dx, _, .ref d.od, rfl, P3.h, PL.cls, PL.no _ (by simp), rfl, .inl ⟨rfl, _, SqL.of ho3⟩, _, rfl, ?_⟩
      refine ⟨d.od, _, .str name, rfl, rfl, ho3, ?_, ?_⟩
      · rw [List.length_map]
        exact Nat.lt_of_le_of_lt pl3 (by decide)
      refine ⟨_, rfl, _, rfl, by show 2 ≤ sizeLine; decide, fun t nt => ?_⟩
      have tod : t ≠ d.od := fun z => by
        rw [z, upd_same] at nt
        cases nt
      have nt3 : H3 t = none := by
        rw [upd_ne tod] at nt
        exact nt
      have s4 := same_new (o := .tup [.int (bh + inc), .int (bh + inc + c)]) nt3
      have P4 := P3.same s4
      have hp4 := span_keep hp3 fun _ _ e => s4 _ _ e
      have hh : upd (upd H3 d.od (.lst ((ps.map fun p => V.str p.1) ++ [.str name]))) t (.tup [.int (bh + inc), .int (bh + inc + c)]) = upd (upd H3 t (.tup [.int (bh + inc), .int (bh + inc + c)])) d.od (.lst ((ps.map fun p => V.str p.1) ++ [.str name])) := upd_swap (Ne.symm tod)
      have nk : putK kvs (.inr name : Key) (.ref t) = kvs ++ [(.inr name, .ref t)] := putK_new fun kv hkv z => by
        obtain ⟨pg, hpg, e⟩ := span_keys hp3 kv hkv
        rw [e] at z
        exact fr pg hpg (Sum.inr.inj z)
      have PN := P4.addPage (p := (name, bh + inc, bh + inc + c)) (t := t) (s4 _ _ hs3) hp4 upd_same
      have klen : kvs.length ≤ 3 := by
        rw [← paired_len hp3]
        exact pl3
      obtain ⟨⟨a1, a2, a3, a4, a5, a6⟩, ⟨b1, b2, b3, b4, b5⟩, _⟩ := P3.apart
      have g : ∀ b o, H3 b = some o → b ≠ d.od → upd (upd H3 d.od (.lst ((ps.map fun p => V.str p.1) ++ [.str name]))) t (.tup [.int (bh + inc), .int (bh + inc + c)]) b = some o := fun b o e n => by
        rw [hh, upd_ne n]
        exact s4 _ _ e
      refine ⟨_, rfl, d.pl, C, d.dx, _, .ref d.sp, rfl, g _ _ P3.h a2, PL.cls, PL.no _ (by simp), rfl, _, rfl, d.sp, _, rfl, .inl ⟨kvs, .inr name, g _ _ hs3 (Ne.symm b2), rfl, Nat.lt_of_le_of_lt klen (by decide), rfl⟩, some (.str name), some (.int c), some (.int (bh + inc)), ?_, ?_, ?_⟩
      · rw [nx]
        rfl
      · refine (k.trans k3).trans ?_
        rw [hh]
        exact s4.keepS.trans ((keepS_upd (by simp [PlA.own])).trans (keepS_upd (by simp [PlA.own])))
      · rw [nx, hh, nk]
        exact PN
    · rintro σ H' ⟨v3, v4, v5, rfl, k, PH⟩
      exact q H' k PH
end
end Pk
namespace Pk
open L2 PyProof.Rows PySem.Spec PySem
def initKn (k low cap : Int) : List (Key × V) := [(.inr "k", .int k), (.inr "low", .int low), (.inr "cap", .int cap), (.inr "a", .int 0), (.inr "b", .int 0), (.inr "c", .int 0)]
def spPLI (C CC RC : Addr) : Sp := fun vs H Q _ => ∃ (pl dx c pc : Addr) (k : Int) (cs : List V) (kind t : Str) (r : Addr) (rk : RK) (x1 x2 : Share) (dc ls ra tb : Addr), vs = [.ref pl, .ref c, .ref pc] ∧ H pl = some (.ins C dx []) ∧ H c = some (.ins CC dc (codeF kind r t ls ra tb)) ∧ RulesAt RC H r rk.sty (.str rk.cap) (.str rk.low) (.bl rk.root) x1 x2 ∧
  H pc = some (.tup (.int k :: cs)) ∧ k.natAbs < 2 ^ 400 ∧ cs.length = 3 ∧ (∀ v ∈ cs, numV v) ∧
  ∀ (d : PlA) H', d.pl = pl → d.rows = ra → KeepB pl H H' → (∀ a ∈ d.own, a ≠ pl → H a = none) → PlAt C H' d ⟨decide (rk.sty = "taken"), initKn k ((lineM x2).at_ k) ((lineM x1).at_ k), layAll (decide (rk.sty = "taken")) cs, marksP (layAll (decide (rk.sty = "taken")) cs), .non, 0, []⟩ → Q .non H'
theorem putK_newK {α : Type} [DecidableEq α] {kvs : List (α × V)} {k : α} {v : V} (h : ∀ kv ∈ kvs, kv.1 ≠ k) : putK kvs k v = kvs ++ [(k, v)] := by
  unfold putK
  rw [if_neg]
  intro z
  obtain ⟨kv, m, e⟩ := List.any_eq_true.mp z
  exact h kv m (of_decide_eq_true e)
theorem merge_new : ∀ (xs acc : List (Key × V)), ((acc ++ xs).map (·.1)).Nodup → mergeK acc xs = acc ++ xs
  | [], acc, _ => by rw [List.append_nil]; rfl
  | x :: r, acc, h => by
    have e : putK acc x.1 x.2 = acc ++ [x] := putK_newK fun kv hk z => by
      rw [List.map_append, List.nodup_append] at h
      exact h.2.2 _ (List.mem_map.mpr ⟨kv, hk, rfl⟩) _ (List.mem_cons_self) z
    show mergeK (putK acc x.1 x.2) r = _
    rw [e, merge_new r (acc ++ [x]) (by rw [List.append_assoc]; exact h), List.append_assoc]
    rfl
theorem known_keys : ((["k", "low", "cap", "a", "b", "c"] : List Str).map (Sum.inr : Str → Key)).Nodup := by decide +kernel
theorem merge_known (k low cap : Int) : mergeK [] (initKn k low cap) = initKn k low cap := merge_new _ _ known_keys
theorem at_upd {H : Hp} {a : Addr} {o : HO} : upd H a o a = some o := upd_same
theorem atH {α : Type} {x : α} {xs : List α} : atI (x :: xs) 0 = some x := atI_nat (j := 0) rfl
theorem new_back {b a : Addr} {H H' : Hp} {o : HO} (k : KeepB b H H') (hb : H' b = some o) (n : H' a = none) : H a = none := by
  have ab : a ≠ b := fun z => by rw [z, hb] at n; cases n
  cases e : H a with
  | none => rfl
  | some u => rw [k a u ab e] at n; cases n
section
variable {K : PySem.W.Frag} {P : Program} {w : World} {base : Heap} {mg : Str → Option Value} {C fI CCa fCI RC fRI : Addr}
theorem sc_Player___init__ : FnScope ["self", "code", "case", "low", "cap"] ["self", "code", "case"] (defScope sPLI) := ⟨rfl, rfl, rfl, by decide +kernel, rfl, by decide +kernel, by decide +kernel⟩
theorem ok_Player_init {f fB fLay : Addr} {fd fdB fdLay : FuncData} (F : FunD K "__init__" "Player.__init__" (defArgs sPLI) (defBody sPLI) (defScope sPLI) [] [] f fd) (PL : PlayerC K mg C fI) (CC : CodeC K mg CCa fCI) (RR : RulesC K mg RC fRI)
    (FB : FunD K "bounds" "Rules.bounds" (defArgs sBounds) (defBody sBounds) (defScope sBounds) [] [] fB fdB) (GB : FnOk P w K mg base CX0 2 fB fdB ["self", "k"] (spBounds RC)) (mB : Meth K RC "bounds" fB)
    (FLay : FunD K "lay_pages" "Player.lay_pages" (defArgs sLay) (defBody sLay) (defScope sLay) [] [] fLay fdLay) (GLay : FnOk P w K mg base CX0 1 fLay fdLay ["self", "counts"] (spLay C)) (mLay : Meth K C "lay_pages" fLay) : FnOk P w K mg base CX0 3 f fd ["self", "code", "case"] (spPLI C CCa RC) := by
  have bB : Binds K fdB ["self", "k"] [] := FB.bindsN fun _ _ _ _ _ _ us hl => match us, hl with | [_, _], _ => rfl
  have bLay : Binds K fdLay ["self", "counts"] [] := FLay.bindsN fun _ _ _ _ _ _ us hl => match us, hl with | [_, _], _ => rfl
  refine F.ok sc_Player___init__ (fun vs H Q E h => ?_) (fun cdv A outer s H vs Q E hr h => ?_)
  · obtain ⟨pl, dx, c, pc, k, cs, kind, t, r, rk, x1, x2, dc, ls, ra, tb, rfl, _⟩ := h
    rfl
  · obtain ⟨pl, dx, c, pc, k, cs, kind, t, r, rk, x1, x2, dc, ls, ra, tb, rfl, hpl, hc, R, hpc, hk, hl, hn, q⟩ := h
    refine ⟨_, PSs.nox (pss_cons (by exact (ps_fld (pv 0) (pe_fld (pv 1) rfl) rfl)) (pss_cons (by exact (ps_fld (pv 0) (pe_cmpR op_eq (pe_fld (pe_fld (pv 1) rfl) rfl) pe_str (nomark _)) rfl)) (pss_cons (by exact (ps_asg (pe_meth (pe_fld (pv 1) rfl) RR.cls mB GB (hr.mono (by decide)) bB .nil pass0 (pa_cons (pe_ix (ix_tupK K rfl) (pv 2) pe_int (fun _ _ => rfl)) pa_nil)) (pg_tupK (n := 2) K rfl rfl (pgs_cons (pg_name (i := 3) sc_Player___init__.nd rfl (Or.inl rfl)) (pgs_cons (pg_name (i := 4) sc_Player___init__.nd rfl (Or.inl rfl)) pgs_nil))))) (pss_cons (by exact (ps_fld (pv 0) (pe_disp (pps_cons pe_str (pe_ix (ix_tupK K rfl) (pv 2) pe_int (fun _ _ => rfl)) (pps_cons pe_str (pv 3) (pps_cons pe_str (pv 4) (pps_cons pe_str pe_int (pps_cons pe_str pe_int (pps_cons pe_str pe_int pps_nil)))))) (by rfl) (by rfl) (fun z => by cases z) (by decide)) rfl)) (pss_cons (by exact (ps_fld (pv 0) (pe_lst pa_nil) rfl)) (pss_cons (by exact (ps_fld (pv 0) pe_dnewK rfl)) (pss_cons (by exact (ps_fld (pv 0) pe_dnewK rfl)) (pss_cons (by exact (ps_fld (pv 0) pe_non rfl)) (pss_cons (by exact (ps_fld (pv 0) pe_int rfl)) (pss_cons (by exact (ps_fld (pv 0) pe_dnewK rfl)) (pss_cons (by exact (ps_fld (pv 0) pe_dnewK rfl)) (pss_one (by exact (ps_expr (pe_meth (pv 0) PL.cls mLay GLay (hr.mono (by decide)) bLay .nil pass0 (pa_cons (pe_slice sl_tupA (pv 2) (po_some pe_int) po_none) pa_nil)))))))))))))))), ?_⟩
    have cpl : c ≠ pl := fun z => by
      rw [z, hpl] at hc
      cases hc
    have rpl : r ≠ pl := fun z => by
      obtain ⟨dr, os, p1, p2, cs', lsr, hr1, _⟩ := R
      rw [z, hpl] at hr1
      cases hr1
    have pcpl : pc ≠ pl := fun z => by
      rw [z, hpl] at hpc
      cases hpc
    have no := PL.no
    have Rk : ∀ {H'}, KeepB pl H H' → RulesAt RC H' r rk.sty (.str rk.cap) (.str rk.low) (.bl rk.root) x1 x2 := fun k => R.keepB hpl k
    have up : ∀ {Hn : Hp} {o : HO}, KeepB pl H Hn → KeepB pl H (upd Hn pl o) := fun k => k.trans KeepB.upd
    have nw : ∀ {Hn : Hp} {a : Addr} {o : HO}, KeepB pl H Hn → Hn a = none → KeepB pl H (upd Hn a o) := fun k n => k.trans (same_new n).keepB
    refine ⟨_, rfl, c, CCa, dc, _, .ref ra, rfl, hc, CC.cls, CC.no _ (by simp), rfl, _, rfl, pl, C, dx, _, rfl, hpl, PL.cls, no _ (by simp), by show 0 < 1000; decide, ?_⟩
    have k1 : KeepB pl H (upd H pl (.ins C dx (putF "rows" (.ref ra) []))) := KeepB.upd
    have p1 := at_upd (H := H) (a := pl) (o := .ins C dx (putF "rows" (.ref ra) []))
    generalize upd H pl _ = H1 at k1 p1 ⊢
    have p1 : H1 pl = some (.ins C dx [("rows", .ref ra)]) := p1
    obtain ⟨dr, os, q1, q2, qs, lsr, hr1, _⟩ := id (Rk k1)
    refine ⟨_, rfl, c, CCa, dc, _, .ref r, rfl, k1 _ _ cpl hc, CC.cls, CC.no _ (by simp), rfl, r, RC, dr, _, .str rk.sty, rfl, hr1, RR.cls, RR.no _ (by simp), rfl, rfl, _, rfl, pl, C, dx, _, rfl, p1, PL.cls, no _ (by simp), by show 1 < 1000; decide, ?_⟩
    have etk : decide (V.str rk.sty = V.str "taken") = decide (rk.sty = "taken") := by
      by_cases z : rk.sty = "taken"
      · rw [decide_eq_true z, decide_eq_true (by rw [z])]
      · rw [decide_eq_false z, decide_eq_false (fun y => z (V.str.inj y))]
    have k2 := up (o := .ins C dx (putF "is_taken" (.bl (decide (V.str rk.sty = V.str "taken"))) [("rows", .ref ra)])) k1
    have p2 := at_upd (H := H1) (a := pl) (o := .ins C dx (putF "is_taken" (.bl (decide (V.str rk.sty = V.str "taken"))) [("rows", .ref ra)]))
    generalize upd H1 pl _ = H2 at k2 p2 ⊢
    rw [etk] at p2
    have p2 : H2 pl = some (.ins C dx [("rows", .ref ra), ("is_taken", .bl (decide (rk.sty = "taken")))]) := p2
    obtain ⟨dr, os, q1, q2, qs, lsr, hr2, _⟩ := id (Rk k2)
    refine ⟨_, rfl, c, CCa, dc, _, .ref r, rfl, k2 _ _ cpl hc, CC.cls, CC.no _ (by simp), rfl, r, dr, _, rfl, hr2, rfl, _, rfl, pc, _, 0, .int k, rfl, rfl, SqT.of (k2 _ _ pcpl hpc), atH, ?_⟩
    refine ⟨r, k, rk.sty, _, _, _, x1, x2, rfl, Rk k2, hk, fun pb nb => ?_⟩
    refine ⟨pb, _, rfl, SqT.of upd_same, rfl, _, _, rfl, _, _, rfl, rfl, ?_⟩
    have k3 := nw (o := .tup [.int ((lineM x2).at_ k), .int ((lineM x1).at_ k)]) k2 nb
    have p3 := same_new (o := .tup [.int ((lineM x2).at_ k), .int ((lineM x1).at_ k)]) nb _ _ p2
    generalize upd H2 pb _ = H3 at k3 p3 ⊢
    generalize (lineM x2).at_ k = low at *
    generalize (lineM x1).at_ k = cap at *
    intro kn nkn
    have nkn0 := new_back k3 p3 nkn
    have k4 := nw (o := .dK []) k3 nkn
    have p4 := same_new (o := .dK []) nkn _ _ p3
    have c4 := at_upd (H := H3) (a := kn) (o := .dK [])
    refine ⟨_, rfl, pc, _, 0, .int k, rfl, rfl, SqT.of (k4 _ _ pcpl hpc), atH, ?_⟩
    refine ⟨_, rfl, _, rfl, c4, initKn k low cap, rfl, by show 6 ≤ 15; decide, ?_⟩
    rw [upd_upd]
    rw [merge_known]
    have nkp : kn ≠ pl := fun z => by rw [z, p3] at nkn; cases nkn
    have k5 := nw (o := .dK (initKn k low cap)) k3 nkn
    have p5 := same_new (o := .dK (initKn k low cap)) nkn _ _ p3
    have h5 := at_upd (H := H3) (a := kn) (o := .dK (initKn k low cap))
    generalize upd H3 kn (.dK (initKn k low cap)) = H5 at k5 p5 h5 ⊢
    clear k4 p4 c4
    have n_kn := nkp
    have hkn5 := h5
    refine ⟨_, rfl, pl, C, dx, _, rfl, p5, PL.cls, no _ (by simp), by show 2 < 1000; decide, ?_⟩
    have k6 := up (o := .ins C dx (putF "known" (.ref kn) [("rows", .ref ra), ("is_taken", .bl (decide (rk.sty = "taken")))])) k5
    have p6 := at_upd (H := H5) (a := pl) (o := .ins C dx (putF "known" (.ref kn) [("rows", .ref ra), ("is_taken", .bl (decide (rk.sty = "taken")))]))
    have hkn6 := (upd_ne (o := .ins C dx (putF "known" (.ref kn) [("rows", .ref ra), ("is_taken", .bl (decide (rk.sty = "taken")))])) n_kn).trans hkn5
    generalize upd H5 pl _ = H6 at k6 p6 hkn6 ⊢
    have p6 : H6 pl = some (.ins C dx [("rows", .ref ra), ("is_taken", .bl (decide (rk.sty = "taken"))), ("known", .ref kn)]) := p6
    refine ⟨by show 0 ≤ sizeLine; decide, fun od nod => ?_⟩
    have n_od : od ≠ pl := fun z => by rw [z, p6] at nod; cases nod
    have f_od := new_back k6 p6 nod
    have k7 := nw (o := (.lst [])) k6 nod
    have p7 := same_new (o := (.lst [])) nod _ _ p6
    have hod7 := at_upd (H := H6) (a := od) (o := (.lst []))
    have hkn7 := same_new (o := (.lst [])) nod _ _ hkn6
    have d_od_kn : od ≠ kn := fun z => by rw [z, hkn6] at nod; cases nod
    generalize upd H6 od _ = H7 at k7 p7 hod7 hkn7 ⊢
    refine ⟨_, rfl, pl, C, dx, _, rfl, p7, PL.cls, no _ (by simp), by show 3 < 1000; decide, ?_⟩
    have k8 := up (o := .ins C dx (putF "order" (.ref od) [("rows", .ref ra), ("is_taken", .bl (decide (rk.sty = "taken"))), ("known", .ref kn)])) k7
    have p8 := at_upd (H := H7) (a := pl) (o := .ins C dx (putF "order" (.ref od) [("rows", .ref ra), ("is_taken", .bl (decide (rk.sty = "taken"))), ("known", .ref kn)]))
    have hkn8 := (upd_ne (o := .ins C dx (putF "order" (.ref od) [("rows", .ref ra), ("is_taken", .bl (decide (rk.sty = "taken"))), ("known", .ref kn)])) n_kn).trans hkn7
    have hod8 := (upd_ne (o := .ins C dx (putF "order" (.ref od) [("rows", .ref ra), ("is_taken", .bl (decide (rk.sty = "taken"))), ("known", .ref kn)])) n_od).trans hod7
    generalize upd H7 pl _ = H8 at k8 p8 hkn8 hod8 ⊢
    have p8 : H8 pl = some (.ins C dx [("rows", .ref ra), ("is_taken", .bl (decide (rk.sty = "taken"))), ("known", .ref kn), ("order", .ref od)]) := p8
    intro sp nsp
    have n_sp : sp ≠ pl := fun z => by rw [z, p8] at nsp; cases nsp
    have f_sp := new_back k8 p8 nsp
    have k9 := nw (o := (.dK [])) k8 nsp
    have p9 := same_new (o := (.dK [])) nsp _ _ p8
    have hsp9 := at_upd (H := H8) (a := sp) (o := (.dK []))
    have hkn9 := same_new (o := (.dK [])) nsp _ _ hkn8
    have d_sp_kn : sp ≠ kn := fun z => by rw [z, hkn8] at nsp; cases nsp
    have hod9 := same_new (o := (.dK [])) nsp _ _ hod8
    have d_sp_od : sp ≠ od := fun z => by rw [z, hod8] at nsp; cases nsp
    generalize upd H8 sp _ = H9 at k9 p9 hsp9 hkn9 hod9 ⊢
    refine ⟨_, rfl, pl, C, dx, _, rfl, p9, PL.cls, no _ (by simp), by show 4 < 1000; decide, ?_⟩
    have k10 := up (o := .ins C dx (putF "spans" (.ref sp) [("rows", .ref ra), ("is_taken", .bl (decide (rk.sty = "taken"))), ("known", .ref kn), ("order", .ref od)])) k9
    have p10 := at_upd (H := H9) (a := pl) (o := .ins C dx (putF "spans" (.ref sp) [("rows", .ref ra), ("is_taken", .bl (decide (rk.sty = "taken"))), ("known", .ref kn), ("order", .ref od)]))
    have hkn10 := (upd_ne (o := .ins C dx (putF "spans" (.ref sp) [("rows", .ref ra), ("is_taken", .bl (decide (rk.sty = "taken"))), ("known", .ref kn), ("order", .ref od)])) n_kn).trans hkn9
    have hod10 := (upd_ne (o := .ins C dx (putF "spans" (.ref sp) [("rows", .ref ra), ("is_taken", .bl (decide (rk.sty = "taken"))), ("known", .ref kn), ("order", .ref od)])) n_od).trans hod9
    have hsp10 := (upd_ne (o := .ins C dx (putF "spans" (.ref sp) [("rows", .ref ra), ("is_taken", .bl (decide (rk.sty = "taken"))), ("known", .ref kn), ("order", .ref od)])) n_sp).trans hsp9
    generalize upd H9 pl _ = H10 at k10 p10 hkn10 hod10 hsp10 ⊢
    have p10 : H10 pl = some (.ins C dx [("rows", .ref ra), ("is_taken", .bl (decide (rk.sty = "taken"))), ("known", .ref kn), ("order", .ref od), ("spans", .ref sp)]) := p10
    intro mks nmks
    have n_mks : mks ≠ pl := fun z => by rw [z, p10] at nmks; cases nmks
    have f_mks := new_back k10 p10 nmks
    have k11 := nw (o := (.dK [])) k10 nmks
    have p11 := same_new (o := (.dK [])) nmks _ _ p10
    have hmk11 := at_upd (H := H10) (a := mks) (o := (.dK []))
    have hkn11 := same_new (o := (.dK [])) nmks _ _ hkn10
    have d_mks_kn : mks ≠ kn := fun z => by rw [z, hkn10] at nmks; cases nmks
    have hod11 := same_new (o := (.dK [])) nmks _ _ hod10
    have d_mks_od : mks ≠ od := fun z => by rw [z, hod10] at nmks; cases nmks
    have hsp11 := same_new (o := (.dK [])) nmks _ _ hsp10
    have d_mks_sp : mks ≠ sp := fun z => by rw [z, hsp10] at nmks; cases nmks
    generalize upd H10 mks _ = H11 at k11 p11 hmk11 hkn11 hod11 hsp11 ⊢
    refine ⟨_, rfl, pl, C, dx, _, rfl, p11, PL.cls, no _ (by simp), by show 5 < 1000; decide, ?_⟩
    have k12 := up (o := .ins C dx (putF "marks" (.ref mks) [("rows", .ref ra), ("is_taken", .bl (decide (rk.sty = "taken"))), ("known", .ref kn), ("order", .ref od), ("spans", .ref sp)])) k11
    have p12 := at_upd (H := H11) (a := pl) (o := .ins C dx (putF "marks" (.ref mks) [("rows", .ref ra), ("is_taken", .bl (decide (rk.sty = "taken"))), ("known", .ref kn), ("order", .ref od), ("spans", .ref sp)]))
    have hkn12 := (upd_ne (o := .ins C dx (putF "marks" (.ref mks) [("rows", .ref ra), ("is_taken", .bl (decide (rk.sty = "taken"))), ("known", .ref kn), ("order", .ref od), ("spans", .ref sp)])) n_kn).trans hkn11
    have hod12 := (upd_ne (o := .ins C dx (putF "marks" (.ref mks) [("rows", .ref ra), ("is_taken", .bl (decide (rk.sty = "taken"))), ("known", .ref kn), ("order", .ref od), ("spans", .ref sp)])) n_od).trans hod11
    have hsp12 := (upd_ne (o := .ins C dx (putF "marks" (.ref mks) [("rows", .ref ra), ("is_taken", .bl (decide (rk.sty = "taken"))), ("known", .ref kn), ("order", .ref od), ("spans", .ref sp)])) n_sp).trans hsp11
    have hmk12 := (upd_ne (o := .ins C dx (putF "marks" (.ref mks) [("rows", .ref ra), ("is_taken", .bl (decide (rk.sty = "taken"))), ("known", .ref kn), ("order", .ref od), ("spans", .ref sp)])) n_mks).trans hmk11
    generalize upd H11 pl _ = H12 at k12 p12 hkn12 hod12 hsp12 hmk12 ⊢
    have p12 : H12 pl = some (.ins C dx [("rows", .ref ra), ("is_taken", .bl (decide (rk.sty = "taken"))), ("known", .ref kn), ("order", .ref od), ("spans", .ref sp), ("marks", .ref mks)]) := p12
    refine ⟨_, rfl, pl, C, dx, _, rfl, p12, PL.cls, no _ (by simp), by show 6 < 1000; decide, ?_⟩
    have k13 := up (o := .ins C dx (putF "ended" (.non) [("rows", .ref ra), ("is_taken", .bl (decide (rk.sty = "taken"))), ("known", .ref kn), ("order", .ref od), ("spans", .ref sp), ("marks", .ref mks)])) k12
    have p13 := at_upd (H := H12) (a := pl) (o := .ins C dx (putF "ended" (.non) [("rows", .ref ra), ("is_taken", .bl (decide (rk.sty = "taken"))), ("known", .ref kn), ("order", .ref od), ("spans", .ref sp), ("marks", .ref mks)]))
    have hkn13 := (upd_ne (o := .ins C dx (putF "ended" (.non) [("rows", .ref ra), ("is_taken", .bl (decide (rk.sty = "taken"))), ("known", .ref kn), ("order", .ref od), ("spans", .ref sp), ("marks", .ref mks)])) n_kn).trans hkn12
    have hod13 := (upd_ne (o := .ins C dx (putF "ended" (.non) [("rows", .ref ra), ("is_taken", .bl (decide (rk.sty = "taken"))), ("known", .ref kn), ("order", .ref od), ("spans", .ref sp), ("marks", .ref mks)])) n_od).trans hod12
    have hsp13 := (upd_ne (o := .ins C dx (putF "ended" (.non) [("rows", .ref ra), ("is_taken", .bl (decide (rk.sty = "taken"))), ("known", .ref kn), ("order", .ref od), ("spans", .ref sp), ("marks", .ref mks)])) n_sp).trans hsp12
    have hmk13 := (upd_ne (o := .ins C dx (putF "ended" (.non) [("rows", .ref ra), ("is_taken", .bl (decide (rk.sty = "taken"))), ("known", .ref kn), ("order", .ref od), ("spans", .ref sp), ("marks", .ref mks)])) n_mks).trans hmk12
    generalize upd H12 pl _ = H13 at k13 p13 hkn13 hod13 hsp13 hmk13 ⊢
    have p13 : H13 pl = some (.ins C dx [("rows", .ref ra), ("is_taken", .bl (decide (rk.sty = "taken"))), ("known", .ref kn), ("order", .ref od), ("spans", .ref sp), ("marks", .ref mks), ("ended", .non)]) := p13
    refine ⟨_, rfl, pl, C, dx, _, rfl, p13, PL.cls, no _ (by simp), by show 7 < 1000; decide, ?_⟩
    have k14 := up (o := .ins C dx (putF "moved" (.int 0) [("rows", .ref ra), ("is_taken", .bl (decide (rk.sty = "taken"))), ("known", .ref kn), ("order", .ref od), ("spans", .ref sp), ("marks", .ref mks), ("ended", .non)])) k13
    have p14 := at_upd (H := H13) (a := pl) (o := .ins C dx (putF "moved" (.int 0) [("rows", .ref ra), ("is_taken", .bl (decide (rk.sty = "taken"))), ("known", .ref kn), ("order", .ref od), ("spans", .ref sp), ("marks", .ref mks), ("ended", .non)]))
    have hkn14 := (upd_ne (o := .ins C dx (putF "moved" (.int 0) [("rows", .ref ra), ("is_taken", .bl (decide (rk.sty = "taken"))), ("known", .ref kn), ("order", .ref od), ("spans", .ref sp), ("marks", .ref mks), ("ended", .non)])) n_kn).trans hkn13
    have hod14 := (upd_ne (o := .ins C dx (putF "moved" (.int 0) [("rows", .ref ra), ("is_taken", .bl (decide (rk.sty = "taken"))), ("known", .ref kn), ("order", .ref od), ("spans", .ref sp), ("marks", .ref mks), ("ended", .non)])) n_od).trans hod13
    have hsp14 := (upd_ne (o := .ins C dx (putF "moved" (.int 0) [("rows", .ref ra), ("is_taken", .bl (decide (rk.sty = "taken"))), ("known", .ref kn), ("order", .ref od), ("spans", .ref sp), ("marks", .ref mks), ("ended", .non)])) n_sp).trans hsp13
    have hmk14 := (upd_ne (o := .ins C dx (putF "moved" (.int 0) [("rows", .ref ra), ("is_taken", .bl (decide (rk.sty = "taken"))), ("known", .ref kn), ("order", .ref od), ("spans", .ref sp), ("marks", .ref mks), ("ended", .non)])) n_mks).trans hmk13
    generalize upd H13 pl _ = H14 at k14 p14 hkn14 hod14 hsp14 hmk14 ⊢
    have p14 : H14 pl = some (.ins C dx [("rows", .ref ra), ("is_taken", .bl (decide (rk.sty = "taken"))), ("known", .ref kn), ("order", .ref od), ("spans", .ref sp), ("marks", .ref mks), ("ended", .non), ("moved", .int 0)]) := p14
    intro us nus
    have n_us : us ≠ pl := fun z => by rw [z, p14] at nus; cases nus
    have f_us := new_back k14 p14 nus
    have k15 := nw (o := (.dK [])) k14 nus
    have p15 := same_new (o := (.dK [])) nus _ _ p14
    have hus15 := at_upd (H := H14) (a := us) (o := (.dK []))
    have hkn15 := same_new (o := (.dK [])) nus _ _ hkn14
    have d_us_kn : us ≠ kn := fun z => by rw [z, hkn14] at nus; cases nus
    have hod15 := same_new (o := (.dK [])) nus _ _ hod14
    have d_us_od : us ≠ od := fun z => by rw [z, hod14] at nus; cases nus
    have hsp15 := same_new (o := (.dK [])) nus _ _ hsp14
    have d_us_sp : us ≠ sp := fun z => by rw [z, hsp14] at nus; cases nus
    have hmk15 := same_new (o := (.dK [])) nus _ _ hmk14
    have d_us_mks : us ≠ mks := fun z => by rw [z, hmk14] at nus; cases nus
    generalize upd H14 us _ = H15 at k15 p15 hus15 hkn15 hod15 hsp15 hmk15 ⊢
    refine ⟨_, rfl, pl, C, dx, _, rfl, p15, PL.cls, no _ (by simp), by show 8 < 1000; decide, ?_⟩
    have k16 := up (o := .ins C dx (putF "used" (.ref us) [("rows", .ref ra), ("is_taken", .bl (decide (rk.sty = "taken"))), ("known", .ref kn), ("order", .ref od), ("spans", .ref sp), ("marks", .ref mks), ("ended", .non), ("moved", .int 0)])) k15
    have p16 := at_upd (H := H15) (a := pl) (o := .ins C dx (putF "used" (.ref us) [("rows", .ref ra), ("is_taken", .bl (decide (rk.sty = "taken"))), ("known", .ref kn), ("order", .ref od), ("spans", .ref sp), ("marks", .ref mks), ("ended", .non), ("moved", .int 0)]))
    have hkn16 := (upd_ne (o := .ins C dx (putF "used" (.ref us) [("rows", .ref ra), ("is_taken", .bl (decide (rk.sty = "taken"))), ("known", .ref kn), ("order", .ref od), ("spans", .ref sp), ("marks", .ref mks), ("ended", .non), ("moved", .int 0)])) n_kn).trans hkn15
    have hod16 := (upd_ne (o := .ins C dx (putF "used" (.ref us) [("rows", .ref ra), ("is_taken", .bl (decide (rk.sty = "taken"))), ("known", .ref kn), ("order", .ref od), ("spans", .ref sp), ("marks", .ref mks), ("ended", .non), ("moved", .int 0)])) n_od).trans hod15
    have hsp16 := (upd_ne (o := .ins C dx (putF "used" (.ref us) [("rows", .ref ra), ("is_taken", .bl (decide (rk.sty = "taken"))), ("known", .ref kn), ("order", .ref od), ("spans", .ref sp), ("marks", .ref mks), ("ended", .non), ("moved", .int 0)])) n_sp).trans hsp15
    have hmk16 := (upd_ne (o := .ins C dx (putF "used" (.ref us) [("rows", .ref ra), ("is_taken", .bl (decide (rk.sty = "taken"))), ("known", .ref kn), ("order", .ref od), ("spans", .ref sp), ("marks", .ref mks), ("ended", .non), ("moved", .int 0)])) n_mks).trans hmk15
    have hus16 := (upd_ne (o := .ins C dx (putF "used" (.ref us) [("rows", .ref ra), ("is_taken", .bl (decide (rk.sty = "taken"))), ("known", .ref kn), ("order", .ref od), ("spans", .ref sp), ("marks", .ref mks), ("ended", .non), ("moved", .int 0)])) n_us).trans hus15
    generalize upd H15 pl _ = H16 at k16 p16 hkn16 hod16 hsp16 hmk16 hus16 ⊢
    have p16 : H16 pl = some (.ins C dx [("rows", .ref ra), ("is_taken", .bl (decide (rk.sty = "taken"))), ("known", .ref kn), ("order", .ref od), ("spans", .ref sp), ("marks", .ref mks), ("ended", .non), ("moved", .int 0), ("used", .ref us)]) := p16
    intro tu ntu
    have n_tu : tu ≠ pl := fun z => by rw [z, p16] at ntu; cases ntu
    have f_tu := new_back k16 p16 ntu
    have k17 := nw (o := (.dK [])) k16 ntu
    have p17 := same_new (o := (.dK [])) ntu _ _ p16
    have htu17 := at_upd (H := H16) (a := tu) (o := (.dK []))
    have hkn17 := same_new (o := (.dK [])) ntu _ _ hkn16
    have d_tu_kn : tu ≠ kn := fun z => by rw [z, hkn16] at ntu; cases ntu
    have hod17 := same_new (o := (.dK [])) ntu _ _ hod16
    have d_tu_od : tu ≠ od := fun z => by rw [z, hod16] at ntu; cases ntu
    have hsp17 := same_new (o := (.dK [])) ntu _ _ hsp16
    have d_tu_sp : tu ≠ sp := fun z => by rw [z, hsp16] at ntu; cases ntu
    have hmk17 := same_new (o := (.dK [])) ntu _ _ hmk16
    have d_tu_mks : tu ≠ mks := fun z => by rw [z, hmk16] at ntu; cases ntu
    have hus17 := same_new (o := (.dK [])) ntu _ _ hus16
    have d_tu_us : tu ≠ us := fun z => by rw [z, hus16] at ntu; cases ntu
    generalize upd H16 tu _ = H17 at k17 p17 htu17 hkn17 hod17 hsp17 hmk17 hus17 ⊢
    refine ⟨_, rfl, pl, C, dx, _, rfl, p17, PL.cls, no _ (by simp), by show 9 < 1000; decide, ?_⟩
    have k18 := up (o := .ins C dx (putF "turned" (.ref tu) [("rows", .ref ra), ("is_taken", .bl (decide (rk.sty = "taken"))), ("known", .ref kn), ("order", .ref od), ("spans", .ref sp), ("marks", .ref mks), ("ended", .non), ("moved", .int 0), ("used", .ref us)])) k17
    have p18 := at_upd (H := H17) (a := pl) (o := .ins C dx (putF "turned" (.ref tu) [("rows", .ref ra), ("is_taken", .bl (decide (rk.sty = "taken"))), ("known", .ref kn), ("order", .ref od), ("spans", .ref sp), ("marks", .ref mks), ("ended", .non), ("moved", .int 0), ("used", .ref us)]))
    have hkn18 := (upd_ne (o := .ins C dx (putF "turned" (.ref tu) [("rows", .ref ra), ("is_taken", .bl (decide (rk.sty = "taken"))), ("known", .ref kn), ("order", .ref od), ("spans", .ref sp), ("marks", .ref mks), ("ended", .non), ("moved", .int 0), ("used", .ref us)])) n_kn).trans hkn17
    have hod18 := (upd_ne (o := .ins C dx (putF "turned" (.ref tu) [("rows", .ref ra), ("is_taken", .bl (decide (rk.sty = "taken"))), ("known", .ref kn), ("order", .ref od), ("spans", .ref sp), ("marks", .ref mks), ("ended", .non), ("moved", .int 0), ("used", .ref us)])) n_od).trans hod17
    have hsp18 := (upd_ne (o := .ins C dx (putF "turned" (.ref tu) [("rows", .ref ra), ("is_taken", .bl (decide (rk.sty = "taken"))), ("known", .ref kn), ("order", .ref od), ("spans", .ref sp), ("marks", .ref mks), ("ended", .non), ("moved", .int 0), ("used", .ref us)])) n_sp).trans hsp17
    have hmk18 := (upd_ne (o := .ins C dx (putF "turned" (.ref tu) [("rows", .ref ra), ("is_taken", .bl (decide (rk.sty = "taken"))), ("known", .ref kn), ("order", .ref od), ("spans", .ref sp), ("marks", .ref mks), ("ended", .non), ("moved", .int 0), ("used", .ref us)])) n_mks).trans hmk17
    have hus18 := (upd_ne (o := .ins C dx (putF "turned" (.ref tu) [("rows", .ref ra), ("is_taken", .bl (decide (rk.sty = "taken"))), ("known", .ref kn), ("order", .ref od), ("spans", .ref sp), ("marks", .ref mks), ("ended", .non), ("moved", .int 0), ("used", .ref us)])) n_us).trans hus17
    have htu18 := (upd_ne (o := .ins C dx (putF "turned" (.ref tu) [("rows", .ref ra), ("is_taken", .bl (decide (rk.sty = "taken"))), ("known", .ref kn), ("order", .ref od), ("spans", .ref sp), ("marks", .ref mks), ("ended", .non), ("moved", .int 0), ("used", .ref us)])) n_tu).trans htu17
    generalize upd H17 pl _ = H18 at k18 p18 hkn18 hod18 hsp18 hmk18 hus18 htu18 ⊢
    have p18 : H18 pl = some (.ins C dx [("rows", .ref ra), ("is_taken", .bl (decide (rk.sty = "taken"))), ("known", .ref kn), ("order", .ref od), ("spans", .ref sp), ("marks", .ref mks), ("ended", .non), ("moved", .int 0), ("used", .ref us), ("turned", .ref tu)]) := p18
    obtain ⟨v1, v2, v3, rfl⟩ : ∃ a b c, cs = [a, b, c] := by
      match cs, hl with
      | [a, b, c], _ => exact ⟨a, b, c, rfl⟩
    refine ⟨_, rfl, pl, dx, _, rfl, p18, rfl, _, rfl, 1, rfl, pc, _, rfl, SqT.of (k18 _ _ pcpl hpc), fun z => absurd z.1 (show ¬ HT.sIx 4 0 (some 1) = 0 by decide), fun _ pn npn => ?_⟩
    have k19 := nw (o := .tup [v1, v2, v3]) k18 npn
    have s19 := same_new (o := .tup [v1, v2, v3]) npn
    have e19 : cutV [V.int k, v1, v2, v3] (some 1) none = [v1, v2, v3] := rfl
    rw [e19]
    have P0 : PlAt C (upd H18 pn (.tup [v1, v2, v3])) ⟨pl, dx, ra, kn, od, sp, mks, us, tu⟩ ⟨decide (rk.sty = "taken"), initKn k low cap, [], [], .non, 0, []⟩ :=
      ⟨s19 _ _ p18, s19 _ _ hkn18, s19 _ _ hod18, ⟨[], s19 _ _ hsp18, .nil⟩, s19 _ _ hmk18, s19 _ _ hus18, s19 _ _ htu18, by
        simp only [List.nodup_cons, List.mem_cons, List.not_mem_nil, or_false, not_or, List.nodup_nil, and_true]
        exact ⟨⟨Ne.symm d_sp_kn, Ne.symm d_mks_kn, Ne.symm d_us_kn, Ne.symm d_tu_kn⟩, ⟨Ne.symm d_mks_sp, Ne.symm d_us_sp, Ne.symm d_tu_sp⟩, ⟨Ne.symm d_us_mks, Ne.symm d_tu_mks⟩, Ne.symm d_tu_us, not_false⟩⟩
    have s19' := at_upd (H := H18) (a := pn) (o := .tup [v1, v2, v3])
    generalize upd H18 pn _ = H19 at k19 P0 s19' ⊢
    refine ⟨_, _, pn, [v1, v2, v3], rfl, P0, rfl, rfl, s19', rfl, hn, fun H' ks PH => ?_⟩
    refine q _ H' rfl rfl (fun b o nb e => ?_) ?_ PH
    · refine ks b o (fun m => ?_) (k19 b o nb e)
      simp only [PlA.own, List.mem_cons, List.not_mem_nil, or_false] at m
      rcases m with m | m | m | m | m | m | m <;> subst m
      · exact nb rfl
      · rw [nkn0] at e; cases e
      · rw [f_od] at e; cases e
      · rw [f_sp] at e; cases e
      · rw [f_mks] at e; cases e
      · rw [f_us] at e; cases e
      · rw [f_tu] at e; cases e
    · intro a m na
      simp only [PlA.own, List.mem_cons, List.not_mem_nil, or_false] at m
      rcases m with m | m | m | m | m | m | m <;> subst m
      · exact absurd rfl na
      · exact nkn0
      · exact f_od
      · exact f_sp
      · exact f_mks
      · exact f_us
      · exact f_tu
end
end Pk
namespace Pk
open L2 PyProof.Rows PySem.Spec PySem
abbrev sCho : Stmt := inClass (top 17) 4
abbrev sCnt : Stmt := inClass (top 17) 7
abbrev sCut : Stmt := inClass (top 17) 10
abbrev sJoin : Stmt := inClass (top 17) 11
abbrev sSh : Stmt := inClass (top 17) 12
abbrev sMk : Stmt := inClass (top 17) 13
theorem log2_small {k : Int} (h : k.natAbs < 2 ^ 400) : k.natAbs.log2 < 400 := by
  by_cases z : k.natAbs = 0
  · rw [z]
    decide
  · exact (Nat.log2_lt z).mpr h
/-- what is never asked for -/
def spNo : Sp := fun _ _ _ _ => False
def spTot (C : Addr) : Sp := fun vs H Q _ => ∃ (d : PlA) (s : PSt) (tt : Addr) (k : Int), vs = [.ref d.pl, .ref tt] ∧ PlAt C H d s ∧ SumAt H tt [(1, some "k")] ∧ valV s.known (.inr "k") = some (.int k) ∧ k.natAbs < 2 ^ 400 ∧ Q (.int k) H
def spDo (C : Addr) : Sp := fun vs H Q _ => ∃ (d : PlA) (s : PSt) (a : Addr) (k : Int) (l : Nat) (fr : Addr → Prop), vs = [.ref d.pl, .ref a] ∧ PlAt C H d s ∧ RowAt fr H a (.set l "a" [(1, some "k")] none) ∧ valV s.known (.inr "k") = some (.int k) ∧ k.natAbs < 2 ^ 400 ∧ s.known.length < sizeLine ∧ Q .non (upd H d.kn (.dK (putK s.known (.inr "a") (.int k))))
section
variable {K : PySem.W.Frag} {P : Program} {w : World} {base : Heap} {mg : Str → Option Value} {C fI : Addr}
theorem no_run {f : Addr} {fd : FuncData} {ps : List Str} {name qual : Str} {st : Stmt} (F : FunD K name qual (defArgs st) (defBody st) (defScope st) [] [] f fd) : FnOk P w K mg base CX0 0 f fd ps spNo := ⟨fun _ _ _ _ h => h.elim, fun _ _ _ _ _ _ _ _ _ _ _ _ _ h => h.elim⟩
theorem sc_Player_total : FnScope ["self", "told", "found", "factor", "name"] ["self", "told"] (defScope sTot) := ⟨rfl, rfl, rfl, by decide +kernel, rfl, by decide +kernel, by decide +kernel⟩
theorem ok_Player_total {f fCnt : Addr} {fd fdCnt : FuncData} (F : FunD K "total" "Player.total" (defArgs sTot) (defBody sTot) (defScope sTot) [] [] f fd) (PL : PlayerC K mg C fI)
    (FCnt : FunD K "count" "Player.count" (defArgs sCnt) (defBody sCnt) (defScope sCnt) [] [] fCnt fdCnt) (mCnt : Meth K C "count" fCnt) : FnOk P w K mg base CX0 1 f fd ["self", "told"] (spTot C) := by
  have GCnt : FnOk P w K mg base CX0 0 fCnt fdCnt ["self", "name"] spNo := no_run FCnt
  have bCnt : Binds K fdCnt ["self", "name"] [] := FCnt.bindsN fun _ _ _ _ _ _ us hl => match us, hl with | [_, _], _ => rfl
  refine F.ok sc_Player_total (fun vs H Q E h => ?_) (fun cdv A outer s H vs Q E hr h => ?_)
  · obtain ⟨d, s, tt, k, rfl, _⟩ := h
    rfl
  · obtain ⟨d, st, tt, k, rfl, hP, ⟨refs, htt, hts⟩, hv, hk, q⟩ := h
    have hu : (A.deeper (envOfC "Player.total" (defScope sTot) s.heap.objs.size f cdv)).units + 1 < cLine := Nat.lt_of_le_of_lt (by omega) (Room.units hr)
    refine ⟨_, PSs.nox (pss_cons (by exact (ps_set (i := 2) sc_Player_total.nd rfl (Or.inl rfl) pe_int)) (pss_cons (by exact (ps_for PassesOwn.never rfl (pi_tup (pv 1)) (pg_tupK (n := 2) K rfl rfl (pgs_cons (pg_name (i := 3) sc_Player_total.nd rfl (Or.inl rfl)) (pgs_cons (pg_name (i := 4) sc_Player_total.nd rfl (Or.inl rfl)) pgs_nil))) (pss_one (by exact (ps_if (pt_cmp (pc_isN (pv 4))) (pss_one (by exact (ps_aug (i := 2) sc_Player_total.nd rfl (Or.inl rfl) (pv 3) iop_add))) (pss_one (by exact (ps_if (pt_cmp (pc_din hu (pv 4) (pe_fld (pv 0) rfl))) (pss_one (by exact (ps_aug (i := 2) sc_Player_total.nd rfl (Or.inl rfl) (pe_op op_mulW (pv 3) (pe_dget hu (pe_fld (pv 0) rfl) (pv 4) (fun _ _ => rfl))) iop_add))) (pss_one (by exact (ps_if (pt_cmp (pc_din hu (pv 4) (pe_fld (pv 0) rfl))) (pss_one (by exact (ps_aug (i := 2) sc_Player_total.nd rfl (Or.inl rfl) (pe_op op_mulW (pv 3) (pe_meth (pv 0) PL.cls mCnt GCnt (hr.mono (by decide)) bCnt .nil pass0 (pa_cons (pv 4) pa_nil))) iop_add))) (pss_cons (by exact (ps_fld (pv 0) pe_str rfl)) (pss_one (by exact (ps_ret pe_non))))))))))))))) (pss_one (by exact (ps_ret (pv 2)))))), ?_⟩
    cases hts with
    | cons hq tl =>
      cases tl with
      | nil =>
        rename_i qa
        refine ⟨_, rfl, tt, rfl, ⟨_, SqT.of htt⟩, for_tup (K := K) (a := tt) (xs := [V.ref qa]) (fun i σ H' => H' = H ∧ ∃ v3 v4, σ = [some (.ref d.pl), some (.ref tt), some (.int (if i = 0 then 0 else k)), v3, v4]) ⟨rfl, none, none, rfl⟩ (fun i σ H' _ ⟨e, _⟩ => by rw [e]; exact SqT.of htt) ?_ ?_⟩
        · rintro i x σ H' hi ⟨rfl, v3, v4, rfl⟩
          obtain ⟨rfl, rfl⟩ : i = 0 ∧ x = .ref qa := by
            match i, hi with
            | 0, e => cases e; exact ⟨rfl, rfl⟩
          have hq : H' qa = some (.tup [.int 1, .str "k"]) := hq
          refine ⟨qa, _, rfl, SqT.of hq, rfl, _, _, rfl, _, _, rfl, rfl, ?_⟩
          refine ⟨_, rfl, _, rfl, ff' (decide_eq_false (by intro z; cases z)) ?_⟩
          refine ⟨_, rfl, _, rfl, d.pl, C, d.dx, _, .ref d.kn, rfl, hP.h, PL.cls, PL.no _ (by simp), rfl, d.kn, _, rfl, .inl ⟨_, .inr "k", .inl hP.kn, rfl, rfl⟩, _, rfl, tt' (by rw [hv]; rfl) ?_⟩
          refine ⟨_, rfl, _, rfl, _, rfl, d.pl, C, d.dx, _, .ref d.kn, rfl, hP.h, PL.cls, PL.no _ (by simp), rfl, _, rfl, d.kn, .int k, rfl, .inl ⟨_, .inr "k", .inl hP.kn, rfl, hv.symm⟩, 1, k, rfl, rfl, ?_, _, _, rfl, rfl, rfl, some (.int 1), some (.str "k"), ?_⟩
          · show (1 : Int).natAbs.log2 + k.natAbs.log2 < 1000000
            have a := log2_small hk
            have b : (1 : Int).natAbs.log2 = 0 := by decide
            omega
          · have e : (if (0 : Nat) = 0 then (0 : Int) else k) + 1 * k = k := by
              rw [if_pos rfl, Int.one_mul, Int.zero_add]
            show [some (V.ref d.pl), some (V.ref tt), some (V.int ((if (0 : Nat) = 0 then (0 : Int) else k) + 1 * k)), some (V.int 1), some (V.str "k")] = _
            rw [e]
            rfl
        · rintro σ H' ⟨rfl, v3, v4, rfl⟩
          exact ⟨_, rfl, q⟩
theorem sc_Player_do_row : FnScope ["self", "row", "found"] ["self", "row"] (defScope sDoR) := ⟨rfl, rfl, rfl, by decide +kernel, rfl, by decide +kernel, by decide +kernel⟩
theorem ok_Player_do_row {f fTot fCut fJoin fSh fMk : Addr} {fd fdTot fdCut fdJoin fdSh fdMk : FuncData} (F : FunD K "do_row" "Player.do_row" (defArgs sDoR) (defBody sDoR) (defScope sDoR) [] [] f fd) (PL : PlayerC K mg C fI)
    (FTot : FunD K "total" "Player.total" (defArgs sTot) (defBody sTot) (defScope sTot) [] [] fTot fdTot) (GTot : FnOk P w K mg base CX0 1 fTot fdTot ["self", "told"] (spTot C)) (mTot : Meth K C "total" fTot)
    (FCut : FunD K "cut" "Player.cut" (defArgs sCut) (defBody sCut) (defScope sCut) [] [] fCut fdCut) (mCut : Meth K C "cut" fCut) (FJoin : FunD K "join" "Player.join" (defArgs sJoin) (defBody sJoin) (defScope sJoin) [] [] fJoin fdJoin) (mJoin : Meth K C "join" fJoin)
    (FSh : FunD K "shift" "Player.shift" (defArgs sSh) (defBody sSh) (defScope sSh) [] [] fSh fdSh) (mSh : Meth K C "shift" fSh) (FMk : FunD K "set_mark" "Player.set_mark" (defArgs sMk) (defBody sMk) (defScope sMk) [] [] fMk fdMk) (mMk : Meth K C "set_mark" fMk) : FnOk P w K mg base CX0 2 f fd ["self", "row"] (spDo C) := by
  have GCut : FnOk P w K mg base CX0 0 fCut fdCut ["self", "name", "many", "other"] spNo := no_run FCut
  have GJoin : FnOk P w K mg base CX0 0 fJoin fdJoin ["self", "name", "other"] spNo := no_run FJoin
  have GSh : FnOk P w K mg base CX0 0 fSh fdSh ["self", "many", "name", "other"] spNo := no_run FSh
  have GMk : FnOk P w K mg base CX0 0 fMk fdMk ["self", "name"] spNo := no_run FMk
  have bTot : Binds K fdTot ["self", "told"] [] := FTot.bindsN fun _ _ _ _ _ _ us hl => match us, hl with | [_, _], _ => rfl
  have bCut : Binds K fdCut ["self", "name", "many", "other"] [] := FCut.bindsN fun _ _ _ _ _ _ us hl => match us, hl with | [_, _, _, _], _ => rfl
  have bJoin : Binds K fdJoin ["self", "name", "other"] [] := FJoin.bindsN fun _ _ _ _ _ _ us hl => match us, hl with | [_, _, _], _ => rfl
  have bSh : Binds K fdSh ["self", "many", "name", "other"] [] := FSh.bindsN fun _ _ _ _ _ _ us hl => match us, hl with | [_, _, _, _], _ => rfl
  have bMk : Binds K fdMk ["self", "name"] [] := FMk.bindsN fun _ _ _ _ _ _ us hl => match us, hl with | [_, _], _ => rfl
  refine F.ok sc_Player_do_row (fun vs H Q E h => ?_) (fun cdv A outer s H vs Q E hr h => ?_)
  · obtain ⟨d, s, a, k, l, fr, rfl, _⟩ := h
    rfl
  · obtain ⟨d, st, a, k, l, fr, rfl, hP, hrow, hv, hk, hl, q⟩ := h
    have hu : (A.deeper (envOfC "Player.do_row" (defScope sDoR) s.heap.objs.size f cdv)).units + 1 < cLine := Nat.lt_of_le_of_lt (by omega) (Room.units hr)
    refine ⟨_, PSs.nox (pss_one (by exact (ps_if (pt_cmpR op_eq (pe_ix (ix_tupK K rfl) (pv 1) pe_int (fun _ _ => rfl)) pe_str (nomark _)) (pss_cons (by exact (ps_set (i := 2) sc_Player_do_row.nd rfl (Or.inl rfl) (pe_meth (pv 0) PL.cls mTot GTot (hr.mono (by decide)) bTot .nil pass0 (pa_cons (pe_ix (ix_tupK K rfl) (pv 1) pe_int (fun _ _ => rfl)) pa_nil)))) (pss_one (by exact (ps_if (pt_cmp (pc_notN (pv 2))) (pss_one (by exact (ps_dput hu (pe_fld (pv 0) rfl) (pe_ix (ix_tupK K rfl) (pv 1) pe_int (fun _ _ => rfl)) (pe_ifExp (pt_cmp (pc_isN (pe_ix (ix_tupK K rfl) (pv 1) pe_int (fun _ _ => rfl)))) (pv 2) (pe_op op_fdivW (pv 2) (pe_ix (ix_tupK K rfl) (pv 1) pe_int (fun _ _ => rfl)))) rfl))) pss_nil)))) (pss_one (by exact (ps_if (pt_cmpR op_eq (pe_ix (ix_tupK K rfl) (pv 1) pe_int (fun _ _ => rfl)) pe_str (nomark _)) (pss_one (by exact (ps_expr (pe_meth (pv 0) PL.cls mCut GCut (hr.mono (by decide)) bCut .nil pass0 (pa_cons (pe_ix (ix_tupK K rfl) (pv 1) pe_int (fun _ _ => rfl)) (pa_cons (pe_meth (pv 0) PL.cls mTot GTot (hr.mono (by decide)) bTot .nil pass0 (pa_cons (pe_ix (ix_tupK K rfl) (pv 1) pe_int (fun _ _ => rfl)) pa_nil)) (pa_cons (pe_ix (ix_tupK K rfl) (pv 1) pe_int (fun _ _ => rfl)) pa_nil))))))) (pss_one (by exact (ps_if (pt_cmpR op_eq (pe_ix (ix_tupK K rfl) (pv 1) pe_int (fun _ _ => rfl)) pe_str (nomark _)) (pss_one (by exact (ps_expr (pe_meth (pv 0) PL.cls mJoin GJoin (hr.mono (by decide)) bJoin .nil pass0 (pa_cons (pe_ix (ix_tupK K rfl) (pv 1) pe_int (fun _ _ => rfl)) (pa_cons (pe_ix (ix_tupK K rfl) (pv 1) pe_int (fun _ _ => rfl)) pa_nil)))))) (pss_one (by exact (ps_if (pt_cmpR op_eq (pe_ix (ix_tupK K rfl) (pv 1) pe_int (fun _ _ => rfl)) pe_str (nomark _)) (pss_one (by exact (ps_expr (pe_meth (pv 0) PL.cls mSh GSh (hr.mono (by decide)) bSh .nil pass0 (pa_cons (pe_meth (pv 0) PL.cls mTot GTot (hr.mono (by decide)) bTot .nil pass0 (pa_cons (pe_ix (ix_tupK K rfl) (pv 1) pe_int (fun _ _ => rfl)) pa_nil)) (pa_cons (pe_ix (ix_tupK K rfl) (pv 1) pe_int (fun _ _ => rfl)) (pa_cons (pe_ix (ix_tupK K rfl) (pv 1) pe_int (fun _ _ => rfl)) pa_nil))))))) (pss_one (by exact (ps_expr (pe_meth (pv 0) PL.cls mMk GMk (hr.mono (by decide)) bMk .nil pass0 (pa_cons (pe_ix (ix_tupK K rfl) (pv 1) pe_int (fun _ _ => rfl)) pa_nil))))))))))))))))), ?_⟩
    cases hrow with
    | set hr1 hsum =>
      rename_i sa
      refine ⟨_, rfl, a, _, 0, .str "set", rfl, rfl, SqT.of hr1, rfl, rfl, _, rfl, tt' (decide_eq_true rfl) ?_⟩
      refine ⟨_, rfl, d.pl, d.dx, _, rfl, hP.h, rfl, _, rfl, a, _, 3, .ref sa, rfl, rfl, SqT.of hr1, rfl, d, st, sa, k, rfl, hP, hsum, hv, hk, ?_⟩
      refine ⟨_, rfl, _, rfl, tt' (by rw [decide_eq_false (by intro z; cases z)]; rfl) ?_⟩
      refine ⟨_, rfl, a, _, 4, .non, rfl, rfl, SqT.of hr1, rfl, _, rfl, tt' (decide_eq_true rfl) ?_⟩
      refine ⟨_, rfl, _, rfl, d.pl, C, d.dx, _, .ref d.kn, rfl, hP.h, PL.cls, PL.no _ (by simp), rfl, _, rfl, a, _, 2, .str "a", rfl, rfl, SqT.of hr1, rfl, d.kn, _, rfl, .inl ⟨_, .inr "a", hP.kn, rfl, hl, rfl⟩, ?_⟩
      exact q
end
end Pk
namespace Pk
open L2 PyProof.Rows PySem.Spec PySem
def small3 (rows : List Row) : Prop := rows = [] ∨ rows = [.quit 1] ∨ rows = [.set 1 "a" [(1, some "k")] none]
/-- a state behind a small text -/
structure Done (s s' : PSt) : Prop where
  tk : s'.tk = s.tk
  pages : s'.pages = s.pages
  marks : s'.marks = s.marks
  moved : s'.moved = s.moved
  ended : s'.ended = .non ∨ s'.ended = .str "done"
  used : s'.used = [] ∨ s'.used = [(.inl 1, .bl true)]
def spOn (C : Addr) : Sp := fun vs H Q _ => ∃ (d : PlA) (s : PSt) (ra : Addr) (rr : List Addr) (rows : List Row) (fr : Addr → Prop) (k : Int), vs = [.ref d.pl, .ref ra] ∧ PlAt C H d s ∧ s.ended = .non ∧ s.used = [] ∧ ra ∉ d.own ∧ H ra = some (.lst (rr.map V.ref)) ∧ RowsAt fr H rr rows ∧ small3 rows ∧ valV s.known (.inr "k") = some (.int k) ∧ k.natAbs < 2 ^ 400 ∧ s.known.length < sizeLine ∧
  ∀ s' H', KeepS d.own H H' → PlAt C H' d s' → Done s s' → Q .non H'
def spWh (C : Addr) : Sp := fun vs H Q _ => ∃ (d : PlA) (s : PSt) (rr : List Addr) (rows : List Row) (fr : Addr → Prop) (k : Int), vs = [.ref d.pl] ∧ PlAt C H d s ∧ s.ended = .non ∧ s.used = [] ∧ d.rows ∉ d.own ∧ H d.rows = some (.lst (rr.map V.ref)) ∧ RowsAt fr H rr rows ∧ small3 rows ∧ valV s.known (.inr "k") = some (.int k) ∧ k.natAbs < 2 ^ 400 ∧ s.known.length < sizeLine ∧
  ∀ s' H', KeepS d.own H H' → PlAt C H' d s' → Done s s' → s'.ended = .str "done" → Q .non H'
theorem putF_ended (d : PlA) (s : PSt) (v : V) : putF "ended" v (plF d s) = plF d { s with ended := v } := rfl
theorem PlAt.setE {C : Addr} {H : Hp} {d : PlA} {s : PSt} (h : PlAt C H d s) (en : V) : PlAt C (upd H d.pl (.ins C d.dx (plF d { s with ended := en }))) d { s with ended := en } := h.setF en s.moved
theorem Done.self {s : PSt} (h : s.ended = .non) (u : s.used = []) : Done s s := ⟨rfl, rfl, rfl, rfl, .inl h, .inl u⟩
theorem KeepS.tup {C : Addr} {H H' : Hp} {d : PlA} {s : PSt} (k : KeepS d.own H H') (h : PlAt C H d s) {t : Addr} {xs : List V} (e : H t = some (.tup xs)) : H' t = some (.tup xs) := k _ _ (h.tupO e) e
section
variable {K : PySem.W.Frag} {P : Program} {w : World} {base : Heap} {mg : Str → Option Value} {C fI : Addr}
theorem sc_Player_play_on : FnScope ["self", "rows", "row"] ["self", "rows"] (defScope sPOn) := ⟨rfl, rfl, rfl, by decide +kernel, rfl, by decide +kernel, by decide +kernel⟩
theorem ok_Player_play_on {f fCho fDo : Addr} {fd fdCho fdDo : FuncData} (F : FunD K "play_on" "Player.play_on" (defArgs sPOn) (defBody sPOn) (defScope sPOn) [] [] f fd) (PL : PlayerC K mg C fI)
    (FCho : FunD K "choose" "Player.choose" (defArgs sCho) (defBody sCho) (defScope sCho) [] [] fCho fdCho) (mCho : Meth K C "choose" fCho)
    (FDo : FunD K "do_row" "Player.do_row" (defArgs sDoR) (defBody sDoR) (defScope sDoR) [] [] fDo fdDo) (GDo : FnOk P w K mg base CX0 2 fDo fdDo ["self", "row"] (spDo C)) (mDo : Meth K C "do_row" fDo) : FnOk P w K mg base CX0 3 f fd ["self", "rows"] (spOn C) := by
  have GCho : FnOk P w K mg base CX0 0 fCho fdCho ["self", "line", "parts", "rows", "others"] spNo := no_run FCho
  have bCho : Binds K fdCho ["self", "line", "parts", "rows", "others"] [] := FCho.bindsN fun _ _ _ _ _ _ us hl => match us, hl with | [_, _, _, _, _], _ => rfl
  have bDo : Binds K fdDo ["self", "row"] [] := FDo.bindsN fun _ _ _ _ _ _ us hl => match us, hl with | [_, _], _ => rfl
  refine F.ok sc_Player_play_on (fun vs H Q E h => ?_) (fun cdv A outer s H vs Q E hr h => ?_)
  · obtain ⟨d, s, ra, rr, rows, fr, k, rfl, _⟩ := h
    rfl
  · obtain ⟨d, st, ra, rr, rows, fr, k, rfl, hP, hen, hus, hra, hrr, hrows, h3, hv, hk, hl, q⟩ := h
    have hu : (A.deeper (envOfC "Player.play_on" (defScope sPOn) s.heap.objs.size f cdv)).units + 1 < cLine := Nat.lt_of_le_of_lt (by omega) (Room.units hr)
    refine ⟨_, PSs.nox (pss_one (by exact (ps_for PassesOwn.never rfl (pi_list (pv 1)) (pg_name (i := 2) sc_Player_play_on.nd rfl (Or.inl rfl)) (pss_cons (by exact (ps_if (pt_cmp (pc_notN (pe_fld (pv 0) rfl))) (pss_one (by exact ps_retN)) pss_nil)) (pss_cons (by exact (ps_dput hu (pe_fld (pv 0) rfl) (pe_ix (ix_tupK K rfl) (pv 2) pe_int (fun _ _ => rfl)) pe_bl rfl)) (pss_one (by exact (ps_if (pt_cmpR op_eq (pe_ix (ix_tupK K rfl) (pv 2) pe_int (fun _ _ => rfl)) pe_str (nomark _)) (pss_one (by exact (ps_expr (pe_meth (pv 0) PL.cls mCho GCho (hr.mono (by decide)) bCho .nil pass0 (pa_cons (pe_ix (ix_tupK K rfl) (pv 2) pe_int (fun _ _ => rfl)) (pa_cons (pe_ix (ix_tupK K rfl) (pv 2) pe_int (fun _ _ => rfl)) (pa_cons (pe_ix (ix_tupK K rfl) (pv 2) pe_int (fun _ _ => rfl)) (pa_cons (pe_ix (ix_tupK K rfl) (pv 2) pe_int (fun _ _ => rfl)) pa_nil)))))))) (pss_one (by exact (ps_if (pt_cmpR op_eq (pe_ix (ix_tupK K rfl) (pv 2) pe_int (fun _ _ => rfl)) pe_str (nomark _)) (pss_one (by exact (ps_fld (pv 0) pe_str rfl))) (pss_one (by exact (ps_expr (pe_meth (pv 0) PL.cls mDo GDo (hr.mono (by decide)) bDo .nil pass0 (pa_cons (pv 2) pa_nil)))))))))))))))), ?_⟩
    refine ⟨_, rfl, ra, rfl, ⟨_, SqL.of hrr⟩, for_list (K := K) (a := ra) (xs := rr.map V.ref) (fun i σ H' => ∃ v2 s', σ = [some (.ref d.pl), some (.ref ra), v2] ∧ KeepS d.own H H' ∧ PlAt C H' d s' ∧ (i = 0 → H' = H ∧ s' = st) ∧ Done st s') ⟨none, st, rfl, KeepS.refl, hP, fun _ => ⟨rfl, rfl⟩, .self hen hus⟩ (fun i σ H' _ ⟨_, _, _, kk, _⟩ => SqL.of (kk _ _ hra hrr)) ?_ ?_⟩
    · rintro i x σ H' hi ⟨v2, s', rfl, kk, hP', h0, hD⟩
      obtain ⟨a, rfl, rfl, hrow⟩ : ∃ a, i = 0 ∧ x = .ref a ∧ ∃ row, RowAt fr H a row ∧ (row = .quit 1 ∨ row = .set 1 "a" [(1, some "k")] none) := by
        rcases h3 with rfl | rfl | rfl
        · cases hrows
          cases hi
        · cases hrows with
          | cons h t =>
            cases t
            match i, hi with
            | 0, e => cases e; exact ⟨_, rfl, rfl, _, h, .inl rfl⟩
        · cases hrows with
          | cons h t =>
            cases t
            match i, hi with
            | 0, e => cases e; exact ⟨_, rfl, rfl, _, h, .inr rfl⟩
      obtain ⟨rfl, rfl⟩ := h0 rfl
      refine ⟨_, rfl, d.pl, C, d.dx, _, s'.ended, rfl, hP.h, PL.cls, PL.no _ (by simp), rfl, _, rfl, ff' (by rw [hen]; rfl) ?_⟩
      have P1 := hP.setUs [(.inl 1, .bl true)]
      have k1 : KeepS d.own H' (upd H' d.us (.dK [(.inl 1, .bl true)])) := keepS_upd (by simp [PlA.own])
      have eu : putK s'.used (.inl 1 : Key) (.bl true) = [(.inl 1, .bl true)] := by
        rw [hus]
        rfl
      have D1 : Done s' { s' with used := [(.inl 1, .bl true)] } := ⟨rfl, rfl, rfl, rfl, .inl hen, .inr rfl⟩
      obtain ⟨row, hrow, hq | hq⟩ := hrow
      · subst hq
        cases hrow with
        | quit hr1 =>
          have hr2 := k1 _ _ (hP.tupO hr1) hr1
          refine ⟨_, rfl, d.pl, C, d.dx, _, .ref d.us, rfl, hP.h, PL.cls, PL.no _ (by simp), rfl, _, rfl, a, _, 1, .int 1, rfl, rfl, SqT.of hr1, rfl, d.us, _, rfl, .inl ⟨_, .inl 1, hP.us, rfl, by rw [hus]; show 0 < sizeLine; decide, rfl⟩, ?_⟩
          rw [eu]
          refine ⟨_, rfl, a, _, 0, .str "quit", rfl, rfl, SqT.of hr2, rfl, rfl, _, rfl, ff' (by decide +kernel) ?_⟩
          refine ⟨_, rfl, a, _, 0, .str "quit", rfl, rfl, SqT.of hr2, rfl, rfl, _, rfl, tt' (by decide +kernel) ?_⟩
          refine ⟨_, rfl, d.pl, C, d.dx, _, rfl, P1.h, PL.cls, PL.no _ (by simp), by show 10 < 1000; decide, ?_⟩
          rw [putF_ended]
          exact ⟨some (.ref a), _, rfl, k1.trans (keepS_upd (by simp [PlA.own])), P1.setE _, (fun z => (nomatch z)), ⟨rfl, rfl, rfl, rfl, .inr rfl, .inr rfl⟩⟩
      · subst hq
        cases hrow with
        | set hr1 hsum =>
          have hr2 := k1 _ _ (hP.tupO hr1) hr1
          have ks : Keeps (fun _ => False) H' (upd H' d.us (.dK [(.inl 1, .bl true)])) := ⟨fun b xs e => k1 _ _ (hP.tupO e) e, fun _ _ z => z.elim⟩
          refine ⟨_, rfl, d.pl, C, d.dx, _, .ref d.us, rfl, hP.h, PL.cls, PL.no _ (by simp), rfl, _, rfl, a, _, 1, .int 1, rfl, rfl, SqT.of hr1, rfl, d.us, _, rfl, .inl ⟨_, .inl 1, hP.us, rfl, by rw [hus]; show 0 < sizeLine; decide, rfl⟩, ?_⟩
          rw [eu]
          refine ⟨_, rfl, a, _, 0, .str "set", rfl, rfl, SqT.of hr2, rfl, rfl, _, rfl, ff' (by decide +kernel) ?_⟩
          refine ⟨_, rfl, a, _, 0, .str "set", rfl, rfl, SqT.of hr2, rfl, rfl, _, rfl, ff' (by decide +kernel) ?_⟩
          refine ⟨_, rfl, d.pl, d.dx, _, rfl, P1.h, rfl, _, rfl, d, _, a, k, 1, fr, rfl, P1, .set hr2 (hsum.keep ks), hv, hk, hl, ?_⟩
          exact ⟨some (.ref a), _, rfl, k1.trans (keepS_upd (by simp [PlA.own])), P1.setKn _, (fun z => (nomatch z)), ⟨rfl, rfl, rfl, rfl, .inl hen, .inr rfl⟩⟩
    · rintro σ H' ⟨v2, s', rfl, kk, hP', _, hD⟩
      exact q s' H' kk hP' hD
theorem sc_Player_play_whole : FnScope ["self"] ["self"] (defScope sPWh) := ⟨rfl, rfl, rfl, by decide +kernel, rfl, by decide +kernel, by decide +kernel⟩
theorem ok_Player_play_whole {f fOn : Addr} {fd fdOn : FuncData} (F : FunD K "play_whole" "Player.play_whole" (defArgs sPWh) (defBody sPWh) (defScope sPWh) [] [] f fd) (PL : PlayerC K mg C fI)
    (FOn : FunD K "play_on" "Player.play_on" (defArgs sPOn) (defBody sPOn) (defScope sPOn) [] [] fOn fdOn) (GOn : FnOk P w K mg base CX0 3 fOn fdOn ["self", "rows"] (spOn C)) (mOn : Meth K C "play_on" fOn) : FnOk P w K mg base CX0 4 f fd ["self"] (spWh C) := by
  have bOn : Binds K fdOn ["self", "rows"] [] := FOn.bindsN fun _ _ _ _ _ _ us hl => match us, hl with | [_, _], _ => rfl
  refine F.ok sc_Player_play_whole (fun vs H Q E h => ?_) (fun cdv A outer s H vs Q E hr h => ?_)
  · obtain ⟨d, s, rr, rows, fr, k, rfl, _⟩ := h
    rfl
  · obtain ⟨d, st, rr, rows, fr, k, rfl, hP, hen, hus, hra, hrr, hrows, h3, hv, hk, hl, q⟩ := h
    refine ⟨_, PSs.nox (pss_cons (by exact (ps_expr (pe_meth (pv 0) PL.cls mOn GOn (hr.mono (by decide)) bOn .nil pass0 (pa_cons (pe_fld (pv 0) rfl) pa_nil)))) (pss_one (by exact (ps_if (pt_cmp (pc_isN (pe_fld (pv 0) rfl))) (pss_one (by exact (ps_fld (pv 0) pe_str rfl))) pss_nil)))), ?_⟩
    refine ⟨_, rfl, d.pl, d.dx, _, rfl, hP.h, rfl, _, rfl, d.pl, C, d.dx, _, .ref d.rows, rfl, hP.h, PL.cls, PL.no _ (by simp), rfl, d, st, d.rows, rr, rows, fr, k, rfl, hP, hen, hus, hra, hrr, hrows, h3, hv, hk, hl, fun s' H' kk hP' hD => ?_⟩
    refine ⟨_, rfl, d.pl, C, d.dx, _, s'.ended, rfl, hP'.h, PL.cls, PL.no _ (by simp), rfl, _, rfl, ?_⟩
    rcases hD.ended with e | e
    · refine tt' (by rw [e]; rfl) ?_
      refine ⟨_, rfl, d.pl, C, d.dx, _, rfl, hP'.h, PL.cls, PL.no _ (by simp), by show 10 < 1000; decide, ?_⟩
      rw [putF_ended]
      exact q _ _ (kk.trans (keepS_upd (by simp [PlA.own]))) (hP'.setE _) ⟨hD.tk, hD.pages, hD.marks, hD.moved, .inr rfl, hD.used⟩ rfl
    · exact ff' (by rw [e]; rfl) (q _ _ kk hP' hD e)
end
end Pk
namespace L2
open PyProof.Rows PySem.Spec PySem
/-! ### an attribute read within a comprehension -/
theorem pe_fldK {X : Cx} {o : Expr} {f : Str} {pos : Pos} {ta : TE} (K : PySem.W.Frag) (eK : X.K = K) (ha : PE X o ta) (hb : attributeBase o f X.env (eval o X.env) = eval o X.env) : PE X (.Attribute o f pos) (tFld K ta f) := by
  subst eK
  exact pe_fld ha hb
end L2
namespace Pk
open L2 PyProof.Rows PySem.Spec PySem
theorem valV_at {α : Type} [DecidableEq α] : ∀ {kvs : List (α × V)} {i : Nat} {kv : α × V}, (kvs.map (·.1)).Nodup → kvs[i]? = some kv → valV kvs kv.1 = some kv.2
  | p :: r, 0, kv, _, e => by
    cases e
    exact valV_pos rfl
  | p :: r, i + 1, kv, nd, e => by
    rw [List.map_cons, List.nodup_cons] at nd; have e : r[i]? = some kv := e
    have ne : ¬ p.1 = kv.1 := fun z => nd.1 (by rw [z]; exact List.mem_map.mpr ⟨kv, List.mem_of_getElem? e, rfl⟩)
    rw [valV_neg ne]
    exact valV_at nd.2 e
theorem span_nodup {H : Hp} : ∀ {kvs : List (Key × V)} {ps : List Page}, Paired (SpanAt H) kvs ps → (ps.map (·.1)).Nodup → (kvs.map (·.1)).Nodup
  | _, _, .nil, _ => (List.nodup_nil)
  | _, _, .cons h t, nd => by
    rw [List.map_cons, List.nodup_cons] at nd ⊢
    refine ⟨fun m => ?_, span_nodup t nd.2⟩
    obtain ⟨kv, hk, e⟩ := List.mem_map.mp m
    obtain ⟨p, hp, e2⟩ := span_keys t kv hk
    rw [h.1, e2] at e
    exact nd.1 (List.mem_map.mpr ⟨p, hp, Sum.inr.inj e⟩)
def spTP (C : Addr) : Sp := fun vs H Q _ => ∃ (d : PlA) (s : PSt), vs = [.ref d.pl] ∧ PlAt C H d s ∧ (s.pages.map (·.1)).Nodup ∧ s.pages.length ≤ 1000 ∧ ∀ p kvs H', Same H H' → H p = none → Paired (SpanAt H') kvs s.pages → H' p = some (.tup (kvs.map (·.2))) → Q (.ref p) H'
def spTS (C : Addr) : Sp := fun vs H Q _ => ∃ (d : PlA) (s : PSt), vs = [.ref d.pl] ∧ PlAt C H d s ∧ (s.pages.map (·.1)).Nodup ∧ s.pages.length ≤ 1000 ∧ (∀ p ∈ s.pages.drop 1, ∃ v, valV (s.marks.map fun m => ((.inr m.1 : Key), V.int m.2)) (.inr p.1) = some (.int v)) ∧ ∀ p (is : List Int) H', Same H H' → H p = none → is.length ≤ 1000 → H' p = some (.tup (is.map V.int)) → Q (.ref p) H'
section
variable {K : PySem.W.Frag} {P : Program} {w : World} {base : Heap} {mg : Str → Option Value} {C fI : Addr}
theorem sc_Player_told_pages : FnScope ["self", "name"] ["self"] (defScope sTPages) := ⟨rfl, rfl, rfl, by decide +kernel, rfl, by decide +kernel, by decide +kernel⟩
theorem ok_Player_told_pages {f : Addr} {fd : FuncData} (F : FunD K "told_pages" "Player.told_pages" (defArgs sTPages) (defBody sTPages) (defScope sTPages) [] [] f fd) (PL : PlayerC K mg C fI) (mTuple : mg "tuple" = none) : FnOk P w K mg base CX0 1 f fd ["self"] (spTP C) := by
  refine F.ok sc_Player_told_pages (fun vs H Q E h => ?_) (fun cdv A outer s H vs Q E hr h => ?_)
  · obtain ⟨d, s, rfl, _⟩ := h
    rfl
  · obtain ⟨d, st, rfl, hP, hnd, hl, q⟩ := h
    have hu : (A.deeper (envOfC "Player.told_pages" (defScope sTPages) s.heap.objs.size f cdv)).units + 1 < cLine := Nat.lt_of_le_of_lt (by omega) (Room.units hr)
    refine ⟨_, PSs.nox (pss_one (by exact (ps_ret (pe_callTy call_tuple_of (by rfl) mTuple (by decide +kernel) (pa_cons (pe_lc (own := [("name", 1)]) (g := gName 1) (tt := tYes) rfl sc_Player_told_pages.nd (pi_list (pe_fldK K rfl (pv 0) rfl)) (blkOk_by (N := ["self", "name"]) (sc := defScope sTPages) (by decide +kernel)) (fun _ _ _ _ _ => pg_name (i := 1) sc_Player_told_pages.nd rfl (Or.inl rfl)) (fun _ _ _ _ _ => pts_nil) (fun _ _ _ _ _ => (pe_dget hu (pe_fldK K rfl (pv 0) rfl) (pv 1) (fun _ _ => rfl)))) pa_nil))))), ?_⟩
    have ho := hP.od
    obtain ⟨kvs, hsp, hpp⟩ := hP.sp
    have knd := span_nodup hpp hnd
    have klen := paired_len hpp
    refine ⟨_, rfl, d.pl, C, d.dx, _, .ref d.od, rfl, hP.h, PL.cls, PL.no _ (by simp), rfl, d.od, rfl, ⟨_, SqL.of ho⟩, fun D hD => lc_list (K := K) (a := d.od) (xs := st.pages.map fun p => .str p.1) (fun i H' => Same H H' ∧ H' D = some (.lst ((kvs.map (·.2)).take i))) ⟨same_new hD, upd_same⟩ (fun i H' _ h => SqL.of (h.1 _ _ ho)) ?_ ?_⟩
    · intro i v H' hi ⟨sp, hD'⟩
      refine ⟨rfl, ?_⟩
      have hil := (List.getElem?_eq_some_iff.mp hi).1
      rw [List.length_map] at hil
      have hki : i < kvs.length := by rw [← klen]; exact hil
      have ek : kvs[i]? = some kvs[i] := List.getElem?_eq_getElem hki
      obtain ⟨p, hp, e1, t, e2, ht⟩ := paired_at hpp ek
      rw [List.getElem?_map, hp] at hi
      cases hi
      have val := valV_at knd ek
      rw [e1] at val
      have keep : ∀ acc, Same H (upd H' D (.lst acc)) := fun acc u o e => by
        rw [upd_ne (fun z => by rw [z, hD] at e; cases e)]
        exact sp _ _ e
      refine ⟨_, rfl, d.pl, C, d.dx, _, .ref d.sp, rfl, sp _ _ hP.h, PL.cls, PL.no _ (by simp), rfl, _, rfl, d.sp, kvs[i].2, rfl, .inl ⟨kvs, .inr p.1, .inl (sp _ _ hsp), rfl, val.symm⟩, _, hD', ?_, keep _, ?_⟩
      · exact Nat.lt_of_le_of_lt (List.length_take_le _ _) (Nat.lt_of_lt_of_le hil (Nat.le_trans hl (by decide)))
      · rw [upd_same, List.take_add_one, List.getElem?_map, ek]
        rfl
    · intro H' ⟨sp, hD'⟩
      have hD' : H' D = some (.lst ((kvs.map (·.2)).take (st.pages.map fun p => V.str p.1).length)) := hD'
      rw [List.length_map, klen, List.take_of_length_le (by rw [List.length_map]; exact Nat.le_refl _)] at hD'
      refine ⟨D, _, rfl, .inl ⟨SqL.of hD', fun l nl => ?_⟩⟩
      have s2 := sp.trans (same_new (o := .tup (kvs.map (·.2))) nl)
      exact q l kvs _ s2 (sp.back nl) (span_keep hpp fun _ _ e => s2 _ _ e) upd_same
theorem mem_cutV {xs : List V} {lo hi : Option Int} {v : V} (h : v ∈ cutV xs lo hi) : v ∈ xs := List.mem_of_mem_drop (List.mem_of_mem_take h)
theorem mem_cut1 {xs : List V} {v : V} (h : v ∈ cutV xs (some 1) none) : v ∈ xs.drop 1 := by
  cases xs with
  | nil => exact absurd (mem_cutV h) (by simp)
  | cons a r =>
    have h := List.mem_of_mem_take h
    have e : HT.sIx (a :: r).length 0 (some 1) = 1 := by
      simp [HT.sIx]
    rw [e] at h
    exact h
theorem span_val {H : Hp} {kvs : List (Key × V)} {ps : List Page} (hp : Paired (SpanAt H) kvs ps) (nd : (kvs.map (·.1)).Nodup) (p : Page) (m : p ∈ ps) : ∃ t, valV kvs (.inr p.1) = some (.ref t) ∧ H t = some (.tup [.int p.2.1, .int p.2.2]) := by
  obtain ⟨i, hi, e⟩ := List.mem_iff_getElem.mp m
  have hk : i < kvs.length := by rw [← paired_len hp]; exact hi
  have ek : kvs[i]? = some kvs[i] := List.getElem?_eq_getElem hk
  obtain ⟨p', hp', e1, t, e2, ht⟩ := paired_at hp ek
  rw [List.getElem?_eq_getElem hi, e] at hp'
  cases hp'
  have v := valV_at nd ek
  rw [e1, e2] at v
  exact ⟨t, v, ht⟩
theorem sc_Player_told_separators : FnScope ["self", "name"] ["self"] (defScope sTSeps) := ⟨rfl, rfl, rfl, by decide +kernel, rfl, by decide +kernel, by decide +kernel⟩
theorem ok_Player_told_separators {f : Addr} {fd : FuncData} (F : FunD K "told_separators" "Player.told_separators" (defArgs sTSeps) (defBody sTSeps) (defScope sTSeps) [] [] f fd) (PL : PlayerC K mg C fI) (mTuple : mg "tuple" = none) : FnOk P w K mg base CX0 1 f fd ["self"] (spTS C) := by
  refine F.ok sc_Player_told_separators (fun vs H Q E h => ?_) (fun cdv A outer s H vs Q E hr h => ?_)
  · obtain ⟨d, s, rfl, _⟩ := h
    rfl
  · obtain ⟨d, st, rfl, hP, hnd, hl, hm, q⟩ := h
    have hu : (A.deeper (envOfC "Player.told_separators" (defScope sTSeps) s.heap.objs.size f cdv)).units + 1 < cLine := Nat.lt_of_le_of_lt (by omega) (Room.units hr)
    refine ⟨_, PSs.nox (pss_cons (by exact (ps_if (pt_val (pe_fldK K rfl (pv 0) rfl)) (pss_one (by exact (ps_ret (pe_callTy call_tuple_of (by rfl) mTuple (by decide +kernel) (pa_cons (pe_lc (own := [("name", 1)]) (g := gName 1) (tt := tYes) rfl sc_Player_told_separators.nd (pi_list (pe_slice (sl_listK K rfl) (pe_fldK K rfl (pv 0) rfl) po_none (po_some (pe_un un_neg pe_int)))) (blkOk_by (N := ["self", "name"]) (sc := defScope sTSeps) (by decide +kernel)) (fun _ _ _ _ _ => pg_name (i := 1) sc_Player_told_separators.nd rfl (Or.inl rfl)) (fun _ _ _ _ _ => pts_nil) (fun _ _ _ _ _ => (pe_ix (ix_tupK K rfl) (pe_dget hu (pe_fldK K rfl (pv 0) rfl) (pv 1) (fun _ _ => rfl)) pe_int (fun _ _ => rfl)))) pa_nil))))) pss_nil)) (pss_one (by exact (ps_ret (pe_callTy call_tuple_of (by rfl) mTuple (by decide +kernel) (pa_cons (pe_lc (own := [("name", 1)]) (g := gName 1) (tt := tYes) rfl sc_Player_told_separators.nd (pi_list (pe_slice (sl_listK K rfl) (pe_fldK K rfl (pv 0) rfl) (po_some pe_int) po_none)) (blkOk_by (N := ["self", "name"]) (sc := defScope sTSeps) (by decide +kernel)) (fun _ _ _ _ _ => pg_name (i := 1) sc_Player_told_separators.nd rfl (Or.inl rfl)) (fun _ _ _ _ _ => pts_nil) (fun _ _ _ _ _ => (pe_dget hu (pe_fldK K rfl (pv 0) rfl) (pv 1) (fun _ _ => rfl)))) pa_nil)))))), ?_⟩
    have ho := hP.od
    obtain ⟨kvs, hsp, hpp⟩ := hP.sp
    have knd := span_nodup hpp hnd
    have klen := paired_len hpp
    refine ⟨_, rfl, d.pl, C, d.dx, _, .bl st.tk, rfl, hP.h, PL.cls, PL.no _ (by simp), rfl, _, rfl, ite2 (fun etk => ?_) fun etk => ?_⟩
    · refine ⟨_, rfl, d.pl, C, d.dx, _, .ref d.od, rfl, hP.h, PL.cls, PL.no _ (by simp), rfl, ?_⟩
      refine ⟨1, rfl, -1, rfl, d.od, _, rfl, SqL.of ho, fun l nl => ?_⟩
      have s1 := same_new (o := .lst (cutV (st.pages.map fun p => .str p.1) none (some (-1)))) nl
      have hl1 := at_new nl (o := .lst (cutV (st.pages.map fun p => .str p.1) none (some (-1))))
      generalize upd H l _ = H1 at s1 hl1 ⊢
      have hll : (cutV (st.pages.map fun p => V.str p.1) none (some (-1))).length ≤ 1000 := Nat.le_trans (cutV_length _ _ _) (by rw [List.length_map]; exact hl)
      have hmem : ∀ v ∈ cutV (st.pages.map fun p => V.str p.1) none (some (-1)), ∃ p ∈ st.pages, v = .str p.1 := fun v hv => by
        obtain ⟨p, hp, rfl⟩ := List.mem_map.mp (mem_cutV hv)
        exact ⟨p, hp, rfl⟩
      generalize cutV (st.pages.map fun p => V.str p.1) none (some (-1)) = L at hl1 hll hmem
      refine ⟨l, rfl, ⟨_, SqL.of hl1⟩, fun D hD => lc_list (K := K) (a := l) (xs := L) (fun i H' => ∃ is : List Int, Same H1 H' ∧ H' D = some (.lst (is.map V.int)) ∧ is.length = i) ⟨[], same_new hD, upd_same, rfl⟩ (fun i H' _ ⟨_, h, _⟩ => SqL.of (h _ _ hl1)) ?_ ?_⟩
      · intro i v H' hi ⟨is, sp, hD', hlen⟩
        refine ⟨rfl, ?_⟩
        obtain ⟨p, hp, rfl⟩ := hmem v (List.mem_of_getElem? hi)
        obtain ⟨t, hv, ht⟩ := span_val hpp knd p hp
        have keep : ∀ acc, Same H1 (upd H' D (.lst acc)) := fun acc u o e => by
          rw [upd_ne (fun z => by rw [z, hD] at e; cases e)]
          exact sp _ _ e
        have s2 := s1.trans sp
        refine ⟨_, rfl, d.pl, C, d.dx, _, .ref d.sp, rfl, s2 _ _ hP.h, PL.cls, PL.no _ (by simp), rfl, _, rfl, d.sp, .ref t, rfl, .inl ⟨kvs, .inr p.1, .inl (s2 _ _ hsp), rfl, hv.symm⟩, t, _, 1, .int p.2.2, rfl, rfl, SqT.of (s2 _ _ ht), rfl, ?_⟩
        refine ⟨_, hD', ?_, is ++ [p.2.2], keep _, ?_, by rw [List.length_append, hlen]; rfl⟩
        · rw [List.length_map, hlen]
          exact Nat.lt_of_lt_of_le (List.getElem?_eq_some_iff.mp hi).1 (Nat.le_trans hll (by decide))
        · rw [upd_same, List.map_append]
          rfl
      · intro H' ⟨is, sp, hD', hlen⟩
        refine ⟨D, _, rfl, .inl ⟨SqL.of hD', fun l2 nl2 => ?_⟩⟩
        have s2 := (s1.trans sp).trans (same_new (o := .tup (is.map V.int)) nl2)
        exact q l2 is _ s2 ((s1.trans sp).back nl2) (by rw [hlen]; exact hll) upd_same
    · refine ⟨_, rfl, d.pl, C, d.dx, _, .ref d.od, rfl, hP.h, PL.cls, PL.no _ (by simp), rfl, ?_⟩
      refine ⟨1, rfl, d.od, _, rfl, SqL.of ho, fun l nl => ?_⟩
      have s1 := same_new (o := .lst (cutV (st.pages.map fun p => .str p.1) (some 1) none)) nl
      have hl1 := at_new nl (o := .lst (cutV (st.pages.map fun p => .str p.1) (some 1) none))
      generalize upd H l _ = H1 at s1 hl1 ⊢
      have hll : (cutV (st.pages.map fun p => V.str p.1) (some 1) none).length ≤ 1000 := Nat.le_trans (cutV_length _ _ _) (by rw [List.length_map]; exact hl)
      have hmem : ∀ v ∈ cutV (st.pages.map fun p => V.str p.1) (some 1) none, ∃ p ∈ st.pages.drop 1, v = .str p.1 := fun v hv => by
        have hv := mem_cut1 hv
        rw [← List.map_drop] at hv
        obtain ⟨p, hp, rfl⟩ := List.mem_map.mp hv
        exact ⟨p, hp, rfl⟩
      generalize cutV (st.pages.map fun p => V.str p.1) (some 1) none = L at hl1 hll hmem
      refine ⟨l, rfl, ⟨_, SqL.of hl1⟩, fun D hD => lc_list (K := K) (a := l) (xs := L) (fun i H' => ∃ is : List Int, Same H1 H' ∧ H' D = some (.lst (is.map V.int)) ∧ is.length = i) ⟨[], same_new hD, upd_same, rfl⟩ (fun i H' _ ⟨_, h, _⟩ => SqL.of (h _ _ hl1)) ?_ ?_⟩
      · intro i v H' hi ⟨is, sp, hD', hlen⟩
        refine ⟨rfl, ?_⟩
        obtain ⟨p, hp, rfl⟩ := hmem v (List.mem_of_getElem? hi)
        obtain ⟨z, hv⟩ := hm p hp
        have keep : ∀ acc, Same H1 (upd H' D (.lst acc)) := fun acc u o e => by
          rw [upd_ne (fun z => by rw [z, hD] at e; cases e)]
          exact sp _ _ e
        have s2 := s1.trans sp
        refine ⟨_, rfl, d.pl, C, d.dx, _, .ref d.mks, rfl, s2 _ _ hP.h, PL.cls, PL.no _ (by simp), rfl, _, rfl, d.mks, .int z, rfl, .inl ⟨_, .inr p.1, .inl (s2 _ _ hP.ms), rfl, hv.symm⟩, ?_⟩
        refine ⟨_, hD', ?_, is ++ [z], keep _, ?_, by rw [List.length_append, hlen]; rfl⟩
        · rw [List.length_map, hlen]
          exact Nat.lt_of_lt_of_le (List.getElem?_eq_some_iff.mp hi).1 (Nat.le_trans hll (by decide))
        · rw [upd_same, List.map_append]
          rfl
      · intro H' ⟨is, sp, hD', hlen⟩
        refine ⟨D, _, rfl, .inl ⟨SqL.of hD', fun l2 nl2 => ?_⟩⟩
        have s2 := (s1.trans sp).trans (same_new (o := .tup (is.map V.int)) nl2)
        exact q l2 is _ s2 ((s1.trans sp).back nl2) (by rw [hlen]; exact hll) upd_same
end
end Pk
namespace Pk
open L2 PyProof.Rows PySem.Spec PySem
abbrev sMany : Stmt := top 13
abbrev sFits : Stmt := top 12
abbrev sBroken : Stmt := top 14
def spMany : Sp := fun vs H Q _ => ∃ (pc : Addr) (v : V) (cs : List V), vs = [.ref pc] ∧ H pc = some (.tup (v :: cs)) ∧ cs.length = 3 ∧ ∀ (n : Nat) H', Same H H' → Q (.int (n : Nat)) H'
/-- pages told: a tuple of pairs -/
def PairsAt (H : Hp) (xs : List V) : Prop := ∀ v ∈ xs, ∃ t a b, v = .ref t ∧ H t = some (.tup [.int a, .int b])
def spFits : Sp := fun vs H Q _ => ∃ (p pb : Addr) (xs : List V) (lo hi : Int), vs = [.ref p, .ref pb] ∧ H p = some (.tup xs) ∧ xs.length ≤ 1000 ∧ PairsAt H xs ∧ H pb = some (.tup [.int lo, .int hi]) ∧ ∀ (b : Bool) H', Same H H' → Q (.bl b) H'
theorem PairsAt.same {H H' : Hp} {xs : List V} (h : PairsAt H xs) (s : Same H H') : PairsAt H' xs := fun v hv => by
  obtain ⟨t, a, b, e, ht⟩ := h v hv
  exact ⟨t, a, b, e, s _ _ ht⟩
section
variable {K : PySem.W.Frag} {P : Program} {w : World} {base : Heap} {mg : Str → Option Value} {C fI : Addr}
theorem sc_many_of : FnScope ["case", "count"] ["case"] (defScope sMany) := ⟨rfl, rfl, rfl, by decide +kernel, rfl, by decide +kernel, by decide +kernel⟩
theorem ok_many_of {f : Addr} {fd : FuncData} (F : FunD K "many_of" "many_of" (defArgs sMany) (defBody sMany) (defScope sMany) [] [] f fd) (mLen : mg "len" = none) : FnOk P w K mg base CX0 1 f fd ["case"] spMany := by
  refine F.ok sc_many_of (fun vs H Q E h => ?_) (fun cdv A outer s H vs Q E hr h => ?_)
  · obtain ⟨pc, v, cs, rfl, _⟩ := h
    rfl
  · obtain ⟨pc, v, cs, rfl, hpc, hl, q⟩ := h
    refine ⟨_, PSs.nox (pss_one (by exact (ps_ret (pe_callB call_len_seq (by rfl) mLen PySem.boot_len (pa_cons (pe_lc (own := [("count", 1)]) (g := gName 1) rfl sc_many_of.nd (pi_tup (pe_slice sl_tupA (pv 0) (po_some pe_int) po_none)) (blkOk_by (N := ["case", "count"]) (sc := defScope sMany) (by decide +kernel)) (fun _ _ _ _ _ => pg_name (i := 1) sc_many_of.nd rfl (Or.inl rfl)) (fun _ _ _ _ _ => (pts_one (pt_cmp (pc_notN (pv 1))))) (fun _ _ _ _ _ => (pv 1))) pa_nil))))), ?_⟩
    obtain ⟨v1, v2, v3, rfl⟩ : ∃ a b c, cs = [a, b, c] := by
      match cs, hl with
      | [a, b, c], _ => exact ⟨a, b, c, rfl⟩
    refine ⟨_, rfl, 1, rfl, pc, _, rfl, SqT.of hpc, fun z => absurd z.1 (show ¬ HT.sIx 4 0 (some 1) = 0 by decide), fun _ pt nt => ?_⟩
    have e19 : cutV [v, v1, v2, v3] (some 1) none = [v1, v2, v3] := rfl
    rw [e19]
    have s1 := same_new (o := .tup [v1, v2, v3]) nt
    have ht1 := at_new nt (o := .tup [v1, v2, v3])
    generalize upd H pt _ = H1 at s1 ht1 ⊢
    refine ⟨pt, rfl, ⟨_, SqT.of ht1⟩, fun D hD => lc_tup (K := K) (a := pt) (xs := [v1, v2, v3]) (fun i H' => ∃ ys : List V, Same H1 H' ∧ H' D = some (.lst ys) ∧ ys.length ≤ i) ⟨[], same_new hD, upd_same, Nat.le_refl _⟩ (fun i H' _ ⟨_, h, _⟩ => SqT.of (h _ _ ht1)) ?_ ?_⟩
    · intro i x H' hi ⟨ys, sp, hD', hlen⟩
      refine ⟨rfl, ?_⟩
      have hi3 : i < 3 := (List.getElem?_eq_some_iff.mp hi).1
      refine ⟨_, rfl, _, rfl, ite2 (fun e => ?_) fun e => ⟨ys, sp, hD', Nat.le_succ_of_le hlen⟩⟩
      refine ⟨_, rfl, _, hD', Nat.lt_of_le_of_lt (show ys.length ≤ 3 by omega) (by decide), ys ++ [x], fun u o e => ?_, upd_same, by rw [List.length_append]; exact Nat.succ_le_succ hlen⟩
      rw [upd_ne (fun z => by rw [z, hD] at e; cases e)]
      exact sp _ _ e
    · intro H' ⟨ys, sp, hD', _⟩
      exact ⟨D, ys, rfl, .inl (SqL.of hD'), q _ _ (s1.trans sp)⟩
theorem sc_fits_bounds : FnScope ["pages", "bounds", "first", "behind"] ["pages", "bounds"] (defScope sFits) := ⟨rfl, rfl, rfl, by decide +kernel, rfl, by decide +kernel, by decide +kernel⟩
theorem ok_fits_bounds {f : Addr} {fd : FuncData} (F : FunD K "fits_bounds" "fits_bounds" (defArgs sFits) (defBody sFits) (defScope sFits) [] [] f fd) (mAll : mg "all" = none) : FnOk P w K mg base CX0 1 f fd ["pages", "bounds"] spFits := by
  refine F.ok sc_fits_bounds (fun vs H Q E h => ?_) (fun cdv A outer s H vs Q E hr h => ?_)
  · obtain ⟨p, pb, xs, lo, hi, rfl, _⟩ := h
    rfl
  · obtain ⟨p, pb, xs, lo, hi, rfl, hp, hl, hxs, hpb, q⟩ := h
    refine ⟨_, PSs.nox (pss_one (by exact (ps_ret (pe_callB (cr_allK K rfl rfl) (by rfl) mAll (by decide +kernel) (pa_cons (pe_lc (own := [("first", 2), ("behind", 3)]) (tt := tYes) rfl sc_fits_bounds.nd (pi_tup (pv 0)) (blkOk_by (N := ["pages", "bounds", "first", "behind"]) (sc := defScope sFits) (by decide +kernel)) (fun _ _ _ _ _ => pg_tupK (n := 2) K rfl rfl (pgs_cons (pg_name (i := 2) sc_fits_bounds.nd rfl (Or.inl rfl)) (pgs_cons (pg_name (i := 3) sc_fits_bounds.nd rfl (Or.inl rfl)) pgs_nil))) (fun _ _ _ _ _ => pts_nil) (fun _ _ _ _ _ => (pe_chain op_le op_le (pe_ix (ix_tupK K rfl) (pv 1) pe_int (fun _ _ => rfl)) (pe_op op_sub (pv 3) (pv 2)) (pe_ix (ix_tupK K rfl) (pv 1) pe_int (fun _ _ => rfl))))) pa_nil))))), ?_⟩
    refine ⟨_, rfl, p, rfl, ⟨_, SqT.of hp⟩, fun D hD => lc_tup (K := K) (a := p) (xs := xs) (fun i H' => ∃ bs : List Bool, Same H H' ∧ H' D = some (.lst (bs.map V.bl)) ∧ bs.length = i) ⟨[], same_new hD, upd_same, rfl⟩ (fun i H' _ ⟨_, h, _⟩ => SqT.of (h _ _ hp)) ?_ ?_⟩
    · intro i x H' hi' ⟨bs, sp, hD', hlen⟩
      obtain ⟨t, a, b, rfl, ht⟩ := hxs x (List.mem_of_getElem? hi')
      have keep : ∀ acc, Same H (upd H' D (.lst acc)) := fun acc u o e => by
        rw [upd_ne (fun z => by rw [z, hD] at e; cases e)]
        exact sp _ _ e
      have put : ∀ r : Bool, ∃ acc, H' D = some (.lst acc) ∧ acc.length < sizeLine ∧ ∃ bs : List Bool, Same H (upd H' D (.lst (acc ++ [V.bl r]))) ∧ upd H' D (.lst (acc ++ [V.bl r])) D = some (.lst (bs.map V.bl)) ∧ bs.length = i + 1 := fun r => by
        refine ⟨_, hD', ?_, bs ++ [r], keep _, by rw [upd_same, List.map_append]; rfl, by rw [List.length_append, hlen]; rfl⟩
        rw [List.length_map, hlen]
        exact Nat.lt_of_lt_of_le (List.getElem?_eq_some_iff.mp hi').1 (Nat.le_trans hl (by decide))
      refine ⟨t, _, rfl, SqT.of (sp _ _ ht), rfl, _, _, rfl, _, _, rfl, rfl, rfl, ?_⟩
      refine ⟨_, rfl, pb, _, 0, .int lo, rfl, rfl, SqT.of (sp _ _ hpb), rfl, _, rfl, _, rfl, _, _, rfl, rfl, _, _, rfl, rfl, _, rfl, ite2 (fun e => ?_) fun e => put false⟩
      exact ⟨_, rfl, pb, _, 1, .int hi, rfl, rfl, SqT.of (sp _ _ hpb), rfl, _, _, rfl, rfl, put _⟩
    · intro H' ⟨bs, sp, hD', _⟩
      exact ⟨D, bs, rfl, SqL.of hD', q _ _ sp⟩
end
theorem dp_intT {K : PySem.W.Frag} {H : Hp} : ∀ us : List Int, DpAll K H (us.map V.int) (us.map PyData.int)
  | [] => .nil
  | i :: r => .cons (.int i) (dp_intT r)
theorem lay_ints : ∀ us : List Int, PyData.canLayAll0 (us.map PyData.int) = true ∧ PyData.depthAll (us.map PyData.int) ≤ 1
  | [] => ⟨rfl, by simp [PyData.depthAll]⟩
  | i :: r => by
    obtain ⟨a, b⟩ := lay_ints r
    refine ⟨?_, ?_⟩
    · show ((PyData.int i).canLay0 && PyData.canLayAll0 (r.map PyData.int)) = true
      rw [a]
      rfl
    · simp [PyData.depthAll, PyData.depth] at b ⊢
      omega
theorem shaped_intT (us : List Int) : SeqAt.shaped (.tuple (us.map PyData.int)) = true := by
  obtain ⟨a, b⟩ := lay_ints us
  have l : (PyData.tuple (us.map PyData.int)).canLay0 = true := a
  have d : (PyData.tuple (us.map PyData.int)).depth ≤ 64 := by
    simp [PyData.depth]
    omega
  exact Bool.and_eq_true_iff.mpr ⟨l, decide_eq_true d⟩
def spBr (C CC RC : Addr) : Sp := fun vs H Q _ => ∃ (c pc : Addr) (d : PlA) (s : PSt) (k : Int) (cs : List V) (kind t : Str) (r : Addr) (rk : RK) (x1 x2 : Share) (dc ls ra tb : Addr), vs = [.ref c, .ref pc, .ref d.pl] ∧ H c = some (.ins CC dc (codeF kind r t ls ra tb)) ∧ RulesAt RC H r rk.sty (.str rk.cap) (.str rk.low) (.bl rk.root) x1 x2 ∧ H pc = some (.tup (.int k :: cs)) ∧ cs.length = 3 ∧ k.natAbs < 2 ^ 400 ∧
  PlAt C H d s ∧ s.ended = .str "done" ∧ (s.pages.map (·.1)).Nodup ∧ s.pages.length ≤ 1000 ∧ (∀ p ∈ s.pages.drop 1, ∃ v, valV (s.marks.map fun m => ((.inr m.1 : Key), V.int m.2)) (.inr p.1) = some (.int v)) ∧ ∀ p H', Same H H' → Q (.ref p) H'
theorem slA_any {K : PySem.W.Frag} {a : Addr} {xs : List V} {lo hi : Option Int} {H : Hp} {Q : VK} (h : H a = some (.tup xs)) (q : ∀ t ys H', Same H H' → H' t = some (.tup ys) → (∀ v ∈ ys, v ∈ xs) → ys.length ≤ xs.length → Q (.ref t) H') : rSlA K (.ref a) lo hi H Q :=
  ⟨a, xs, rfl, SqT.of h, fun _ => q a xs H (Same.refl _) h (fun _ m => m) (Nat.le_refl _), fun _ p np => q p _ _ (same_new np) upd_same (fun _ m => mem_cutV m) (cutV_length _ _ _)⟩
theorem pairs_of {H : Hp} : ∀ {kvs : List (Key × V)} {ps : List Page}, Paired (SpanAt H) kvs ps → PairsAt H (kvs.map (·.2))
  | _, _, .nil => fun v hv => nomatch hv
  | _, _, .cons h t => fun v hv => by
    rcases List.mem_cons.mp hv with e | m
    · obtain ⟨_, t', e2, ht⟩ := h
      exact ⟨t', _, _, e.trans e2, ht⟩
    · exact pairs_of t v m
section
variable {K : PySem.W.Frag} {P : Program} {w : World} {base : Heap} {mg : Str → Option Value} {C fI CCa fCI RC fRI : Addr}
theorem sc_broken_by : FnScope ["code", "case", "player", "pages", "more", "first", "behind"] ["code", "case", "player"] (defScope sBroken) := ⟨rfl, rfl, rfl, by decide +kernel, rfl, by decide +kernel, by decide +kernel⟩
theorem ok_broken_by {f fM fF fB fTP fTS : Addr} {fd fdM fdF fdB fdTP fdTS : FuncData} (F : FunD K "broken_by" "broken_by" (defArgs sBroken) (defBody sBroken) (defScope sBroken) [] [] f fd) (PL : PlayerC K mg C fI) (CC : CodeC K mg CCa fCI) (RR : RulesC K mg RC fRI)
    (FM : FunD K "many_of" "many_of" (defArgs sMany) (defBody sMany) (defScope sMany) [] [] fM fdM) (GM : FnOk P w K mg base CX0 1 fM fdM ["case"] spMany) (gM : mg "many_of" = some (.ref fM))
    (FF : FunD K "fits_bounds" "fits_bounds" (defArgs sFits) (defBody sFits) (defScope sFits) [] [] fF fdF) (GF : FnOk P w K mg base CX0 1 fF fdF ["pages", "bounds"] spFits) (gF : mg "fits_bounds" = some (.ref fF))
    (FB : FunD K "bounds" "Rules.bounds" (defArgs sBounds) (defBody sBounds) (defScope sBounds) [] [] fB fdB) (GB : FnOk P w K mg base CX0 2 fB fdB ["self", "k"] (spBounds RC)) (mB : Meth K RC "bounds" fB)
    (FTP : FunD K "told_pages" "Player.told_pages" (defArgs sTPages) (defBody sTPages) (defScope sTPages) [] [] fTP fdTP) (GTP : FnOk P w K mg base CX0 1 fTP fdTP ["self"] (spTP C)) (mTP : Meth K C "told_pages" fTP)
    (FTS : FunD K "told_separators" "Player.told_separators" (defArgs sTSeps) (defBody sTSeps) (defScope sTSeps) [] [] fTS fdTS) (GTS : FnOk P w K mg base CX0 1 fTS fdTS ["self"] (spTS C)) (mTS : Meth K C "told_separators" fTS)
    (mLen : mg "len" = none) (mTuple : mg "tuple" = none) : FnOk P w K mg base CX0 3 f fd ["code", "case", "player"] (spBr C CCa RC) := by
  have bM : Binds K fdM ["case"] [] := FM.bindsN fun _ _ _ _ _ _ us hl => match us, hl with | [_], _ => rfl
  have bF : Binds K fdF ["pages", "bounds"] [] := FF.bindsN fun _ _ _ _ _ _ us hl => match us, hl with | [_, _], _ => rfl
  have bB : Binds K fdB ["self", "k"] [] := FB.bindsN fun _ _ _ _ _ _ us hl => match us, hl with | [_, _], _ => rfl
  have bTP : Binds K fdTP ["self"] [] := FTP.bindsN fun _ _ _ _ _ _ us hl => match us, hl with | [_], _ => rfl
  have bTS : Binds K fdTS ["self"] [] := FTS.bindsN fun _ _ _ _ _ _ us hl => match us, hl with | [_], _ => rfl
  refine F.ok sc_broken_by (fun vs H Q E h => ?_) (fun cdv A outer s H vs Q E hr h => ?_)
  · obtain ⟨c, pc, d, s, k, cs, kind, t, r, rk, x1, x2, dc, ls, ra, tb, rfl, _⟩ := h
    rfl
  · obtain ⟨c, pc, d, st, k, cs, kind, t, r, rk, x1, x2, dc, ls, ra, tb, rfl, hc, R, hpc, hl, hk, hP, hen, hnd, hpl, hm, q⟩ := h
    refine ⟨_, PSs.nox (pss_cons (by exact (ps_if (pt_cmpR op_eq (pe_fld (pv 2) rfl) pe_str (nomark _)) (pss_one (by exact (ps_ret (pe_tup (pa_cons pe_str pa_nil))))) pss_nil)) (pss_cons (by exact (ps_set (i := 3) sc_broken_by.nd rfl (Or.inl rfl) (pe_meth0 (pv 2) PL.cls mTP GTP (hr.mono (by decide)) bTP .nil pass0))) (C8.pss_cut (by exact (ps_set (i := 4) sc_broken_by.nd rfl (Or.inl rfl) (pe_ifExp (pt_cmpR op_eq (pe_fld (pv 0) rfl) pe_str (nomark _)) pe_int (pe_un un_neg pe_int)))) (pss_cons (by exact (ps_if (pt_cmpR (op_notInK K rfl) (pe_op op_sub (pe_callB call_len_seq (by rfl) mLen PySem.boot_len (pa_cons (pv 3) pa_nil)) (pe_call GM (hr.mono (by decide)) rfl gM FM.kp bM .nil pass0 (pa_cons (pv 1) pa_nil))) (pe_tup (pa_cons pe_int (pa_cons (pv 4) pa_nil))) rfl) (pss_one (by exact (ps_ret (pe_tup (pa_cons pe_str pa_nil))))) pss_nil)) (pss_cons (by exact (ps_if (pt_not (pt_val (pe_call GF (hr.mono (by decide)) rfl gF FF.kp bF .nil pass0 (pa_cons (pv 3) (pa_cons (pe_meth (pe_fld (pv 0) rfl) RR.cls mB GB (hr.mono (by decide)) bB .nil pass0 (pa_cons (pe_ix (ix_tupK K rfl) (pv 1) pe_int (fun _ _ => rfl)) pa_nil)) pa_nil))))) (pss_one (by exact (ps_ret (pe_tup (pa_cons pe_str pa_nil))))) pss_nil)) (pss_cons (by exact (ps_if (PW.pt (pw_and (pt_cmpR op_eq (pe_fld (pe_fld (pv 0) rfl) rfl) pe_str (nomark _)) (pw_and1 (pt_cmpR (op_neDK K rfl (Room.units hr)) (pe_meth0 (pv 2) PL.cls mTS GTS (hr.mono (by decide)) bTS .nil pass0) (pe_callTy call_tuple_of (by rfl) mTuple (by decide +kernel) (pa_cons (pe_lc (own := [("first", 5), ("behind", 6)]) (tt := tYes) rfl sc_broken_by.nd (pi_tup (pe_slice sl_tupA (pv 3) (po_some pe_int) po_none)) (blkOk_by (N := ["code", "case", "player", "pages", "more", "first", "behind"]) (sc := defScope sBroken) (by decide +kernel)) (fun _ _ _ _ _ => pg_tupK (n := 2) K rfl rfl (pgs_cons (pg_name (i := 5) sc_broken_by.nd rfl (Or.inl rfl)) (pgs_cons (pg_name (i := 6) sc_broken_by.nd rfl (Or.inl rfl)) pgs_nil))) (fun _ _ _ _ _ => pts_nil) (fun _ _ _ _ _ => (pv 5))) pa_nil)) (nomark _))))) (pss_one (by exact (ps_ret (pe_tup (pa_cons pe_str pa_nil))))) pss_nil)) (pss_one (by exact (ps_ret (pe_tup pa_nil)))))))))), ?_⟩
    refine ⟨_, rfl, d.pl, C, d.dx, _, st.ended, rfl, hP.h, PL.cls, PL.no _ (by simp), rfl, by rw [hen]; rfl, _, rfl, ff' (by rw [hen]; decide +kernel) ?_⟩
    refine ⟨_, rfl, d.pl, d.dx, _, rfl, hP.h, rfl, d, st, rfl, hP, hnd, hpl, fun pp kvs H1 s1 npp hpp hp1 => ?_⟩
    refine ⟨fun σ H' => H' = H1 ∧ ∃ m : Int, σ = [some (.ref c), some (.ref pc), some (.ref d.pl), some (.ref pp), some (.int m), none, none], ?_, ?_⟩
    · refine ⟨_, rfl, c, CCa, dc, _, .str kind, rfl, s1 _ _ hc, CC.cls, CC.no _ (by simp), rfl, rfl, _, rfl, ite2 (fun _ => ⟨rfl, 1, rfl⟩) fun _ => ⟨_, rfl, rfl, -1, rfl⟩⟩
    rintro σ H' ⟨rfl, m, rfl⟩
    have hpp' := pairs_of hpp
    have hpl2 : (kvs.map (·.2)).length ≤ 1000 := by
      rw [List.length_map, ← paired_len hpp]
      exact hpl
    generalize kvs.map (·.2) = xs at hp1 hpp' hpl2
    refine ⟨_, rfl, pp, xs, rfl, .inr (SqT.of hp1), _, rfl, pc, _, cs, rfl, s1 _ _ hpc, hl, fun n H2 s2 => ?_⟩
    have s12 := s1.trans s2
    refine ⟨_, _, rfl, rfl, _, rfl, by show 2 ≤ sizeLine; decide, fun pn npn => ?_⟩
    have s3 := s12.trans (same_new (o := .tup [.int 0, .int m]) npn)
    have s23 := s2.trans (same_new (o := .tup [.int 0, .int m]) npn)
    refine ⟨pn, [.int 0, .int m], rfl, .inr (SqT.of upd_same), rfl, rfl, _, rfl, ite2 (fun _ => ?_) fun _ => ?_⟩
    · exact ⟨by show 1 ≤ sizeLine; decide, fun p1 n1 => q p1 _ (s3.trans (same_new n1))⟩
    generalize upd H2 pn _ = H3 at s3 s23 ⊢
    obtain ⟨dr, os, q1, q2, qs, lsr, hr3, _⟩ := id (R.same s3)
    refine ⟨_, rfl, _, rfl, c, CCa, dc, _, .ref r, rfl, s3 _ _ hc, CC.cls, CC.no _ (by simp), rfl, r, dr, _, rfl, hr3, rfl, _, rfl, pc, _, 0, .int k, rfl, rfl, SqT.of (s3 _ _ hpc), atH, r, k, rk.sty, _, _, _, x1, x2, rfl, R.same s3, hk, fun pb nb => ?_⟩
    have s4' := same_new (o := .tup [.int ((lineM x2).at_ k), .int ((lineM x1).at_ k)]) nb
    have s4 := s3.trans s4'
    have hb4 := at_new nb (o := .tup [.int ((lineM x2).at_ k), .int ((lineM x1).at_ k)])
    generalize upd H3 pb _ = H4 at s4 s4' hb4 ⊢
    have s14 := s23.trans s4'
    refine ⟨pp, pb, xs, _, _, rfl, s14 _ _ hp1, hpl2, hpp'.same s14, hb4, fun b H5 s5' => ?_⟩
    have s5 := s4.trans s5'
    have s15 := s14.trans s5'
    refine ⟨_, rfl, ite2 (fun _ => ?_) fun _ => ?_⟩
    · exact ⟨by show 1 ≤ sizeLine; decide, fun p1 n1 => q p1 _ (s5.trans (same_new n1))⟩
    obtain ⟨dr, os, q1, q2, qs, lsr, hr5, _⟩ := id (R.same s5)
    refine ⟨_, rfl, c, CCa, dc, _, .ref r, rfl, s5 _ _ hc, CC.cls, CC.no _ (by simp), rfl, r, RC, dr, _, .str rk.sty, rfl, hr5, RR.cls, RR.no _ (by simp), rfl, rfl, _, rfl, ?_⟩
    refine ite2 (fun _ => ?_) fun _ => ⟨by show 0 ≤ sizeLine; decide, fun p1 n1 => q p1 _ (s5.trans (same_new n1))⟩
    refine ⟨_, rfl, d.pl, d.dx, _, rfl, s5 _ _ hP.h, rfl, d, st, rfl, hP.same s5, hnd, hpl, hm, fun ps is H6 s6' nps hlen hps => ?_⟩
    have s6 := s5.trans s6'
    have s16 := s15.trans s6'
    refine ⟨_, rfl, 1, rfl, ?_⟩
    dsimp only [tNoPart]
    refine slA_any (s16 _ _ hp1) fun t ys H7 s7' ht hsub hyl => ?_
    have s7 := s6.trans s7'
    have hys : PairsAt H7 ys := fun v hv => hpp'.same (s16.trans s7') v (hsub v hv)
    have hy1 : ys.length ≤ 1000 := Nat.le_trans hyl hpl2
    refine ⟨t, rfl, ⟨_, SqT.of ht⟩, fun D hD => lc_tup (K := K) (a := t) (xs := ys) (fun i H' => ∃ js : List Int, Same H7 H' ∧ H' D = some (.lst (js.map V.int)) ∧ js.length = i) ⟨[], same_new hD, upd_same, rfl⟩ (fun i H' _ ⟨_, h, _⟩ => SqT.of (h _ _ ht)) ?_ ?_⟩
    · intro i x H' hi ⟨js, sp, hD', hl'⟩
      obtain ⟨u, a, b', rfl, hu⟩ := hys x (List.mem_of_getElem? hi)
      refine ⟨u, _, rfl, SqT.of (sp _ _ hu), rfl, _, _, rfl, _, _, rfl, rfl, rfl, ?_⟩
      refine ⟨_, rfl, _, hD', ?_, js ++ [a], fun u' o e => ?_, by rw [upd_same, List.map_append]; rfl, by rw [List.length_append, hl']; rfl⟩
      · rw [List.length_map, hl']
        exact Nat.lt_of_lt_of_le (List.getElem?_eq_some_iff.mp hi).1 (Nat.le_trans hy1 (by decide))
      · rw [upd_ne (fun z => by rw [z, hD] at e; cases e)]
        exact sp _ _ e
    · intro H8 ⟨js, s8', hD8, hl8⟩
      refine ⟨D, _, rfl, .inl ⟨SqL.of hD8, fun l nl => ?_⟩⟩
      have s9' := same_new (o := .tup (js.map V.int)) nl
      have s9 := (s7.trans s8').trans s9'
      refine ⟨.tuple (is.map PyData.int), .tuple (js.map PyData.int), .tup (SqT.of (((s7'.trans s8').trans s9') _ _ hps)) (dp_intT _), .tup (SqT.of upd_same) (dp_intT _), shaped_intT _, shaped_intT _, _, rfl, ite2 (fun _ => ?_) fun _ => ?_⟩
      · exact ⟨by show 1 ≤ sizeLine; decide, fun p1 n1 => q p1 _ (s9.trans (same_new n1))⟩
      · exact ⟨by show 0 ≤ sizeLine; decide, fun p1 n1 => q p1 _ (s9.trans (same_new n1))⟩
end
end Pk
namespace Pk
open L2 PyProof.Rows PySem.Spec PySem
abbrev sPyI : Stmt := inClass (top 19) 0
structure PlayC (K : PySem.W.Frag) (mg : Str → Option Value) (C fI : Addr) : Prop where
  cls : Cls K C
  made : Mk K C fI
  g : mg "Play" = some (.ref C)
  no : ∀ f ∈ (["ended", "pages", "separators", "work", "broken", "own_names", "own_lines", "own_sides"] : List Str), NoAttr K C f
def okS (s : PSt) : Prop := (s.pages.map (·.1)).Nodup ∧ s.pages.length ≤ 1000 ∧ ∀ p ∈ s.pages.drop 1, ∃ v, valV (s.marks.map fun m => ((.inr m.1 : Key), V.int m.2)) (.inr p.1) = some (.int v)
def spPyI (CY C : Addr) : Sp := fun vs H Q _ => ∃ (py dx bk : Addr) (d : PlA) (s : PSt), vs = [.ref py, .ref d.pl, .ref bk] ∧ H py = some (.ins CY dx []) ∧ PlAt C H d s ∧ okS s ∧ s.ended = .str "done" ∧ (s.used = [] ∨ s.used = [(.inl 1, .bl true)]) ∧
  ∀ H' fs, KeepB py H H' → H' py = some (.ins CY dx fs) → fs.lookup ("ended" : Str) = some (.str "done") → Q .non H'
theorem PlAt.keepB {C : Addr} {H H' : Hp} {d : PlA} {s : PSt} (h : PlAt C H d s) {b : Addr} (k : KeepB b H H') {CY dx : Addr} {fs : List (Str × V)} (hb : H b = some (.ins CY dx fs)) (ne : b ≠ d.pl) : PlAt C H' d s := by
  obtain ⟨kvs, hs, hp⟩ := h.sp
  have nb : ∀ {a : Addr} {o : HO}, H a = some o → (∀ C' dx' fs', o ≠ .ins C' dx' fs') → a ≠ b := fun e n z => by
    rw [z, hb] at e
    exact n _ _ _ (Option.some.inj e).symm
  have t : ∀ {a : Addr} {o : HO}, H a = some o → (∀ C' dx' fs', o ≠ .ins C' dx' fs') → H' a = some o := fun e n => k _ _ (nb e n) e
  exact ⟨k _ _ (Ne.symm ne) h.h, t h.kn (by simp), t h.od (by simp), ⟨kvs, t hs (by simp), span_keep hp fun _ _ e => t e (by simp)⟩, t h.ms (by simp), t h.us (by simp), t h.tu (by simp), h.nd⟩
section
variable {K : PySem.W.Frag} {P : Program} {w : World} {base : Heap} {mg : Str → Option Value} {C fI CY fY : Addr}
theorem sc_Play___init__ : FnScope ["self", "player", "broken"] ["self", "player", "broken"] (defScope sPyI) := ⟨rfl, rfl, rfl, by decide +kernel, rfl, by decide +kernel, by decide +kernel⟩
theorem ok_Play_init {f fTP fTS : Addr} {fd fdTP fdTS : FuncData} (F : FunD K "__init__" "Play.__init__" (defArgs sPyI) (defBody sPyI) (defScope sPyI) [] [] f fd) (PY : PlayC K mg CY fY) (PL : PlayerC K mg C fI)
    (FTP : FunD K "told_pages" "Player.told_pages" (defArgs sTPages) (defBody sTPages) (defScope sTPages) [] [] fTP fdTP) (GTP : FnOk P w K mg base CX0 1 fTP fdTP ["self"] (spTP C)) (mTP : Meth K C "told_pages" fTP)
    (FTS : FunD K "told_separators" "Player.told_separators" (defArgs sTSeps) (defBody sTSeps) (defScope sTSeps) [] [] fTS fdTS) (GTS : FnOk P w K mg base CX0 1 fTS fdTS ["self"] (spTS C)) (mTS : Meth K C "told_separators" fTS)
    (mTuple : mg "tuple" = none) (mList : mg "list" = none) (mSorted : mg "sorted" = none) : FnOk P w K mg base CX0 3 f fd ["self", "player", "broken"] (spPyI CY C) := by
  have bTP : Binds K fdTP ["self"] [] := FTP.bindsN fun _ _ _ _ _ _ us hl => match us, hl with | [_], _ => rfl
  have bTS : Binds K fdTS ["self"] [] := FTS.bindsN fun _ _ _ _ _ _ us hl => match us, hl with | [_], _ => rfl
  refine F.ok sc_Play___init__ (fun vs H Q E h => ?_) (fun cdv A outer s H vs Q E hr h => ?_)
  · obtain ⟨py, dx, bk, d, s, rfl, _⟩ := h
    rfl
  · obtain ⟨py, dx, bk, d, st, rfl, hpy, hP, ⟨hnd, hpl, hm⟩, hen, hus, q⟩ := h
    refine ⟨_, PSs.nox (pss_cons (by exact (ps_fld (pv 0) (pe_fld (pv 1) rfl) rfl)) (pss_cons (by exact (ps_fld (pv 0) (pe_meth0 (pv 1) PL.cls mTP GTP (hr.mono (by decide)) bTP .nil pass0) rfl)) (pss_cons (by exact (ps_fld (pv 0) (pe_meth0 (pv 1) PL.cls mTS GTS (hr.mono (by decide)) bTS .nil pass0) rfl)) (pss_cons (by exact (ps_fld (pv 0) (pe_fld (pv 1) rfl) rfl)) (pss_cons (by exact (ps_fld (pv 0) (pv 2) rfl)) (pss_cons (by exact (ps_fld (pv 0) (pe_callTy call_tuple_of (by rfl) mTuple (by decide +kernel) (pa_cons (pe_fld (pv 1) rfl) pa_nil)) rfl)) (pss_cons (by exact (ps_fld (pv 0) (pe_callTy call_tuple_of (by rfl) mTuple (by decide +kernel) (pa_cons (pe_callB cr_sorted (by rfl) mSorted (by decide +kernel) (pa_cons (pe_callTy (call_listD rfl) (by rfl) mList (by decide +kernel) (pa_cons (pe_fld (pv 1) rfl) pa_nil)) pa_nil)) pa_nil)) rfl)) (pss_one (by exact (ps_fld (pv 0) (pe_callTy call_tuple_of (by rfl) mTuple (by decide +kernel) (pa_cons (pe_callB cr_sorted (by rfl) mSorted (by decide +kernel) (pa_cons (pe_callTy (call_listD rfl) (by rfl) mList (by decide +kernel) (pa_cons (pe_fld (pv 1) rfl) pa_nil)) pa_nil)) pa_nil)) rfl)))))))))), ?_⟩
    have no := PY.no
    have ne : py ≠ d.pl := fun z => by
      rw [z, hP.h] at hpy
      cases hpy
    have Pk' : ∀ {H'}, KeepB py H H' → PlAt C H' d st := fun k => hP.keepB k hpy ne
    have up : ∀ {Hn : Hp} {o : HO}, KeepB py H Hn → KeepB py H (upd Hn py o) := fun k => k.trans KeepB.upd
    have nw : ∀ {Hn : Hp} {a : Addr} {o : HO}, KeepB py H Hn → Hn a = none → KeepB py H (upd Hn a o) := fun k n => k.trans (same_new n).keepB
    refine ⟨_, rfl, d.pl, C, d.dx, _, st.ended, rfl, hP.h, PL.cls, PL.no _ (by simp), rfl, _, rfl, py, CY, dx, _, rfl, hpy, PY.cls, no _ (by simp), by show 0 < 1000; decide, ?_⟩
    have k1 : KeepB py H (upd H py (.ins CY dx (putF "ended" st.ended []))) := KeepB.upd
    have p1 := at_upd (H := H) (a := py) (o := .ins CY dx (putF "ended" st.ended []))
    generalize upd H py _ = H1 at k1 p1 ⊢
    rw [hen] at p1
    have p1 : H1 py = some (.ins CY dx [("ended", .str "done")]) := p1
    have P1 := Pk' k1
    refine ⟨_, rfl, d.pl, d.dx, _, rfl, P1.h, rfl, d, st, rfl, P1, hnd, hpl, fun pp kvs H2 s2 npp hpp hp2 => ?_⟩
    have k2 := k1.trans s2.keepB
    have p2 := s2 _ _ p1
    refine ⟨_, rfl, py, CY, dx, _, rfl, p2, PY.cls, no _ (by simp), by show 1 < 1000; decide, ?_⟩
    have k3 := up (o := .ins CY dx (putF "pages" (.ref pp) [("ended", .str "done")])) k2
    have p3 := at_upd (H := H2) (a := py) (o := .ins CY dx (putF "pages" (.ref pp) [("ended", .str "done")]))
    generalize upd H2 py _ = H3 at k3 p3 ⊢
    have p3 : H3 py = some (.ins CY dx [("ended", .str "done"), ("pages", .ref pp)]) := p3
    have P3 := Pk' k3
    refine ⟨_, rfl, d.pl, d.dx, _, rfl, P3.h, rfl, d, st, rfl, P3, hnd, hpl, hm, fun ps is H4 s4 nps hil hp4 => ?_⟩
    have k4 := k3.trans s4.keepB
    have p4 := s4 _ _ p3
    refine ⟨_, rfl, py, CY, dx, _, rfl, p4, PY.cls, no _ (by simp), by show 2 < 1000; decide, ?_⟩
    have k5 := up (o := .ins CY dx (putF "separators" (.ref ps) [("ended", .str "done"), ("pages", .ref pp)])) k4
    have p5 := at_upd (H := H4) (a := py) (o := .ins CY dx (putF "separators" (.ref ps) [("ended", .str "done"), ("pages", .ref pp)]))
    generalize upd H4 py _ = H5 at k5 p5 ⊢
    have p5 : H5 py = some (.ins CY dx [("ended", .str "done"), ("pages", .ref pp), ("separators", .ref ps)]) := p5
    have P5 := Pk' k5
    refine ⟨_, rfl, d.pl, C, d.dx, _, .int st.moved, rfl, P5.h, PL.cls, PL.no _ (by simp), rfl, _, rfl, py, CY, dx, _, rfl, p5, PY.cls, no _ (by simp), by show 3 < 1000; decide, ?_⟩
    have k6 := up (o := .ins CY dx (putF "work" (.int st.moved) [("ended", .str "done"), ("pages", .ref pp), ("separators", .ref ps)])) k5
    have p6 := at_upd (H := H5) (a := py) (o := .ins CY dx (putF "work" (.int st.moved) [("ended", .str "done"), ("pages", .ref pp), ("separators", .ref ps)]))
    generalize upd H5 py _ = H6 at k6 p6 ⊢
    have p6 : H6 py = some (.ins CY dx [("ended", .str "done"), ("pages", .ref pp), ("separators", .ref ps), ("work", .int st.moved)]) := p6
    refine ⟨_, rfl, _, rfl, py, CY, dx, _, rfl, p6, PY.cls, no _ (by simp), by show 4 < 1000; decide, ?_⟩
    have k7 := up (o := .ins CY dx (putF "broken" (.ref bk) [("ended", .str "done"), ("pages", .ref pp), ("separators", .ref ps), ("work", .int st.moved)])) k6
    have p7 := at_upd (H := H6) (a := py) (o := .ins CY dx (putF "broken" (.ref bk) [("ended", .str "done"), ("pages", .ref pp), ("separators", .ref ps), ("work", .int st.moved)]))
    generalize upd H6 py _ = H7 at k7 p7 ⊢
    have p7 : H7 py = some (.ins CY dx [("ended", .str "done"), ("pages", .ref pp), ("separators", .ref ps), ("work", .int st.moved), ("broken", .ref bk)]) := p7
    have P7 := Pk' k7
    refine ⟨_, rfl, d.pl, C, d.dx, _, .ref d.od, rfl, P7.h, PL.cls, PL.no _ (by simp), rfl, d.od, _, rfl, .inl ⟨SqL.of P7.od, fun tn ntn => ?_⟩⟩
    have k8 := nw (o := .tup (st.pages.map fun p => .str p.1)) k7 ntn
    have p8 := same_new (o := .tup (st.pages.map fun p => .str p.1)) ntn _ _ p7
    generalize upd H7 tn _ = H8 at k8 p8 ⊢
    refine ⟨_, rfl, py, CY, dx, _, rfl, p8, PY.cls, no _ (by simp), by show 5 < 1000; decide, ?_⟩
    have k9 := up (o := .ins CY dx (putF "own_names" (.ref tn) [("ended", .str "done"), ("pages", .ref pp), ("separators", .ref ps), ("work", .int st.moved), ("broken", .ref bk)])) k8
    have p9 := at_upd (H := H8) (a := py) (o := .ins CY dx (putF "own_names" (.ref tn) [("ended", .str "done"), ("pages", .ref pp), ("separators", .ref ps), ("work", .int st.moved), ("broken", .ref bk)]))
    generalize upd H8 py _ = H9 at k9 p9 ⊢
    have p9 : H9 py = some (.ins CY dx [("ended", .str "done"), ("pages", .ref pp), ("separators", .ref ps), ("work", .int st.moved), ("broken", .ref bk), ("own_names", .ref tn)]) := p9
    have P9 := Pk' k9
    obtain ⟨us, hus', hul⟩ : ∃ us : List Int, st.used.map (fun kv => kV kv.1) = us.map V.int ∧ us.length < 64 := by
      rcases hus with e | e
      · exact ⟨[], by rw [e]; rfl, by decide⟩
      · exact ⟨[1], by rw [e]; rfl, by decide⟩
    refine ⟨_, rfl, d.pl, C, d.dx, _, .ref d.us, rfl, P9.h, PL.cls, PL.no _ (by simp), rfl, d.us, _, rfl, .inl P9.us, fun lu nlu => ?_⟩
    have kA := nw (o := .lst (st.used.map fun kv => kV kv.1)) k9 nlu
    have pA := same_new (o := .lst (st.used.map fun kv => kV kv.1)) nlu _ _ p9
    have uA := at_new nlu (o := .lst (st.used.map fun kv => kV kv.1))
    generalize upd H9 lu _ = HA at kA pA uA ⊢
    rw [hus'] at uA
    refine ⟨lu, us, rfl, SqL.of uA, hul, fun ns lv _ _ nlv => ?_⟩
    have kB := nw (o := .lst (ns.map V.int)) kA nlv
    have pB := same_new (o := .lst (ns.map V.int)) nlv _ _ pA
    have uB := at_new nlv (o := .lst (ns.map V.int))
    generalize upd HA lv _ = HB at kB pB uB ⊢
    refine ⟨lv, _, rfl, .inl ⟨SqL.of uB, fun tu ntu => ?_⟩⟩
    have kC := nw (o := .tup (ns.map V.int)) kB ntu
    have pC := same_new (o := .tup (ns.map V.int)) ntu _ _ pB
    generalize upd HB tu _ = HC at kC pC ⊢
    refine ⟨_, rfl, py, CY, dx, _, rfl, pC, PY.cls, no _ (by simp), by show 6 < 1000; decide, ?_⟩
    have kD := up (o := .ins CY dx (putF "own_lines" (.ref tu) [("ended", .str "done"), ("pages", .ref pp), ("separators", .ref ps), ("work", .int st.moved), ("broken", .ref bk), ("own_names", .ref tn)])) kC
    have pD := at_upd (H := HC) (a := py) (o := .ins CY dx (putF "own_lines" (.ref tu) [("ended", .str "done"), ("pages", .ref pp), ("separators", .ref ps), ("work", .int st.moved), ("broken", .ref bk), ("own_names", .ref tn)]))
    generalize upd HC py _ = HD at kD pD ⊢
    have pD : HD py = some (.ins CY dx [("ended", .str "done"), ("pages", .ref pp), ("separators", .ref ps), ("work", .int st.moved), ("broken", .ref bk), ("own_names", .ref tn), ("own_lines", .ref tu)]) := pD
    have PD := Pk' kD
    refine ⟨_, rfl, d.pl, C, d.dx, _, .ref d.tu, rfl, PD.h, PL.cls, PL.no _ (by simp), rfl, d.tu, _, rfl, .inl PD.tu, fun lw nlw => ?_⟩
    have kE := nw (o := .lst []) kD nlw
    have pE := same_new (o := .lst []) nlw _ _ pD
    have uE := at_new nlw (o := .lst [])
    refine ⟨lw, [], rfl, SqL.of uE, by decide, fun ns lx _ _ nlx => ?_⟩
    have kF := nw (o := .lst (ns.map V.int)) kE nlx
    have pF := same_new (o := .lst (ns.map V.int)) nlx _ _ pE
    have uF := at_new nlx (o := .lst (ns.map V.int))
    refine ⟨lx, _, rfl, .inl ⟨SqL.of uF, fun tv ntv => ?_⟩⟩
    have kG := nw (o := .tup (ns.map V.int)) kF ntv
    have pG := same_new (o := .tup (ns.map V.int)) ntv _ _ pF
    refine ⟨_, rfl, py, CY, dx, _, rfl, pG, PY.cls, no _ (by simp), by show 7 < 1000; decide, ?_⟩
    have kH := up (o := .ins CY dx (putF "own_sides" (.ref tv) [("ended", .str "done"), ("pages", .ref pp), ("separators", .ref ps), ("work", .int st.moved), ("broken", .ref bk), ("own_names", .ref tn), ("own_lines", .ref tu)])) kG
    refine q _ _ kH upd_same ?_
    rfl
end
end Pk
namespace Pk
open L2 PyProof.Rows PySem.Spec PySem
abbrev sPlay : Stmt := top 23
theorem case_num {x1 x2 : Share} {under root : Bool} {o : Option (List V)} (h : caseM x1 x2 under root o = true) : ∃ k v1 v2 v3, o = some [.int k, v1, v2, v3] ∧ 1 ≤ k ∧ numV v1 ∧ numV v2 ∧ numV v3 := by
  cases o with
  | none => cases h
  | some xs =>
    have h : caseL x1 x2 under root xs = true := h
    match xs, h with
    | [], h => cases h
    | [_], h => cases h
    | [_, _], h => cases h
    | [_, _, _], h => cases h
    | _ :: _ :: _ :: _ :: _ :: _, h => cases h
    | [v0, v1, v2, v3], h =>
      cases v0 with
      | int k =>
        have h : (decide (1 ≤ k) && (usedL x1 x2 k && (!((besideL v1 v3).isEmpty && (under || !root)) && (decide (v2 = .int (if under then (lineM x2).at_ k - 1 else (lineM x1).at_ k + 1)) && (besideL v1 v3).all (fitV ((lineM x2).at_ k) ((lineM x1).at_ k)))))) = true := h
        simp only [Bool.and_eq_true, decide_eq_true_eq] at h; obtain ⟨h1, _, _, h2, h3⟩ := h
        have num : ∀ v ∈ [v1, v3], numV v := fun v hv => by
          cases e : notNon v with
          | false =>
            cases v with
            | non => exact .inl rfl
            | _ => cases e
          | true =>
            have f := List.all_eq_true.mp h3 v (List.mem_filter.mpr ⟨hv, e⟩)
            cases v with
            | int c => exact .inr ⟨c, rfl⟩
            | _ => cases f
        exact ⟨k, v1, v2, v3, rfl, h1, num _ (by simp), .inr ⟨_, h2⟩, num _ (by simp)⟩
      | _ => cases h
theorem lay_nodup (tk : Bool) {vs : List V} (hv : vs.length = 3) : ∀ i, i ≤ 3 → ((layTo tk vs i).1.map (·.1)).Nodup
  | 0, _ => List.nodup_nil
  | i + 1, hi => by
    have ih := lay_nodup tk hv i (by omega)
    have h1 : i < PLN.length := by
      have e : PLN.length = 3 := rfl
      omega
    have en : PLN[i]? = some PLN[i] := List.getElem?_eq_getElem h1
    have ev : vs[i]? = some (vs[i]'(by omega)) := List.getElem?_eq_getElem (by omega)
    have fr := fresh_name (tk := tk) (vs := vs) en
    rw [lay_next en ev]
    generalize layTo tk vs i = st at ih fr ⊢
    unfold layStep
    split
    · rw [List.map_append, List.nodup_append]; refine ⟨ih, by simp, fun a ha b hb e => ?_⟩
      obtain ⟨p, hp, rfl⟩ := List.mem_map.mp ha
      rw [List.map_cons, List.map_nil, List.mem_singleton] at hb
      exact fr p hp (e.trans hb)
    · exact ih
theorem okS_lay {s : PSt} {tk : Bool} {cs : List V} (hc : cs.length = 3) (hp : s.pages = layAll tk cs) (hm : s.marks = marksP (layAll tk cs)) : okS s := by
  have nd : (s.pages.map (·.1)).Nodup := by
    rw [hp]
    exact lay_nodup tk hc 3 (Nat.le_refl _)
  have len : s.pages.length ≤ 3 := by
    rw [hp]
    exact lay_len tk cs 3
  refine ⟨nd, Nat.le_trans len (by decide), fun p m => ?_⟩
  rw [hm, ← hp]
  obtain ⟨i, hi, e⟩ := List.mem_iff_getElem.mp m
  have e2 : s.pages.tail = s.pages.drop 1 := by cases s.pages <;> rfl
  have ek : ((marksP s.pages).map fun m => ((.inr m.1 : Key), V.int m.2))[i]? = some (.inr p.1, .int p.2.1) := by
    unfold marksP
    rw [e2, List.map_map, List.getElem?_map, List.getElem?_eq_getElem hi, e]
    rfl
  refine ⟨p.2.1, valV_at ?_ ek⟩
  unfold marksP
  rw [List.map_map, List.map_map, e2]
  have nd2 : ((s.pages.drop 1).map (·.1)).Nodup := by
    rw [List.map_drop]
    exact nd.sublist (List.drop_sublist _ _)
  have e3 : (List.map (((fun (x : Key × V) => x.fst) ∘ fun (m : Str × Int) => ((Sum.inr m.1 : Key), V.int m.2)) ∘ fun (p : Page) => (p.1, p.2.1)) (s.pages.drop 1)) = ((s.pages.drop 1).map (·.1)).map (Sum.inr : Str → Key) := by
    rw [List.map_map]
    rfl
  rw [e3]
  exact nd2.map _ fun a b h => fun z => h (Sum.inr.inj z)
def spPlay (K : PySem.W.Frag) (CY CC RC : Addr) : Sp := fun vs H Q E => ∃ (c : Addr) (x : V) (o : Option (List V)) (kind t : Str) (r : Addr) (rk : RK) (x1 x2 : Share) (rows : List Row) (dc ls ra tb : Addr) (rr : List Addr) (fr : Addr → Prop), vs = [.ref c, x] ∧ CodeAt CC H c kind r t rows dc ls ra tb rr fr ∧ small3 rows ∧ kind ∈ KINDL ∧ RulesAt RC H r rk.sty (.str rk.cap) (.str rk.low) (.bl rk.root) x1 x2 ∧ CaseV K H x o ∧ (∀ xs, o = some xs → ∀ v ∈ xs, smallV v) ∧
  (caseM x1 x2 (decide (kind = "under")) rk.root o = false → Err1 K "BadCase" "case" x H E) ∧
  (caseM x1 x2 (decide (kind = "under")) rk.root o = true → ∀ p dxp fs H', Same H H' → H' p = some (.ins CY dxp fs) → fs.lookup ("ended" : Str) = some (.str "done") → Q (.ref p) H')
section
variable {K : PySem.W.Frag} {P : Program} {w : World} {base : Heap} {mg : Str → Option Value} {C fI CY fY CCa fCI RC fRI : Addr}
theorem sc_play : FnScope ["code", "case", "player"] ["code", "case"] (defScope sPlay) := ⟨rfl, rfl, rfl, by decide +kernel, rfl, by decide +kernel, by decide +kernel⟩
theorem ok_play {f fC fBr fPW : Addr} {fd fdC fdBr fdPW fdI fdY : FuncData} (F : FunD K "play" "play" (defArgs sPlay) (defBody sPlay) (defScope sPlay) [] [] f fd) (PL : PlayerC K mg C fI) (PY : PlayC K mg CY fY) (ER : Errs P K mg)
    (FC : FunD K "is_case" "is_case" (defArgs sIsCase) (defBody sIsCase) (defScope sIsCase) [] [] fC fdC) (GC : FnOk P w K mg base CX0 6 fC fdC ["code", "value"] (spIsCase K CCa RC)) (gC : mg "is_case" = some (.ref fC))
    (FBr : FunD K "broken_by" "broken_by" (defArgs sBroken) (defBody sBroken) (defScope sBroken) [] [] fBr fdBr) (GBr : FnOk P w K mg base CX0 3 fBr fdBr ["code", "case", "player"] (spBr C CCa RC)) (gBr : mg "broken_by" = some (.ref fBr))
    (FPW : FunD K "play_whole" "Player.play_whole" (defArgs sPWh) (defBody sPWh) (defScope sPWh) [] [] fPW fdPW) (GPW : FnOk P w K mg base CX0 4 fPW fdPW ["self"] (spWh C)) (mPW : Meth K C "play_whole" fPW)
    (GI : FnOk P w K mg base CX0 3 fI fdI ["self", "code", "case"] (spPLI C CCa RC)) (bI : Binds K fdI ["self", "code", "case"] []) (GY : FnOk P w K mg base CX0 3 fY fdY ["self", "player", "broken"] (spPyI CY C)) (bY : Binds K fdY ["self", "player", "broken"] []) : FnOk P w K mg base (L2.CX P w) 7 f fd ["code", "case"] (spPlay K CY CCa RC) := by
  have bC : Binds K fdC ["code", "value"] [] := FC.bindsN fun _ _ _ _ _ _ us hl => match us, hl with | [_, _], _ => rfl
  have bBr : Binds K fdBr ["code", "case", "player"] [] := FBr.bindsN fun _ _ _ _ _ _ us hl => match us, hl with | [_, _, _], _ => rfl
  have bPW : Binds K fdPW ["self"] [] := FPW.bindsN fun _ _ _ _ _ _ us hl => match us, hl with | [_], _ => rfl
  refine F.ok sc_play (fun vs H Q E h => ?_) (fun cdv A outer s H vs Q E hr h => ?_)
  · obtain ⟨c, x, o, kind, t, r, rk, x1, x2, rows, dc, ls, ra, tb, rr, fr, rfl, _⟩ := h
    rfl
  · obtain ⟨c, x, o, kind, t, r, rk, x1, x2, rows, dc, ls, ra, tb, rr, fr, rfl, CA, h3, hkind, R, cv, hsm, q0, q1⟩ := h
    obtain ⟨fdE, IBadCase⟩ := ER.iBadCase
    refine ⟨_, (pss_cons (by exact (ps_if (pt_not (pt_val (pe_call GC (hr.mono (by decide)) rfl gC FC.kp bC .nil pass0 (pa_cons (pv 0) (pa_cons (pv 1) pa_nil))))) (pss_one (by exact (ps_raise rfl (takes_of rfl rfl rfl rfl) (pmk_sup1 IBadCase.sup (okIBadCase IBadCase ER.mS ER.hP) (hr.mono (by decide)) (bIBadCase IBadCase) pass0 rfl (pv 1))))) pss_nil)) (pss_cons (by exact (ps_set (i := 2) sc_play.nd rfl (Or.inl rfl) (pe_make PL.made GI (hr.mono (by decide)) rfl PL.g bI .nil pass0 (pa_cons (pv 0) (pa_cons (pv 1) pa_nil))))) (pss_cons (by exact (ps_expr (pe_meth0 (pv 2) PL.cls mPW GPW (hr.mono (by decide)) bPW .nil pass0))) (pss_one (by exact (ps_ret (pe_make PY.made GY (hr.mono (by decide)) rfl PY.g bY .nil pass0 (pa_cons (pv 2) (pa_cons (pe_call GBr (hr.mono (by decide)) rfl gBr FBr.kp bBr .nil pass0 (pa_cons (pv 0) (pa_cons (pv 1) (pa_cons (pv 2) pa_nil)))) pa_nil))))))))), ?_⟩
    refine ⟨_, rfl, _, rfl, c, x, o, kind, t, r, rk, x1, x2, dc, ls, ra, tb, rfl, CA.h, hkind, R, cv, hsm, fun H1 s1 => ⟨_, rfl, ?_⟩⟩
    cases hcase : caseM x1 x2 (decide (kind = "under")) rk.root o with
    | false => exact ⟨_, rfl, fun d hd => q0 hcase d H1 s1 hd⟩
    | true =>
      refine ff ?_
      obtain ⟨k, v1, v2, v3, rfl, hk1, n1, n2, n3⟩ := case_num hcase
      cases cv with
      | tup hp ki kd =>
        rename_i pc
        have hk : k.natAbs < 2 ^ 400 := hsm _ rfl (.int k) (by simp)
        have hns : ∀ v ∈ [v1, v2, v3], numV v := fun v hv => by
          simp only [List.mem_cons, List.not_mem_nil, or_false] at hv
          rcases hv with rfl | rfl | rfl
          · exact n1
          · exact n2
          · exact n3
        refine ⟨_, rfl, _, rfl, fun pl dx nx nd ndx => ?_⟩
        have nx' : upd H1 dx (.own pl) pl = none := by
          rw [upd_ne (Ne.symm ndx)]
          exact nx
        have sA : Same H1 (upd (upd H1 dx (.own pl)) pl (.ins C dx [])) := (same_new nd).step nx'
        have s2 := s1.trans sA
        refine ⟨pl, dx, c, pc, k, [v1, v2, v3], kind, t, r, rk, x1, x2, dc, ls, ra, tb, rfl, upd_same, s2 _ _ CA.h, R.same s2, s2 _ _ hp, hk, rfl, hns, fun d H3 epl erows kb fresh P3 => ⟨rfl, ?_⟩⟩
        subst epl erows
        have sZ : Same H1 H3 := fun u o e => kb u o (fun z => by rw [z, nx] at e; cases e) (sA u o e)
        have s3 := s1.trans sZ
        have notOwn : ∀ {u : Addr} {o : HO}, H u = some o → u ∉ d.own := fun {u} {o} e m => by
          by_cases z : u = d.pl
          · have := s1 _ _ e
            rw [z, nx] at this
            cases this
          · have := s2 _ _ e
            rw [fresh _ m z] at this
            cases this
        refine ⟨_, rfl, d.pl, d.dx, _, rfl, P3.h, rfl, d, _, rr, rows, fr, k, rfl, P3, rfl, rfl, notOwn CA.ra, s3 _ _ CA.ra, CA.rr.keep (Keeps.same s3) fun _ z => z, h3, rfl, hk, by show 6 < sizeLine; decide, fun s' H4 k4 P4 D4 e4 => ?_⟩
        have s4 : Same H H4 := fun u o e => k4 u o (notOwn e) (s3 u o e)
        have ok4 : okS s' := okS_lay (tk := decide (rk.sty = "taken")) (cs := [v1, v2, v3]) rfl D4.pages D4.marks
        refine ⟨_, rfl, _, rfl, _, rfl, _, rfl, c, pc, d, s', k, [v1, v2, v3], kind, t, r, rk, x1, x2, dc, ls, d.rows, tb, rfl, s4 _ _ CA.h, R.same s4, s4 _ _ hp, rfl, hk, P4, e4, ok4.1, ok4.2.1, ok4.2.2, fun bk H5 s5 => ?_⟩
        intro py dxy nxy ndy ndxy
        have ny' : upd H5 dxy (.own py) py = none := by
          rw [upd_ne (Ne.symm ndxy)]
          exact nxy
        have sB : Same H5 (upd (upd H5 dxy (.own py)) py (.ins CY dxy [])) := (same_new ndy).step ny'
        refine ⟨py, dxy, bk, d, s', rfl, upd_same, P4.same (s5.trans sB), ok4, e4, D4.used, fun H6 fs k6 h6 l6 => ⟨rfl, ?_⟩⟩
        refine q1 hcase py dxy fs H6 (fun u o e => ?_) h6 l6
        have e5 := s5 _ _ (s4 _ _ e)
        exact k6 u o (fun z => by rw [z, nxy] at e5; cases e5) (sB _ _ e5)
end
end Pk
namespace Pk
open L2 PyProof.Rows PySem.Spec PySem
abbrev sTold : Stmt := top 71
structure CaseF (K : PySem.W.Frag) : Prop where
  pe : PySem.W.exmOne K (.ref (He.ga K "BadCase")) (.ref (He.ga K "PageError")) = some true
  kit : PySem.W.kitOne K (.ref (He.ga K "BadCase")) (.ref (He.ga K "BadCase")) = some true
  exc : ExcC K (He.ga K "BadCase")
def spTold6 (K : PySem.W.Frag) (CC RC : Addr) : Sp := fun vs H Q _ => ∃ (c : Addr) (x : V) (o : Option (List V)) (kind t : Str) (r : Addr) (rk : RK) (x1 x2 : Share) (rows : List Row) (dc ls ra tb : Addr) (rr : List Addr) (fr : Addr → Prop), vs = [.ref c, x] ∧ CodeAt CC H c kind r t rows dc ls ra tb rr fr ∧ small3 rows ∧ kind ∈ KINDL ∧ RulesAt RC H r rk.sty (.str rk.cap) (.str rk.low) (.bl rk.root) x1 x2 ∧ CaseV K H x o ∧ (∀ xs, o = some xs → ∀ v ∈ xs, smallV v) ∧
  (caseM x1 x2 (decide (kind = "under")) rk.root o = false → ∀ p H', Same H H' → H' p = some (.tup [.str "case", x]) → Q (.ref p) H') ∧
  (caseM x1 x2 (decide (kind = "under")) rk.root o = true → ∀ H', Same H H' → Q (.str "done") H')
theorem is_readC {K : PySem.W.Frag} {H : Hp} {e d : Addr} {y z : Str} {fs : List (Str × V)} {b : Bool} {Q : VK} (h : H e = some (excE e (.ref (He.ga K y)) (some d))) (hd : H d = some (.xd fs)) (ex : ExcC K (He.ga K y)) (kk : PySem.W.kitOne K (.ref (He.ga K y)) (.ref (He.ga K z)) = some b) (q : Q (.bl b) H) : rIsT K [.ref e, .ref (He.ga K z)] H Q :=
  ⟨e, _, some d, _, .ref (He.ga K z), b, rfl, h, fun dd q => ⟨fs, by cases q; exact hd⟩, ex, fun u r => r, kk, q⟩
section
variable {K : PySem.W.Frag} {P : Program} {w : World} {base : Heap} {mg : Str → Option Value} {CY fY CCa fCI RC fRI : Addr}
theorem sc_law_told : FnScope ["_law_code", "_law_thing", "e"] ["_law_code", "_law_thing"] (defScope sTold) := ⟨rfl, rfl, rfl, by decide +kernel, rfl, by decide +kernel, by decide +kernel⟩
theorem ok_law_told {f fP : Addr} {fd fdP : FuncData} (F : FunD K "_law_told" "_law_told" (defArgs sTold) (defBody sTold) (defScope sTold) [] [] f fd) (PY : PlayC K mg CY fY) (ER : Errs P K mg) (TF : CaseF K)
    (FP : FunD K "play" "play" (defArgs sPlay) (defBody sPlay) (defScope sPlay) [] [] fP fdP) (GP : FnOk P w K mg base (L2.CX P w) 7 fP fdP ["code", "case"] (spPlay K CY CCa RC)) (gP : mg "play" = some (.ref fP)) (gPE : mg "PageError" = some (.ref (He.ga K "PageError"))) (mIsi : mg "isinstance" = none) : FnOk P w K mg base CX0 8 f fd ["_law_code", "_law_thing"] (spTold6 K CCa RC) := by
  have bP : Binds K fdP ["code", "case"] [] := FP.bindsN fun _ _ _ _ _ _ us hl => match us, hl with | [_, _], _ => rfl
  refine F.ok sc_law_told (fun vs H Q E h => ?_) (fun cdv A outer s H vs Q E hr h => ?_)
  · obtain ⟨c, x, o, kind, t, r, rk, x1, x2, rows, dc, ls, ra, tb, rr, fr, rfl, _⟩ := h
    rfl
  · obtain ⟨c, x, o, kind, t, r, rk, x1, x2, rows, dc, ls, ra, tb, rr, fr, rfl, CA, h3, hkind, R, cv, hsm, q0, q1⟩ := h
    obtain ⟨_, IC⟩ := ER.iBadCase
    refine ⟨_, PSs.nox (pss_one (by exact (ps_try_all rfl rfl sc_law_told.nd rfl takes_noX (fun W pn xe tkW po => pss_one (by exact (ps_ret (pe_fldK K rfl (pe_callS GP (hr.mono (by decide)) rfl gP FP.kp bP (fun σ => passAt tkW σ) (pa_cons (pv 0) (pa_cons (pv 1) pa_nil))) rfl)))) (HdsA.as_ (i := 2) ⟨rfl, rfl, .inl gPE⟩ rfl rfl (fun a pn => (pss_one (by exact (ps_ret (pe_ifExp (pt_val (pe_callB (call_isTK K rfl) (by rfl) mIsi PyProof.Rows.boot_isinstance (pa_cons (pv 2) (pa_cons (pe_glob (v := .ref (He.ga K "BadCase")) (by rfl) (ER.gBadCase) rfl) pa_nil)))) (pe_tup (pa_cons pe_str (pa_cons (pe_xfTK K rfl (pv 2)) pa_nil))) (pe_tup (pa_cons pe_str pa_nil))))))) HdsA.nil)))), ?_⟩
    refine ⟨_, rfl, _, rfl, c, x, o, kind, t, r, rk, x1, x2, rows, dc, ls, ra, tb, rr, fr, rfl, CA, h3, hkind, R, cv, hsm, fun hc d H1 s1 hd => ?_, fun hc p dxp fs H' s' hp' hl => ?_⟩
    · refine ⟨true, TF.pe, fun _ e he => ?_, fun z => (nomatch z)⟩
      have sC := (s1.trans (same_new (o := .xd [("case", x)]) hd)).step (o := excE e (.ref (He.ga K "BadCase")) (some d)) he
      have hd' := same_new (o := excE e (.ref (He.ga K "BadCase")) (some d)) he _ _ (upd_same (H := H1) (a := d) (o := .xd [("case", x)]))
      refine ⟨_, rfl, ?_⟩
      dsimp only [tC, tCons, tNil]
      refine is_readC upd_same hd' TF.exc TF.kit ⟨_, rfl, ?_⟩
      refine ⟨_, rfl, e, _, d, _, _, rfl, upd_same, hd', IC.xf, IC.no "case" (by simp), rfl, by show 2 ≤ sizeLine; decide, fun p hp => ?_⟩
      exact q0 hc p _ (sC.step hp) upd_same
    · exact ⟨p, CY, dxp, fs, .str "done", rfl, hp', PY.cls, PY.no _ (by simp), hl, q1 hc _ s'⟩
end
end Pk
namespace Pk
open L2 PyProof.Rows PySem.Spec PySem
abbrev sTruths : Stmt := top 72
/-! cases by the lines of the rules -/
def caseQN (l1 l2 : Line) (under root : Bool) (v0 v1 v2 v3 : V) : Bool := match v0 with
  | .int k => decide (1 ≤ k) && ((decide (1 ≤ l2.at_ k) && decide (l2.at_ k ≤ l1.at_ k)) && (!((besideL v1 v3).isEmpty && (under || !root)) && (decide (v2 = .int (if under then l2.at_ k - 1 else l1.at_ k + 1)) && (besideL v1 v3).all (fitV (l2.at_ k) (l1.at_ k)))))
  | _ => false
def caseN (l1 l2 : Line) (under root : Bool) : Option (List V) → Bool
  | some [v0, v1, v2, v3] => caseQN l1 l2 under root v0 v1 v2 v3
  | _ => false
theorem case_lines {x1 x2 : Share} {l1 l2 : Line} (e1 : lineM x1 = l1) (e2 : lineM x2 = l2) (under root : Bool) (o : Option (List V)) : caseM x1 x2 under root o = caseN l1 l2 under root o := by
  subst e1 e2
  cases o with
  | none => rfl
  | some xs =>
    match xs with
    | [] => rfl
    | [_] => rfl
    | [_, _] => rfl
    | [_, _, _] => rfl
    | [_, _, _, _] => rfl
    | _ :: _ :: _ :: _ :: _ :: _ => rfl
def shL (s : Str) : Option (Int × Int × Nat) := (shareM s).map fun x => ((lineM x).s, (lineM x).c, (lineM x).d)
theorem shL_eq {s : Str} {a b : Int} {n : Nat} {x : Share} (h : shL s = some (a, b, n)) (e : shareM s = some x) : lineM x = ⟨a, b, n⟩ := by
  unfold shL at h
  rw [e] at h
  have h := Option.some.inj h
  have h1 := congrArg (fun z : Int × Int × Nat => z.1) h
  have h2 := congrArg (fun z : Int × Int × Nat => z.2.1) h
  have h3 := congrArg (fun z : Int × Int × Nat => z.2.2) h
  show (⟨(lineM x).s, (lineM x).c, (lineM x).d⟩ : Line) = _
  simp only at h1 h2 h3
  rw [h1, h2, h3]
theorem l2k : shL "2 * k" = some (2, 0, 1) := by decide +kernel
theorem l3k : shL "3 * k - 4" = some (3, -4, 1) := by decide +kernel
theorem l1k : shL "k" = some (1, 0, 1) := by decide +kernel
theorem gT34 : goodT "3 * k - 4" := ⟨by decide +kernel, by decide +kernel, by
  cases e : shareM "3 * k - 4" with
  | none =>
    have := l3k
    unfold shL at this
    rw [e] at this
    cases this
  | some x => exact ⟨x, rfl⟩⟩
/-! small texts -/
theorem rd0 : readM "" = .ok [] := by rfl
theorem rd1 : readM "quit" = .ok [.quit 1] := by kernel_rfl
theorem rd2 : readM "a = k" = .ok [.set 1 "a" [(1, some "k")] none] := by kernel_rfl
def textL : List Str := ["", "quit", "a = k"]
theorem made_small {kind : Str} (hk : kind ∈ KINDL) {t : Str} (ht : t ∈ textL) (taken : Bool) : ∃ rows, small3 rows ∧ ∀ p, codeM (.str kind) t taken p = .made kind rows := by
  have g : ∀ rows, readM t = .ok rows → (linesM t).length ≤ 40 → (∀ p, limitsM rows taken p = .fine) → ∀ p, codeM (.str kind) t taken p = .made kind rows := fun rows e1 e2 e3 p => by
    unfold codeM kindV
    dsimp only
    rw [if_pos hk]
    dsimp only
    rw [if_neg (by omega), e1]
    dsimp only
    rw [e3]
  simp only [textL, List.mem_cons, List.not_mem_nil, or_false] at ht
  rcases ht with rfl | rfl | rfl
  · exact ⟨_, .inl rfl, g _ rd0 (by decide +kernel) fun p => by cases taken <;> rfl⟩
  · exact ⟨_, .inr (.inl rfl), g _ rd1 (by decide +kernel) fun p => by cases taken <;> rfl⟩
  · exact ⟨_, .inr (.inr rfl), g _ rd2 (by decide +kernel) fun p => by cases taken <;> rfl⟩
theorem text_ok {t : Str} (ht : t ∈ textL) : okT t := by
  simp only [textL, List.mem_cons, List.not_mem_nil, or_false] at ht
  rcases ht with rfl | rfl | rfl <;> exact ⟨by decide +kernel, by decide +kernel⟩
/-- a code of a small text -/
def Code3 (C RC : Addr) (H : Hp) (c : Addr) (kind t : Str) (r : Addr) (k : RK) (b : Addr) : Prop := RulesK RC H r k ∧ ∃ rows dx ls ra tb rr fr, CodeAt C H c kind r t rows dx ls ra tb rr fr ∧ small3 rows ∧ tb ≠ b
theorem Code3.same {C RC : Addr} {H H' : Hp} {c : Addr} {kind t : Str} {r : Addr} {k : RK} {b : Addr} (h : Code3 C RC H c kind t r k b) (s : Same H H') : Code3 C RC H' c kind t r k b := by
  obtain ⟨⟨x1, x2, R⟩, rows, dx, ls, ra, tb, rr, fr, Z, h3, n⟩ := h
  exact ⟨⟨x1, x2, R.same s⟩, rows, dx, ls, ra, tb, rr, fr, Z.same s, h3, n⟩
theorem Code3.keepB {C RC : Addr} {H H' : Hp} {c : Addr} {kind t : Str} {r : Addr} {k : RK} {b : Addr} (h : Code3 C RC H c kind t r k b) {kvs : List (Key × V)} (hb : H b = some (.dK kvs)) (kp : KeepB b H H') : Code3 C RC H' c kind t r k b := by
  obtain ⟨R, rows, dx, ls, ra, tb, rr, fr, Z, h3, n⟩ := h
  have nb : ∀ {a : Addr} {o : HO}, H a = some o → (∀ kvs, o ≠ .dK kvs) → H' a = some o := fun e no => kp _ _ (fun z => by rw [z, hb] at e; exact no _ (Option.some.inj e).symm) e
  refine ⟨R.keepD hb kp, rows, dx, ls, ra, tb, rr, fr, ⟨nb Z.h (by simp), nb Z.ls (by simp), nb Z.ra (by simp), Z.rr.keep ⟨fun a xs e => nb e (by simp), fun a xs _ e => nb e (by simp)⟩ fun _ z => z, kp _ _ n Z.tb⟩, h3, n⟩
section
variable {K : PySem.W.Frag} {P : Program} {w : World} {base : Heap} {mg : Str → Option Value} {C fI RC fRI : Addr}
theorem mk_code3 {H : Hp} {Q : VK} {kind t : Str} {r b : Addr} {k : RK} (hk : kind ∈ KINDL) (ht : t ∈ textL) (R : RulesK RC H r k) {x dx : Addr} (nx : H x = none) (nd : H dx = none) (ndx : dx ≠ x) (hb : H b ≠ none) (q : ∀ H', Same H H' → Code3 C RC H' x kind t r k b → Q .non H') :
    spCodeI K C RC [.ref x, .str kind, .ref r, .str t] (upd (upd H dx (.own x)) x (.ins C dx [])) Q (fun _ _ _ => False) := by
  have nx' : upd H dx (.own x) x = none := by
    rw [upd_ne (Ne.symm ndx)]
    exact nx
  have sA : Same H (upd (upd H dx (.own x)) x (.ins C dx [])) := (same_new nd).step nx'
  obtain ⟨x1, x2, R⟩ := R
  obtain ⟨rows, h3, hm⟩ := made_small hk ht (decide (k.sty = "taken"))
  have ec := hm ((lineM x1).d * (lineM x2).d)
  refine ⟨x, dx, r, .str kind, t, _, k.sty, _, _, _, x1, x2, rfl, upd_same, Kd.str, text_ok ht, R.same sA, fun y fs ef => ?_, fun kind' rows' ec' H' ls ra tb rr fr k1 Z _ nls nra ntb => ?_⟩
  · rw [ec] at ef
    cases ef
  · rw [ec] at ec'
    cases ec'
    have sZ : Same H H' := fun u o e => k1 u o (fun z => by rw [z, nx] at e; cases e) (sA u o e)
    refine q H' sZ ⟨⟨x1, x2, R.same sZ⟩, rows, dx, ls, ra, tb, rr, fr, Z, h3, fun z => ?_⟩
    rw [z] at ntb
    cases e : H b with
    | none => exact hb e
    | some o =>
      have := sA _ _ e
      rw [ntb] at this
      cases this
end
theorem kit_tt {K : PySem.W.Frag} : PySem.W.kitOne K (.type "tuple") (.type "tuple") = some true := kit_ty (r := true) (by decide +kernel)
end Pk
namespace Pk
open L2 PyProof.Rows PySem.Spec PySem
abbrev ZR := Int × List V × V
def zs1 : List ZR := [(0, [.int 1, .int 1, .int 3, .int 2], .str "done"), (0, [.bl true, .int 1, .int 3, .int 2], .int 0), (0, [.int 1, .bl true, .int 3, .int 2], .int 0)]
def zs2 : List ZR := [(0, [.int 1, .int 1, .int 3, .bl true], .int 0), (1, [.int 1, .int 1, .int 0, .int 2], .str "done"), (1, [.int 1, .int 1, .bl false, .int 2], .int 0)]
def zs3 : List ZR := [(1, [.int 2, .int 2, .bl true, .int 3], .int 0), (1, [.int 2, .int 2, .int 1, .int 3], .str "done")]
def elemOk : V → Bool
  | .int k => decide (k.natAbs < 1000)
  | .bl _ => true
  | _ => false
def goodZ (z : ZR) : Bool := (decide (z.1 = 0) || decide (z.1 = 1)) && (z.2.1.all elemOk && ((decide (z.2.2 = .str "done") && caseN ⟨2, 0, 1⟩ ⟨1, 0, 1⟩ (decide (z.1 = 1)) true (some z.2.1)) || (decide (z.2.2 = .int 0) && !caseN ⟨2, 0, 1⟩ ⟨1, 0, 1⟩ (decide (z.1 = 1)) true (some z.2.1))))
theorem zs_good : (zs1 ++ zs2 ++ zs3).all goodZ = true := by decide +kernel
def RowT (H : Hp) (v : V) (z : ZR) : Prop := ∃ r t, v = .ref r ∧ H r = some (.tup [.int z.1, .ref t, z.2.2]) ∧ H t = some (.tup z.2.1)
theorem RowT.same {H H' : Hp} {v : V} {z : ZR} (h : RowT H v z) (s : Same H H') : RowT H' v z := by
  obtain ⟨r, t, e, h1, h2⟩ := h
  exact ⟨r, t, e, s _ _ h1, s _ _ h2⟩
theorem elem_kd {K : PySem.W.Frag} {H : Hp} {v : V} (h : elemOk v = true) : (∃ t, Kd K H v t) ∧ smallV v ∧ flatB v = true := by
  cases v with
  | int k =>
    have := of_decide_eq_true h
    exact ⟨⟨_, Kd.int⟩, Nat.lt_trans this (by decide), rfl⟩
  | bl b => exact ⟨⟨_, Kd.bl⟩, trivial, rfl⟩
  | _ => cases h
theorem done_shaped : SeqAt.shaped (.str "done") = true := by decide +kernel
theorem done_ne {K : PySem.W.Frag} {H : Hp} {Q : VK} (q : Q (.bl false) H) : rNeD K (.str "done") (.str "done") H Q := by
  refine ⟨.str "done", .str "done", .str _, .str _, done_shaped, done_shaped, ?_⟩
  have e : PyData.eqv (.str "done") (.str "done") = true := by decide +kernel
  rw [e]
  exact q
def spTruths : Sp := fun vs H Q _ => ∃ sty : Str, vs = [.str sty] ∧ sty ∈ STYL ∧ ∀ H', Same H H' → Q (.bl true) H'
section
variable {K : PySem.W.Frag} {P : Program} {w : World} {base : Heap} {mg : Str → Option Value} {C fI RC fRI : Addr}
theorem sc_law_truths_right : FnScope ["_law_style", "_law_small", "_law_rows", "_law_pick", "_law_thing", "_law_due"] ["_law_style"] (defScope sTruths) := ⟨rfl, rfl, rfl, by decide +kernel, rfl, by decide +kernel, by decide +kernel⟩
theorem ok_law_truths_right {f fT : Addr} {fd fdT fdI fdC : FuncData} {ds : List Value} (F : FunD K "_law_truths_right" "_law_truths_right" (defArgs sTruths) (defBody sTruths) (defScope sTruths) [] [] f fd)
    (FT : FunD K "_law_told" "_law_told" (defArgs sTold) (defBody sTold) (defScope sTold) [] [] fT fdT) (GT : FnOk P w K mg base CX0 8 fT fdT ["_law_code", "_law_thing"] (spTold6 K C RC)) (gT : mg "_law_told" = some (.ref fT))
    (RR : RulesC K mg RC fRI) (GI : FnOk P w K mg base (L2.CX P w) 6 fRI fdI ["self", "style", "cap", "low", "root"] (spInit K RC)) (bI3 : Binds K fdI ["self", "style", "cap", "low", "root"] ds) (dI : Vals [V.bl true] ds)
    (CC : CodeC K mg C fI) (GC : FnOk P w K mg base (L2.CX P w) 90 fI fdC ["self", "kind", "rules", "text"] (spCodeI K C RC)) (bC : Binds K fdC ["self", "kind", "rules", "text"] []) : FnOk P w K mg base CX0 93 f fd ["_law_style"] spTruths := by
  have bT : Binds K fdT ["_law_code", "_law_thing"] [] := FT.bindsN fun _ _ _ _ _ _ us hl => match us, hl with | [_, _], _ => rfl
  refine F.ok sc_law_truths_right (fun vs H Q E h => ?_) (fun cdv A outer s H vs Q E hr h => ?_)
  · obtain ⟨sty, rfl, _⟩ := h
    rfl
  · obtain ⟨sty, rfl, hsty, q⟩ := h
    refine ⟨_, PSs.nox (C8.pss_cut (by exact (ps_set (i := 1) sc_law_truths_right.nd rfl (Or.inl rfl) (pe_lst (pa_cons (pe_make CC.made GC (hr.mono (by decide)) rfl CC.g bC .nil passF (pa_cons pe_str (pa_cons (pe_make RR.made GI (hr.mono (by decide)) rfl RR.g bI3 dI passF (pa_cons (pv 0) (pa_cons pe_str (pa_cons pe_str pa_nil)))) (pa_cons pe_str pa_nil)))) (pa_cons (pe_make CC.made GC (hr.mono (by decide)) rfl CC.g bC .nil passF (pa_cons pe_str (pa_cons (pe_make RR.made GI (hr.mono (by decide)) rfl RR.g bI3 dI passF (pa_cons (pv 0) (pa_cons pe_str (pa_cons pe_str pa_nil)))) (pa_cons pe_str pa_nil)))) pa_nil))))) (C8.pss_cut (by exact (ps_set (i := 2) sc_law_truths_right.nd rfl (Or.inl rfl) (pe_lst (pa_cons (pe_tup (pa_cons pe_int (pa_cons (pe_tup (pa_cons pe_int (pa_cons pe_int (pa_cons pe_int (pa_cons pe_int pa_nil))))) (pa_cons pe_str pa_nil)))) (pa_cons (pe_tup (pa_cons pe_int (pa_cons (pe_tup (pa_cons pe_bl (pa_cons pe_int (pa_cons pe_int (pa_cons pe_int pa_nil))))) (pa_cons pe_int pa_nil)))) (pa_cons (pe_tup (pa_cons pe_int (pa_cons (pe_tup (pa_cons pe_int (pa_cons pe_bl (pa_cons pe_int (pa_cons pe_int pa_nil))))) (pa_cons pe_int pa_nil)))) pa_nil)))))) (C8.pss_cut (by exact (ps_set (i := 2) sc_law_truths_right.nd rfl (Or.inl rfl) (pe_op op_cat (pv 2) (pe_lst (pa_cons (pe_tup (pa_cons pe_int (pa_cons (pe_tup (pa_cons pe_int (pa_cons pe_int (pa_cons pe_int (pa_cons pe_bl pa_nil))))) (pa_cons pe_int pa_nil)))) (pa_cons (pe_tup (pa_cons pe_int (pa_cons (pe_tup (pa_cons pe_int (pa_cons pe_int (pa_cons pe_int (pa_cons pe_int pa_nil))))) (pa_cons pe_str pa_nil)))) (pa_cons (pe_tup (pa_cons pe_int (pa_cons (pe_tup (pa_cons pe_int (pa_cons pe_int (pa_cons pe_bl (pa_cons pe_int pa_nil))))) (pa_cons pe_int pa_nil)))) pa_nil))))))) (C8.pss_cut (by exact (ps_set (i := 2) sc_law_truths_right.nd rfl (Or.inl rfl) (pe_op op_cat (pv 2) (pe_lst (pa_cons (pe_tup (pa_cons pe_int (pa_cons (pe_tup (pa_cons pe_int (pa_cons pe_int (pa_cons pe_bl (pa_cons pe_int pa_nil))))) (pa_cons pe_int pa_nil)))) (pa_cons (pe_tup (pa_cons pe_int (pa_cons (pe_tup (pa_cons pe_int (pa_cons pe_int (pa_cons pe_int (pa_cons pe_int pa_nil))))) (pa_cons pe_str pa_nil)))) pa_nil)))))) (C8.pss_cut (by exact (ps_for PassesOwn.never rfl (pi_list (pv 2)) (pg_tupK (n := 3) K rfl rfl (pgs_cons (pg_name (i := 3) sc_law_truths_right.nd rfl (Or.inl rfl)) (pgs_cons (pg_name (i := 4) sc_law_truths_right.nd rfl (Or.inl rfl)) (pgs_cons (pg_name (i := 5) sc_law_truths_right.nd rfl (Or.inl rfl)) pgs_nil)))) (pss_one (by exact (ps_if (pt_cmpR (op_neM K rfl (Room.units hr)) (pe_call GT (hr.mono (by decide)) rfl gT FT.kp bT .nil pass0 (pa_cons (pe_ix (ix_listK K rfl) (pv 1) (pv 3) (fun _ _ => rfl)) (pa_cons (pv 4) pa_nil))) (pe_ifExp (pt_cmpR op_eq (pv 5) pe_int (nomark _)) (pe_tup (pa_cons pe_str (pa_cons (pv 4) pa_nil))) (pv 5)) (nomark _)) (pss_one (by exact (ps_ret pe_bl))) pss_nil))))) (pss_one (by exact (ps_ret pe_bl)))))))), ?_⟩
    have g2k := good_2k hsty true
    refine ⟨fun σ H1 => ∃ ps c0 c1 r0 r1 b0 b1, σ = [some (.str sty), some (.ref ps), none, none, none, none] ∧ Same H H1 ∧ H1 ps = some (.lst [.ref c0, .ref c1]) ∧ Code3 C RC H1 c0 "over" "" r0 ⟨sty, "2 * k", "k", true⟩ b0 ∧ Code3 C RC H1 c1 "under" "" r1 ⟨sty, "2 * k", "k", true⟩ b1, ?_, ?_⟩
    · refine ⟨_, rfl, ?_⟩
      intro r0 dx nx nd ndx
      refine mk_rules (k := ⟨sty, "2 * k", "k", true⟩) g2k nx nd ndx fun H1 s1 R1 => ⟨rfl, ?_⟩
      have h1 : H1 r0 ≠ none := by
        obtain ⟨x1, x2, _, _, _, _, _, _, e, _⟩ := R1
        rw [e]
        simp
      intro c0 dx2 nx2 nd2 ndx2
      refine mk_code3 (b := r0) (by decide) (by decide) R1 nx2 nd2 ndx2 h1 fun H2 s2 C2 => ⟨rfl, ?_⟩
      refine ⟨_, rfl, ?_⟩
      intro r1 dx3 nx3 nd3 ndx3
      refine mk_rules (k := ⟨sty, "2 * k", "k", true⟩) g2k nx3 nd3 ndx3 fun H3 s3 R3 => ⟨rfl, ?_⟩
      have h3 : H3 r1 ≠ none := by
        obtain ⟨x1, x2, _, _, _, _, _, _, e, _⟩ := R3
        rw [e]
        simp
      intro c1 dx4 nx4 nd4 ndx4
      refine mk_code3 (b := r1) (by decide) (by decide) R3 nx4 nd4 ndx4 h3 fun H4 s4 C4 => ⟨rfl, ?_⟩
      refine ⟨by show 2 ≤ sizeLine; decide, fun ps nps => ?_⟩
      have s5 := same_new (o := .lst [.ref c0, .ref c1]) nps
      exact ⟨ps, c0, c1, r0, r1, r0, r1, rfl, s1.trans (s2.trans (s3.trans (s4.trans s5))), upd_same, C2.same (s3.trans (s4.trans s5)), C4.same s5⟩
    rintro σ H1 ⟨ps, c0, c1, r0, r1, b0, b1, rfl, s1, hps, C0, C1⟩
    refine ⟨fun σ H2 => ∃ p2 vs, σ = [some (.str sty), some (.ref ps), some (.ref p2), none, none, none] ∧ Same H1 H2 ∧ H2 p2 = some (.lst vs) ∧ Paired (RowT H2) vs zs1, ?_, ?_⟩
    · skip
      refine ⟨by show 4 ≤ sizeLine; decide, fun t0 nt0 => ?_⟩
      have ut0 := same_new (o := .tup [.int 1, .int 1, .int 3, .int 2]) nt0
      refine ⟨by show 3 ≤ sizeLine; decide, fun w0 nw0 => ?_⟩
      have uw0 := same_new (o := .tup [.int 0, .ref t0, .str "done"]) nw0
      refine ⟨by show 4 ≤ sizeLine; decide, fun t1 nt1 => ?_⟩
      have ut1 := same_new (o := .tup [.bl true, .int 1, .int 3, .int 2]) nt1
      refine ⟨by show 3 ≤ sizeLine; decide, fun w1 nw1 => ?_⟩
      have uw1 := same_new (o := .tup [.int 0, .ref t1, .int 0]) nw1
      refine ⟨by show 4 ≤ sizeLine; decide, fun t2 nt2 => ?_⟩
      have ut2 := same_new (o := .tup [.int 1, .bl true, .int 3, .int 2]) nt2
      refine ⟨by show 3 ≤ sizeLine; decide, fun w2 nw2 => ?_⟩
      have uw2 := same_new (o := .tup [.int 0, .ref t2, .int 0]) nw2
      refine ⟨by show 3 ≤ sizeLine; decide, fun pl npl => ?_⟩
      have upl := same_new (o := .lst [.ref w0, .ref w1, .ref w2]) npl
      have sA := (ut0.trans (uw0.trans (ut1.trans (uw1.trans (ut2.trans (uw2.trans upl))))))
      exact ⟨pl, _, rfl, sA, upd_same, (.cons ⟨w0, t0, rfl, (ut1.trans (uw1.trans (ut2.trans (uw2.trans upl)))) _ _ upd_same, (uw0.trans (ut1.trans (uw1.trans (ut2.trans (uw2.trans upl))))) _ _ upd_same⟩ (.cons ⟨w1, t1, rfl, (ut2.trans (uw2.trans upl)) _ _ upd_same, (uw1.trans (ut2.trans (uw2.trans upl))) _ _ upd_same⟩ (.cons ⟨w2, t2, rfl, upl _ _ upd_same, (uw2.trans upl) _ _ upd_same⟩ .nil)))⟩
    rintro σ H2 ⟨p2, vs2, rfl, s2, hp2, hz2⟩
    refine ⟨fun σ H3 => ∃ p2 vs, σ = [some (.str sty), some (.ref ps), some (.ref p2), none, none, none] ∧ Same H2 H3 ∧ H3 p2 = some (.lst vs) ∧ Paired (RowT H3) vs (zs1 ++ zs2), ?_, ?_⟩
    · skip
      refine ⟨_, rfl, ?_⟩
      refine ⟨by show 4 ≤ sizeLine; decide, fun t0 nt0 => ?_⟩
      have ut0 := same_new (o := .tup [.int 1, .int 1, .int 3, .bl true]) nt0
      refine ⟨by show 3 ≤ sizeLine; decide, fun w0 nw0 => ?_⟩
      have uw0 := same_new (o := .tup [.int 0, .ref t0, .int 0]) nw0
      refine ⟨by show 4 ≤ sizeLine; decide, fun t1 nt1 => ?_⟩
      have ut1 := same_new (o := .tup [.int 1, .int 1, .int 0, .int 2]) nt1
      refine ⟨by show 3 ≤ sizeLine; decide, fun w1 nw1 => ?_⟩
      have uw1 := same_new (o := .tup [.int 1, .ref t1, .str "done"]) nw1
      refine ⟨by show 4 ≤ sizeLine; decide, fun t2 nt2 => ?_⟩
      have ut2 := same_new (o := .tup [.int 1, .int 1, .bl false, .int 2]) nt2
      refine ⟨by show 3 ≤ sizeLine; decide, fun w2 nw2 => ?_⟩
      have uw2 := same_new (o := .tup [.int 1, .ref t2, .int 0]) nw2
      refine ⟨by show 3 ≤ sizeLine; decide, fun pl npl => ?_⟩
      have upl := same_new (o := .lst [.ref w0, .ref w1, .ref w2]) npl
      have sA := (ut0.trans (uw0.trans (ut1.trans (uw1.trans (ut2.trans (uw2.trans upl))))))
      refine ⟨p2, pl, _, _, rfl, rfl, sA _ _ hp2, upd_same, ?_, fun pc npc => ?_⟩
      · rw [← paired_len hz2]
        show 3 + 3 ≤ sizeLine
        decide
      have uc := same_new (o := .lst (vs2 ++ [.ref w0, .ref w1, .ref w2])) npc
      refine ⟨pc, _, rfl, sA.trans uc, upd_same, paired_app (L2.Paired.mapP hz2 fun _ _ h => h.same (sA.trans uc)) (L2.Paired.mapP (.cons ⟨w0, t0, rfl, (ut1.trans (uw1.trans (ut2.trans (uw2.trans upl)))) _ _ upd_same, (uw0.trans (ut1.trans (uw1.trans (ut2.trans (uw2.trans upl))))) _ _ upd_same⟩ (.cons ⟨w1, t1, rfl, (ut2.trans (uw2.trans upl)) _ _ upd_same, (uw1.trans (ut2.trans (uw2.trans upl))) _ _ upd_same⟩ (.cons ⟨w2, t2, rfl, upl _ _ upd_same, (uw2.trans upl) _ _ upd_same⟩ .nil))) fun _ _ h => RowT.same h uc)⟩
    rintro σ H3 ⟨p3, vs3, rfl, s3, hp3, hz3⟩
    refine ⟨fun σ H4 => ∃ p2 vs, σ = [some (.str sty), some (.ref ps), some (.ref p2), none, none, none] ∧ Same H3 H4 ∧ H4 p2 = some (.lst vs) ∧ Paired (RowT H4) vs ((zs1 ++ zs2) ++ zs3), ?_, ?_⟩
    · skip
      refine ⟨_, rfl, ?_⟩
      refine ⟨by show 4 ≤ sizeLine; decide, fun t0 nt0 => ?_⟩
      have ut0 := same_new (o := .tup [.int 2, .int 2, .bl true, .int 3]) nt0
      refine ⟨by show 3 ≤ sizeLine; decide, fun w0 nw0 => ?_⟩
      have uw0 := same_new (o := .tup [.int 1, .ref t0, .int 0]) nw0
      refine ⟨by show 4 ≤ sizeLine; decide, fun t1 nt1 => ?_⟩
      have ut1 := same_new (o := .tup [.int 2, .int 2, .int 1, .int 3]) nt1
      refine ⟨by show 3 ≤ sizeLine; decide, fun w1 nw1 => ?_⟩
      have uw1 := same_new (o := .tup [.int 1, .ref t1, .str "done"]) nw1
      refine ⟨by show 2 ≤ sizeLine; decide, fun pl npl => ?_⟩
      have upl := same_new (o := .lst [.ref w0, .ref w1]) npl
      have sA := (ut0.trans (uw0.trans (ut1.trans (uw1.trans upl))))
      refine ⟨p3, pl, _, _, rfl, rfl, sA _ _ hp3, upd_same, ?_, fun pc npc => ?_⟩
      · rw [← paired_len hz3]
        show 6 + 2 ≤ sizeLine
        decide
      have uc := same_new (o := .lst (vs3 ++ [.ref w0, .ref w1])) npc
      refine ⟨pc, _, rfl, sA.trans uc, upd_same, paired_app (L2.Paired.mapP hz3 fun _ _ h => h.same (sA.trans uc)) (L2.Paired.mapP (.cons ⟨w0, t0, rfl, (ut1.trans (uw1.trans upl)) _ _ upd_same, (uw0.trans (ut1.trans (uw1.trans upl))) _ _ upd_same⟩ (.cons ⟨w1, t1, rfl, upl _ _ upd_same, (uw1.trans upl) _ _ upd_same⟩ .nil)) fun _ _ h => RowT.same h uc)⟩
    rintro σ H4 ⟨p4, vs4, rfl, s4, hp4, hz4⟩
    have s14 := s2.trans (s3.trans s4)
    refine ⟨fun σ H5 => Same H4 H5, ?_, fun σ H5 s5 => q _ (s1.trans (s14.trans s5))⟩
    refine ⟨_, rfl, p4, rfl, ⟨_, SqL.of hp4⟩, for_list (K := K) (a := p4) (xs := vs4) (fun i σ H' => ∃ v3 v4 v5, σ = [some (.str sty), some (.ref ps), some (.ref p4), v3, v4, v5] ∧ Same H4 H') ⟨_, _, _, rfl, Same.refl _⟩ (fun i σ H' _ ⟨_, _, _, _, h⟩ => SqL.of (h _ _ hp4)) ?_ (fun σ H' ⟨_, _, _, _, h⟩ => h)⟩
    rintro i x σ H' hi ⟨v3, v4, v5, rfl, sp⟩
    obtain ⟨z, hz, hrow⟩ := paired_at hz4 hi
    have gz := List.all_eq_true.mp zs_good z (List.mem_of_getElem? hz)
    obtain ⟨w1, t1, rfl, hw, ht⟩ := RowT.same hrow sp
    obtain ⟨pick, xs, due⟩ := z
    simp only [goodZ, Bool.and_eq_true, Bool.or_eq_true, decide_eq_true_eq, Bool.not_eq_true'] at gz
    obtain ⟨gp, ge, gd⟩ := gz
    have sH := s14.trans sp
    have hps' := sH _ _ hps
    have kd : ∀ v ∈ xs, ∃ t, Kd K H' v t := fun v hv => (elem_kd (List.all_eq_true.mp ge v hv)).1
    have sm : ∀ ys, some xs = some ys → ∀ v ∈ ys, smallV v := fun ys e v hv => by
      cases e
      exact (elem_kd (K := K) (H := H') (List.all_eq_true.mp ge v hv)).2.1
    refine ⟨w1, _, rfl, SqT.of hw, rfl, _, _, rfl, _, _, rfl, _, _, rfl, rfl, ?_⟩
    obtain ⟨c, kind, r, b, hat, C', hkind, hpk⟩ : ∃ c kind r b, atI [V.ref c0, V.ref c1] pick = some (.ref c) ∧ Code3 C RC H' c kind "" r ⟨sty, "2 * k", "k", true⟩ b ∧ kind ∈ KINDL ∧ decide (kind = "under") = decide (pick = 1) := by
      rcases gp with rfl | rfl
      · exact ⟨c0, "over", r0, b0, rfl, C0.same sH, by decide, by decide +kernel⟩
      · exact ⟨c1, "under", r1, b1, rfl, C1.same sH, by decide, by decide +kernel⟩
    obtain ⟨⟨x1, x2, R⟩, rows, dc, ls, ra, tb, rr, fr, CA, h3, _⟩ := C'
    have e1 : lineM x1 = ⟨2, 0, 1⟩ := by
      obtain ⟨_, _, _, _, _, _, _, h2, _⟩ := R
      exact shL_eq l2k h2
    have e2 : lineM x2 = ⟨1, 0, 1⟩ := by
      obtain ⟨_, _, _, _, _, _, _, _, h3, _⟩ := R
      exact shL_eq l1k h3
    have ec : caseM x1 x2 (decide (kind = "under")) true (some xs) = caseN ⟨2, 0, 1⟩ ⟨1, 0, 1⟩ (decide (pick = 1)) true (some xs) := by
      rw [hpk]
      exact case_lines e1 e2 _ _ _
    refine ⟨_, rfl, _, rfl, ps, _, pick, .ref c, rfl, rfl, SqL.of hps', hat, _, rfl, c, .ref t1, some xs, kind, "", r, ⟨sty, "2 * k", "k", true⟩, x1, x2, rows, dc, ls, ra, tb, rr, fr, rfl, CA, h3, hkind, R, .tup ht kit_tt kd, sm, fun hc p H5 s5 hp5 => ?_, fun hc H5 s5 => ?_⟩
    · rw [ec] at hc
      rcases gd with ⟨_, gc⟩ | ⟨rfl, _⟩
      · rw [hc] at gc
        cases gc
      · refine ⟨_, rfl, rfl, _, rfl, tt' (show decide (V.int 0 = V.int 0) = true by decide) ⟨_, rfl, by show 2 ≤ sizeLine; decide, fun t2 n2 => ?_⟩⟩
        have s6 := same_new (o := .tup [.str "case", .ref t1]) n2
        refine .inr ⟨p, t2, [.str "case", .ref t1], rfl, rfl, SqT.of (s6 _ _ hp5), SqT.of upd_same, fun v hv => ?_, false, rfl, ff ⟨_, _, _, rfl, sp.trans (s5.trans s6)⟩⟩; rcases List.mem_cons.mp hv with rfl | hv
        · exact .inl rfl
        · rw [List.mem_singleton.mp hv]
          exact .inr ⟨_, rfl⟩
    · rw [ec] at hc
      rcases gd with ⟨rfl, _⟩ | ⟨_, gc⟩
      · refine ⟨_, rfl, rfl, _, rfl, ff' (show decide (V.str "done" = V.int 0) = false by decide +kernel) ⟨_, rfl, .inl (done_ne ⟨false, rfl, ff ⟨_, _, _, rfl, sp.trans s5⟩⟩)⟩⟩
      · rw [hc] at gc
        cases gc
end
end Pk
namespace Pk
open L2 PyProof.Rows PySem.Spec PySem
/-! the values: what stands in the heap -/
inductive Elo (pr : Addr) (H : Hp) : V → Prop
  | int {k : Int} (h : k.natAbs < 2 ^ 400) : Elo pr H (.int k)
  | str {s : Str} : Elo pr H (.str s)
  | bl {b : Bool} : Elo pr H (.bl b)
  | non : Elo pr H .non
  | lst {a : Addr} {xs : List V} (h : H a = some (.lst xs)) (n : a ≠ pr) : Elo pr H (.ref a)
abbrev LA : Line := ⟨3, -4, 1⟩
abbrev LB : Line := ⟨1, 0, 1⟩
inductive Tho (pr b : Addr) (u root want : Bool) (H : Hp) : V → Prop
  | tup {p : Addr} {xs : List V} (h : H p = some (.tup xs)) (e : ∀ v ∈ xs, Elo pr H v) (w : caseN LA LB u root (some xs) = want) : Tho pr b u root want H (.ref p)
  | lst {a : Addr} {xs : List V} (h : H a = some (.lst xs)) (n : a ≠ pr) (w : want = false) : Tho pr b u root want H (.ref a)
  | dK {a : Addr} {xs : List (Key × V)} (h : H a = some (.dK xs)) (n : a ≠ b) (w : want = false) : Tho pr b u root want H (.ref a)
  | non (w : want = false) : Tho pr b u root want H .non
  | int {k : Int} (w : want = false) : Tho pr b u root want H (.int k)
  | str {k : Str} (w : want = false) : Tho pr b u root want H (.str k)
theorem Elo.keep {pr b : Addr} {H H' : Hp} {kvs : List (Key × V)} (hb : H b = some (.dK kvs)) (k : KeepS [b, pr] H H') {v : V} (h : Elo pr H v) : Elo pr H' v := by
  cases h with
  | int h => exact .int h
  | str => exact .str
  | bl => exact .bl
  | non => exact .non
  | lst h n =>
    refine .lst (k _ _ (fun m => ?_) h) n
    simp only [List.mem_cons, List.not_mem_nil, or_false] at m
    rcases m with m | m
    · rw [m, hb] at h
      cases h
    · exact n m
theorem Tho.keep {pr b : Addr} {u root want : Bool} {H H' : Hp} {kvs : List (Key × V)} {rs : List V} (hb : H b = some (.dK kvs)) (hpr : ∀ xs, H pr ≠ some (.tup xs)) (hpd : ∀ xs, H pr ≠ some (.dK xs)) (k : KeepS [b, pr] H H') {v : V} (h : Tho pr b u root want H v) : Tho pr b u root want H' v := by
  cases h with
  | tup h e w =>
    refine .tup (k _ _ (fun m => ?_) h) (fun v hv => (e v hv).keep hb k) w
    simp only [List.mem_cons, List.not_mem_nil, or_false] at m
    rcases m with m | m
    · rw [m, hb] at h
      cases h
    · rw [m] at h
      exact hpr _ h
  | lst h n w =>
    refine .lst (k _ _ (fun m => ?_) h) n w
    simp only [List.mem_cons, List.not_mem_nil, or_false] at m
    rcases m with m | m
    · rw [m, hb] at h
      cases h
    · exact n m
  | dK h n w =>
    refine .dK (k _ _ (fun m => ?_) h) n w
    simp only [List.mem_cons, List.not_mem_nil, or_false] at m
    rcases m with m | m
    · exact n m
    · rw [m] at h
      exact hpd _ h
  | non w => exact .non w
  | int w => exact .int w
  | str w => exact .str w
theorem Elo.same {pr : Addr} {H H' : Hp} (s : Same H H') {v : V} (h : Elo pr H v) : Elo pr H' v := by
  cases h with
  | int h => exact .int h
  | str => exact .str
  | bl => exact .bl
  | non => exact .non
  | lst h n => exact .lst (s _ _ h) n
theorem Tho.same {pr b : Addr} {u root want : Bool} {H H' : Hp} (s : Same H H') {v : V} (h : Tho pr b u root want H v) : Tho pr b u root want H' v := by
  cases h with
  | tup h e w => exact .tup (s _ _ h) (fun v hv => (e v hv).same s) w
  | lst h n w => exact .lst (s _ _ h) n w
  | dK h n w => exact .dK (s _ _ h) n w
  | non w => exact .non w
  | int w => exact .int w
  | str w => exact .str w
theorem Elo.kd {K : PySem.W.Frag} {pr : Addr} {H : Hp} {v : V} (h : Elo pr H v) : (∃ t, Kd K H v t) ∧ smallV v := by
  cases h with
  | int h => exact ⟨⟨_, Kd.int⟩, h⟩
  | str => exact ⟨⟨_, Kd.str⟩, trivial⟩
  | bl => exact ⟨⟨_, Kd.bl⟩, trivial⟩
  | non => exact ⟨⟨_, Kd.non⟩, trivial⟩
  | lst h n => exact ⟨⟨_, Kd.lst h⟩, trivial⟩
theorem kd_dK {K : PySem.W.Frag} {H : Hp} {a : Addr} {xs : List (Key × V)} (h : H a = some (.dK xs)) : Kd K H (.ref a) (.type "dict") := ⟨fun _ s => .base (.dK (s _ _ h)), kit_ty (r := false) (by decide +kernel), kit_ty (r := false) (by decide +kernel), kit_ty (r := false) (by decide +kernel)⟩
theorem Tho.case {K : PySem.W.Frag} {pr b : Addr} {u root want : Bool} {H : Hp} {v : V} (h : Tho pr b u root want H v) : ∃ o, CaseV K H v o ∧ (∀ xs, o = some xs → ∀ y ∈ xs, smallV y) ∧ caseN LA LB u root o = want ∧ SameIt v := by
  cases h with
  | tup h e w => exact ⟨_, .tup h kit_tt fun v hv => (e v hv).kd.1, fun xs ex y hy => by cases ex; exact ((e y hy).kd (K := K)).2, w, .inr ⟨_, rfl⟩⟩
  | lst h n w => exact ⟨none, .odd (Kd.lst h) (kit_ty (r := false) (by decide +kernel)), (fun xs ex => (nomatch ex)), w.symm, .inr ⟨_, rfl⟩⟩
  | dK h n w => exact ⟨none, .odd (kd_dK h) (kit_ty (r := false) (by decide +kernel)), (fun xs ex => (nomatch ex)), w.symm, .inr ⟨_, rfl⟩⟩
  | non w => exact ⟨none, .odd Kd.non (kit_ty (r := false) (by decide +kernel)), (fun xs ex => (nomatch ex)), w.symm, .inl rfl⟩
  | int w => exact ⟨none, .odd Kd.int (kit_ty (r := false) (by decide +kernel)), (fun xs ex => (nomatch ex)), w.symm, .inl rfl⟩
  | str w => exact ⟨none, .odd Kd.str (kit_ty (r := false) (by decide +kernel)), (fun xs ex => (nomatch ex)), w.symm, .inl rfl⟩
/-! the arithmetic of the cases -/
theorem atA (n : Int) : LA.at_ n = 3 * n - 4 := by
  show (3 * n + -4) / ((1 : Nat) : Int) = _
  rw [show ((1 : Nat) : Int) = 1 from rfl, Int.ediv_one]
  omega
theorem atB (n : Int) : LB.at_ n = n := by
  show (1 * n + 0) / ((1 : Nat) : Int) = _
  rw [show ((1 : Nat) : Int) = 1 from rfl, Int.ediv_one]
  omega
section
variable {u root : Bool} {n : Int} {v0 v1 v2 v3 : V}
theorem bad_own (h : v2 ≠ .int (if u = true then n - 1 else 3 * n - 4 + 1)) : caseN LA LB u root (some [.int n, v1, v2, v3]) = false := by
  show (_ && (_ && (_ && (decide (v2 = .int (if u = true then LB.at_ n - 1 else LA.at_ n + 1)) && _)))) = false
  rw [atA, atB, decide_eq_false h]
  simp
theorem bad_side (h : ∃ v ∈ besideL v1 v3, fitV n (3 * n - 4) v = false) : caseN LA LB u root (some [.int n, v1, v2, v3]) = false := by
  obtain ⟨v, m, f⟩ := h
  show (_ && (_ && (_ && (_ && (besideL v1 v3).all (fitV (LB.at_ n) (LA.at_ n)))))) = false
  rw [atA, atB]
  have e : (besideL v1 v3).all (fitV n (3 * n - 4)) = false := by
    cases z : (besideL v1 v3).all (fitV n (3 * n - 4)) with
    | false => rfl
    | true => rw [List.all_eq_true.mp z v m] at f; cases f
  rw [e]
  simp
theorem bad_k (h : n < 2) : caseN LA LB u root (some [.int n, v1, v2, v3]) = false := by
  show (decide (1 ≤ n) && ((decide (1 ≤ LB.at_ n) && decide (LB.at_ n ≤ LA.at_ n)) && _)) = false
  rw [atA, atB, decide_eq_false (p := n ≤ 3 * n - 4) (by omega)]
  simp
theorem bad_0 (h : ∀ k, v0 ≠ .int k) : caseN LA LB u root (some [v0, v1, v2, v3]) = false := by
  cases v0 with
  | int k => exact absurd rfl (h k)
  | _ => rfl
theorem bad_lone (h : (u || !root) = true) : caseN LA LB u root (some [.int n, .non, v2, .non]) = false := by
  show (_ && (_ && (!((besideL .non .non).isEmpty && (u || !root)) && _))) = false
  rw [h, show (besideL .non .non).isEmpty = true from rfl]
  simp
theorem good_case (hn : 2 ≤ n) (h2 : v2 = .int (if u = true then n - 1 else 3 * n - 4 + 1)) (hs : ∀ v ∈ besideL v1 v3, fitV n (3 * n - 4) v = true) (hb : ((besideL v1 v3).isEmpty && (u || !root)) = false) : caseN LA LB u root (some [.int n, v1, v2, v3]) = true := by
  show (decide (1 ≤ n) && ((decide (1 ≤ LB.at_ n) && decide (LB.at_ n ≤ LA.at_ n)) && (!((besideL v1 v3).isEmpty && (u || !root)) && (decide (v2 = .int (if u = true then LB.at_ n - 1 else LA.at_ n + 1)) && (besideL v1 v3).all (fitV (LB.at_ n) (LA.at_ n)))))) = true
  rw [atA, atB, hb, decide_eq_true h2, List.all_eq_true.mpr hs, decide_eq_true (p := 1 ≤ n) (by omega), decide_eq_true (p := n ≤ 3 * n - 4) (by omega)]
  rfl
theorem fit_in {c : Int} (h1 : n ≤ c) (h2 : c ≤ 3 * n - 4) : fitV n (3 * n - 4) (.int c) = true := by
  show (decide (n ≤ c) && decide (c ≤ 3 * n - 4)) = true
  rw [decide_eq_true h1, decide_eq_true h2]
  rfl
theorem fit_out {c : Int} (h : c < n ∨ 3 * n - 4 < c) : fitV n (3 * n - 4) (.int c) = false := by
  show (decide (n ≤ c) && decide (c ≤ 3 * n - 4)) = false
  rcases h with h | h
  · rw [decide_eq_false (by omega)]
    rfl
  · rw [decide_eq_false (p := c ≤ 3 * n - 4) (by omega)]
    simp
end
end Pk
namespace Pk
open L2 PyProof.Rows PySem.Spec PySem
abbrev sLaw : Stmt := top 73
theorem BagO.dict {c m n o} (h : BagO c m n o) : ∃ kvs, o = .dK kvs := let ⟨_, _, _, e, _⟩ := h; ⟨_, e⟩
theorem gen_new {G Gi : Hp} {t : Addr} {o : HO} (e : upd G t o = Gi) (n : G t = none) : Same G Gi ∧ Gi t = some o := by
  subst e
  exact ⟨same_new n, upd_same⟩
theorem all_nil {P : V → Prop} : ∀ v ∈ ([] : List V), P v := fun _ m => nomatch m
theorem all_cons {P : V → Prop} {x : V} {xs : List V} (h : P x) (t : ∀ v ∈ xs, P v) : ∀ v ∈ x :: xs, P v := fun v m => by
  rcases List.mem_cons.mp m with rfl | m
  · exact h
  · exact t v m
theorem all_app {P : V → Prop} {xs ys : List V} (h : ∀ v ∈ xs, P v) (t : ∀ v ∈ ys, P v) : ∀ v ∈ xs ++ ys, P v := fun v m => by
  rcases List.mem_append.mp m with m | m
  · exact h v m
  · exact t v m
theorem side2 {n x y : Int} (h1 : fitV n (3 * n - 4) (.int x) = true) (h2 : fitV n (3 * n - 4) (.int y) = true) : ∀ v ∈ besideL (.int x) (.int y), fitV n (3 * n - 4) v = true := all_cons h1 (all_cons h2 all_nil)
theorem sideR {n y : Int} (h2 : fitV n (3 * n - 4) (.int y) = true) : ∀ v ∈ besideL .non (.int y), fitV n (3 * n - 4) v = true := all_cons h2 all_nil
theorem sideL {n x : Int} (h1 : fitV n (3 * n - 4) (.int x) = true) : ∀ v ∈ besideL (.int x) .non, fitV n (3 * n - 4) v = true := all_cons h1 all_nil
def spLaw1 (K : PySem.W.Frag) : Sp := fun vs H Q _ => ∃ (a : Addr) (ns : List Int), vs = [.ref a] ∧ SqL K H a (ns.map V.int) ∧ ns.length ≤ 63 ∧ ∀ H', Q (.bl true) H'
section
variable {K : PySem.W.Frag} {P : Program} {w : World} {base : Heap} {mg : Str → Option Value} {C fI RC fRI : Addr}
theorem sc_law : FnScope ["_law_script", "_law_bag_here", "_law_kind", "_law_root", "_law_style", "_law_code", "_law_number", "_law_top", "_law_bottom", "_law_own", "_law_one", "_law_two", "_law_right", "_law_wrong", "_law_lone", "_law_turn", "_law_thing"] ["_law_script"] (defScope sLaw) := ⟨rfl, rfl, rfl, by decide +kernel, rfl, by decide +kernel, by decide +kernel⟩
theorem ok_law {f fB fD fT fR : Addr} {fd fdB fdD fdT fdR fdI fdC : FuncData} (F : FunD K "law" "law" (defArgs sLaw) (defBody sLaw) (defScope sLaw) [] [] f fd)
    (FB : FunD K "_law_bag" "_law_bag" (defArgs sBag) (defBody sBag) (defScope sBag) [] [] fB fdB) (FD : FunD K "_law_draw" "_law_draw" (defArgs sDraw) (defBody sDraw) (defScope sDraw) [] [] fD fdD)
    (FT : FunD K "_law_told" "_law_told" (defArgs sTold) (defBody sTold) (defScope sTold) [] [] fT fdT) (FR : FunD K "_law_truths_right" "_law_truths_right" (defArgs sTruths) (defBody sTruths) (defScope sTruths) [] [] fR fdR)
    (GB : FnOk P w K mg base CX0 1 fB fdB ["_law_script"] (spBag K)) (GD : FnOk P w K mg base CX0 1 fD fdD ["_law_bag_here", "_law_limit"] spDraw) (GT : FnOk P w K mg base CX0 8 fT fdT ["_law_code", "_law_thing"] (spTold6 K C RC)) (GR : FnOk P w K mg base CX0 93 fR fdR ["_law_style"] spTruths)
    (gB : mg "_law_bag" = some (.ref fB)) (gD : mg "_law_draw" = some (.ref fD)) (gT : mg "_law_told" = some (.ref fT)) (gR : mg "_law_truths_right" = some (.ref fR))
    (RR : RulesC K mg RC fRI) (GI : FnOk P w K mg base (L2.CX P w) 6 fRI fdI ["self", "style", "cap", "low", "root"] (spInit K RC)) (bI : Binds K fdI ["self", "style", "cap", "low", "root"] [])
    (CC : CodeC K mg C fI) (GC : FnOk P w K mg base (L2.CX P w) 90 fI fdC ["self", "kind", "rules", "text"] (spCodeI K C RC)) (bC : Binds K fdC ["self", "kind", "rules", "text"] [])
    (mRange : mg "range" = none) (mLen : mg "len" = none) (mList : mg "list" = none) (mStr : mg "str" = none) : FnOk P w K mg base CX0 94 f fd ["_law_script"] (spLaw1 K) := by
  have bB : Binds K fdB ["_law_script"] [] := FB.bindsN fun _ _ _ _ _ _ us hl => match us, hl with | [_], _ => rfl
  have bD : Binds K fdD ["_law_bag_here", "_law_limit"] [] := FD.bindsN fun _ _ _ _ _ _ us hl => match us, hl with | [_, _], _ => rfl
  have bT : Binds K fdT ["_law_code", "_law_thing"] [] := FT.bindsN fun _ _ _ _ _ _ us hl => match us, hl with | [_, _], _ => rfl
  have bR : Binds K fdR ["_law_style"] [] := FR.bindsN fun _ _ _ _ _ _ us hl => match us, hl with | [_], _ => rfl
  refine F.ok sc_law (fun vs H Q E h => ?_) (fun cdv A outer s H vs Q E hr h => ?_)
  · obtain ⟨a, ns, rfl, _⟩ := h
    rfl
  · obtain ⟨a, ns, rfl, hS, hl, q⟩ := h
    refine ⟨_, PSs.nox (C8.pss_cut (by exact (ps_set (i := 1) sc_law.nd rfl (Or.inl rfl) (pe_call GB (hr.mono (by decide)) rfl gB FB.kp bB .nil pass0 (pa_cons (pv 0) pa_nil)))) (C8.pss_cut (by exact (ps_par (i := 2) (j := 3) rfl sc_law.nd rfl rfl (by decide) rfl rfl (pa_cons (pe_ix (ix_listK K rfl) (pe_lst (pa_cons pe_str (pa_cons pe_str pa_nil))) (pe_call GD (hr.mono (by decide)) rfl gD FD.kp bD .nil pass0 (pa_cons (pv 1) (pa_cons pe_int pa_nil))) (fun _ _ => rfl)) (pa_cons (pe_cmpR op_eq (pe_call GD (hr.mono (by decide)) rfl gD FD.kp bD .nil pass0 (pa_cons (pv 1) (pa_cons pe_int pa_nil))) pe_int (nomark _)) pa_nil)) rfl)) (C8.pss_cut (by exact (ps_set (i := 4) sc_law.nd rfl (Or.inl rfl) (pe_ix (ix_listK K rfl) (pe_lst (pa_cons pe_str (pa_cons pe_str pa_nil))) (pe_call GD (hr.mono (by decide)) rfl gD FD.kp bD .nil pass0 (pa_cons (pv 1) (pa_cons pe_int pa_nil))) (fun _ _ => rfl)))) (C8.pss_cut (by exact (ps_set (i := 5) sc_law.nd rfl (Or.inr rfl) (pe_make CC.made GC (hr.mono (by decide)) rfl CC.g bC .nil passF (pa_cons (pv 2) (pa_cons (pe_make RR.made GI (hr.mono (by decide)) rfl RR.g bI .nil passF (pa_cons (pv 4) (pa_cons pe_str (pa_cons pe_str (pa_cons (pv 3) pa_nil))))) (pa_cons (pe_ix (ix_listK K rfl) (pe_lst (pa_cons pe_str (pa_cons pe_str (pa_cons pe_str pa_nil)))) (pe_call GD (hr.mono (by decide)) rfl gD FD.kp bD .nil pass0 (pa_cons (pv 1) (pa_cons pe_int pa_nil))) (fun _ _ => rfl)) pa_nil)))))) (C8.pss_cut (by exact (ps_set (i := 6) sc_law.nd rfl (Or.inl rfl) (pe_op op_add pe_int (pe_call GD (hr.mono (by decide)) rfl gD FD.kp bD .nil pass0 (pa_cons (pv 1) (pa_cons (pe_ix (ix_listK K rfl) (pe_lst (pa_cons pe_int (pa_cons (pe_op op_pow pe_int pe_int) pa_nil))) (pe_call GD (hr.mono (by decide)) rfl gD FD.kp bD .nil pass0 (pa_cons (pv 1) (pa_cons pe_int pa_nil))) (fun _ _ => rfl)) pa_nil)))))) (C8.pss_cut (by exact (ps_par (i := 7) (j := 8) rfl sc_law.nd rfl rfl (by decide) rfl rfl (pa_cons (pe_op op_sub (pe_op op_mulW pe_int (pv 6)) pe_int) (pa_cons (pv 6) pa_nil)) rfl)) (C8.pss_cut (by exact (ps_set (i := 9) sc_law.nd rfl (Or.inl rfl) (pe_ifExp (pt_cmpR op_eq (pv 2) pe_str (nomark _)) (pe_op op_add (pv 7) pe_int) (pe_op op_sub (pv 8) pe_int)))) (C8.pss_cut (by exact (ps_par (i := 10) (j := 11) rfl sc_law.nd rfl rfl (by decide) rfl rfl (pa_cons (pe_op op_add (pv 8) (pe_call GD (hr.mono (by decide)) rfl gD FD.kp bD .nil pass0 (pa_cons (pv 1) (pa_cons (pe_op op_add (pe_op op_sub (pv 7) (pv 8)) pe_int) pa_nil)))) (pa_cons (pe_op op_add (pv 8) (pe_call GD (hr.mono (by decide)) rfl gD FD.kp bD .nil pass0 (pa_cons (pv 1) (pa_cons (pe_op op_add (pe_op op_sub (pv 7) (pv 8)) pe_int) pa_nil)))) pa_nil)) rfl)) (C8.pss_cut (by exact (ps_set (i := 12) sc_law.nd rfl (Or.inl rfl) (pe_lst (pa_cons (pe_tup (pa_cons (pv 6) (pa_cons (pv 10) (pa_cons (pv 9) (pa_cons (pv 11) pa_nil))))) (pa_cons (pe_tup (pa_cons (pv 6) (pa_cons pe_non (pa_cons (pv 9) (pa_cons (pv 11) pa_nil))))) (pa_cons (pe_tup (pa_cons (pv 6) (pa_cons (pv 10) (pa_cons (pv 9) (pa_cons pe_non pa_nil))))) pa_nil)))))) (C8.pss_cut (by exact (ps_set (i := 13) sc_law.nd rfl (Or.inl rfl) (pe_lst (pa_cons (pe_callTy call_list_of (by rfl) mList (by decide +kernel) (pa_cons (pe_ix (ix_listK K rfl) (pv 12) pe_int (fun _ _ => rfl)) pa_nil)) (pa_cons (pe_tup (pa_cons (pv 6) (pa_cons (pv 10) (pa_cons (pv 9) pa_nil)))) (pa_cons (pe_tup (pa_cons (pv 6) (pa_cons (pv 10) (pa_cons (pv 9) (pa_cons (pv 11) (pa_cons pe_non pa_nil)))))) (pa_cons pe_non (pa_cons pe_int (pa_cons pe_str (pa_cons (pe_tup pa_nil) (pa_cons (pe_disp (pps_cons pe_str (pv 6) pps_nil) (by rfl) (by rfl) (fun z => by cases z) (by decide)) pa_nil))))))))))) (C8.pss_cut (by exact (ps_set (i := 13) sc_law.nd rfl (Or.inl rfl) (pe_op op_cat (pv 13) (pe_lst (pa_cons (pe_tup (pa_cons pe_int (pa_cons pe_non (pa_cons pe_int (pa_cons pe_int pa_nil))))) (pa_cons (pe_tup (pa_cons pe_int (pa_cons pe_int (pa_cons pe_int (pa_cons pe_non pa_nil))))) (pa_cons (pe_tup (pa_cons pe_int (pa_cons pe_int (pa_cons pe_int (pa_cons pe_int pa_nil))))) (pa_cons (pe_tup (pa_cons (pe_un un_neg (pv 6)) (pa_cons (pv 10) (pa_cons (pv 9) (pa_cons (pv 11) pa_nil))))) (pa_cons (pe_tup (pa_cons pe_non (pa_cons (pv 10) (pa_cons (pv 9) (pa_cons (pv 11) pa_nil))))) pa_nil))))))))) (C8.pss_cut (by exact (ps_set (i := 13) sc_law.nd rfl (Or.inl rfl) (pe_op op_cat (pv 13) (pe_lst (pa_cons (pe_tup (pa_cons (pe_callTy call_str_int (by rfl) mStr (by decide +kernel) (pa_cons (pv 6) pa_nil)) (pa_cons (pv 10) (pa_cons (pv 9) (pa_cons (pv 11) pa_nil))))) (pa_cons (pe_tup (pa_cons pe_bl (pa_cons (pv 10) (pa_cons (pv 9) (pa_cons (pv 11) pa_nil))))) (pa_cons (pe_tup (pa_cons (pe_lst (pa_cons (pv 6) pa_nil)) (pa_cons (pv 10) (pa_cons (pv 9) (pa_cons (pv 11) pa_nil))))) pa_nil))))))) (C8.pss_cut (by exact (ps_set (i := 13) sc_law.nd rfl (Or.inl rfl) (pe_op op_cat (pv 13) (pe_lst (pa_cons (pe_tup (pa_cons (pv 6) (pa_cons (pe_op op_sub (pv 8) pe_int) (pa_cons (pv 9) (pa_cons (pv 11) pa_nil))))) (pa_cons (pe_tup (pa_cons (pv 6) (pa_cons (pe_op op_add (pv 7) pe_int) (pa_cons (pv 9) (pa_cons (pv 11) pa_nil))))) (pa_cons (pe_tup (pa_cons (pv 6) (pa_cons (pv 10) (pa_cons (pv 9) (pa_cons (pe_op op_add (pv 7) pe_int) pa_nil))))) pa_nil))))))) (C8.pss_cut (by exact (ps_set (i := 13) sc_law.nd rfl (Or.inl rfl) (pe_op op_cat (pv 13) (pe_lst (pa_cons (pe_tup (pa_cons (pv 6) (pa_cons (pv 10) (pa_cons (pv 9) (pa_cons (pe_op op_sub (pv 8) pe_int) pa_nil))))) (pa_cons (pe_tup (pa_cons (pv 6) (pa_cons (pv 10) (pa_cons (pe_op op_add (pv 9) pe_int) (pa_cons (pv 11) pa_nil))))) (pa_cons (pe_tup (pa_cons (pv 6) (pa_cons (pv 10) (pa_cons (pe_op op_sub (pv 9) pe_int) (pa_cons (pv 11) pa_nil))))) pa_nil))))))) (C8.pss_cut (by exact (ps_set (i := 13) sc_law.nd rfl (Or.inl rfl) (pe_op op_cat (pv 13) (pe_lst (pa_cons (pe_tup (pa_cons (pv 6) (pa_cons (pv 10) (pa_cons pe_non (pa_cons (pv 11) pa_nil))))) (pa_cons (pe_tup (pa_cons (pv 6) (pa_cons (pv 10) (pa_cons (pe_callTy call_str_int (by rfl) mStr (by decide +kernel) (pa_cons (pv 9) pa_nil)) (pa_cons (pv 11) pa_nil))))) (pa_cons (pe_tup (pa_cons (pv 6) (pa_cons pe_str (pa_cons (pv 9) (pa_cons (pv 11) pa_nil))))) pa_nil))))))) (C8.pss_cut (by exact (ps_set (i := 13) sc_law.nd rfl (Or.inl rfl) (pe_op op_cat (pv 13) (pe_lst (pa_cons (pe_tup (pa_cons (pv 6) (pa_cons (pv 10) (pa_cons (pv 9) (pa_cons (pe_lst (pa_cons (pv 11) pa_nil)) pa_nil))))) pa_nil))))) (C8.pss_cut (by exact (ps_set (i := 13) sc_law.nd rfl (Or.inl rfl) (pe_op op_cat (pv 13) (pe_lst (pa_cons (pe_tup (pa_cons (pv 6) (pa_cons (pv 10) (pa_cons (pv 7) (pa_cons (pv 11) pa_nil))))) (pa_cons (pe_tup (pa_cons (pv 6) (pa_cons (pv 10) (pa_cons (pv 8) (pa_cons (pv 11) pa_nil))))) (pa_cons (pe_tup (pa_cons (pv 6) (pa_cons pe_bl (pa_cons (pv 9) (pa_cons (pv 11) pa_nil))))) pa_nil))))))) (C8.pss_cut (by exact (ps_set (i := 14) sc_law.nd rfl (Or.inl rfl) (pe_tup (pa_cons (pv 6) (pa_cons pe_non (pa_cons (pv 9) (pa_cons pe_non pa_nil))))))) (C8.pss_cut (by exact (ps_if (PW.pt (pw_and (pt_cmpR op_eq (pv 2) pe_str (nomark _)) (pw_and1 (pt_val (pv 3))))) (pss_one (by exact (ps_expr (pe_bm PySem.F.plainAttrs_list PySem.F.slot_list_append PySem.F.type_list_append mt_append (pv 12) (pa_cons (pv 14) pa_nil))))) (pss_one (by exact (ps_expr (pe_bm PySem.F.plainAttrs_list PySem.F.slot_list_append PySem.F.type_list_append mt_append (pv 13) (pa_cons (pv 14) pa_nil))))))) (C8.pss_cut (by exact (ps_if (pt_not (pt_val (pe_call GR (hr.mono (by decide)) rfl gR FR.kp bR .nil pass0 (pa_cons (pv 4) pa_nil)))) (pss_one (by exact (ps_ret pe_bl))) pss_nil)) (C8.pss_cut (by exact (ps_for PassesOwn.never rfl (pi_range1 rfl mRange (pa_cons pe_int pa_nil)) (pg_name (i := 15) sc_law.nd rfl (Or.inl rfl)) (pss_cons (by exact (ps_set (i := 16) sc_law.nd rfl (Or.inl rfl) (pe_ix (ix_listK K rfl) (pv 13) (pe_call GD (hr.mono (by decide)) rfl gD FD.kp bD .nil pass0 (pa_cons (pv 1) (pa_cons (pe_callB call_len_seq (by rfl) mLen PySem.boot_len (pa_cons (pv 13) pa_nil)) pa_nil))) (fun _ _ => rfl)))) (pss_one (by exact (ps_if (pt_cmpR (op_neM K rfl (Room.units hr)) (pe_call GT (hr.mono (by decide)) rfl gT FT.kp bT .nil pass0 (pa_cons (pv 5) (pa_cons (pv 16) pa_nil))) (pe_tup (pa_cons pe_str (pa_cons (pv 16) pa_nil))) (nomark _)) (pss_one (by exact (ps_ret pe_bl))) pss_nil)))))) (pss_one (by exact (ps_ret (pe_cmpR (op_eqDK K rfl (Room.units hr)) (pe_lc (own := [("_law_thing", 16)]) (g := gName 16) rfl sc_law.nd (pi_list (pv 12)) (blkOk_by (N := ["_law_script", "_law_bag_here", "_law_kind", "_law_root", "_law_style", "_law_code", "_law_number", "_law_top", "_law_bottom", "_law_own", "_law_one", "_law_two", "_law_right", "_law_wrong", "_law_lone", "_law_turn", "_law_thing"]) (sc := defScope sLaw) (by decide +kernel)) (fun _ _ _ _ _ => pg_name (i := 16) sc_law.nd rfl (Or.inl rfl)) (fun _ _ _ _ _ => (pts_one (pt_cmpR (op_neM K rfl (Room.units hr)) (pe_call GT (hr.mono (by decide)) rfl gT FT.kp bT .nil pass0 (pa_cons (pv 5) (pa_cons (pv 16) pa_nil))) pe_str (nomark _)))) (fun _ _ _ _ _ => (pv 16))) (pe_lst pa_nil) (nomark _)))))))))))))))))))))))))), ?_⟩
    refine ⟨fun σ H1 => ∃ b c o, σ = [some (.ref a), some (.ref b), none, none, none, none, none, none, none, none, none, none, none, none, none, none, none] ∧ H1 b = some o ∧ BagO c ns.length 0 o ∧ H1 c = some (.lst (ns.map V.int)), ?_, ?_⟩
    · refine ⟨_, rfl, a, ns, rfl, hS, hl, fun b c o hb hc hcb hB => ⟨b, c, o, rfl, upd_same, hB, ?_⟩⟩
      rw [upd_ne hcb]
      exact upd_same
    rintro σ H1 ⟨b, c, o1, rfl, b1, B1, c1⟩
    refine ⟨fun σ H2 => ∃ (kind : Str) (rt : Bool) (o : HO), σ = [some (.ref a), some (.ref b), some (.str kind), some (.bl rt), none, none, none, none, none, none, none, none, none, none, none, none, none] ∧ kind ∈ KINDL ∧ H2 b = some o ∧ BagO c ns.length 2 o ∧ H2 c = some (.lst (ns.map V.int)), ?_, ?_⟩
    · refine ⟨by show 2 ≤ sizeLine; decide, fun lk nlk => ?_⟩
      have s2 := same_new (o := .lst [.str "over", .str "under"]) nlk
      have b2 := s2 _ _ b1
      have c2 := s2 _ _ c1
      have k2 := at_new nlk (o := .lst [.str "over", .str "under"])
      generalize upd H1 lk _ = H2 at s2 b2 c2 k2 ⊢
      obtain ⟨kv1, rfl⟩ := B1.dict
      have cb : c ≠ b := fun z => by
        rw [z, b2] at c2
        cases c2
      have kb : lk ≠ b := fun z => by
        rw [z, b2] at k2
        cases k2
      refine ⟨_, rfl, b, c, ns, 2, 0, _, rfl, by decide, by decide, b2, B1, by omega, c2, fun a3 o3 a30 a31 B3 => ?_⟩
      obtain ⟨kind, hkind, hat⟩ : ∃ kind : Str, kind ∈ KINDL ∧ atI [V.str "over", .str "under"] a3 = some (.str kind) := by
        have h : a3 = 0 ∨ a3 = 1 := by omega
        rcases h with rfl | rfl
        · exact ⟨"over", by decide, rfl⟩
        · exact ⟨"under", by decide, rfl⟩
      refine ⟨lk, _, _, .str kind, rfl, rfl, SqL.of (by rw [upd_ne kb]; exact k2), hat, ?_⟩
      refine ⟨_, rfl, b, c, ns, 2, 0 + 1, _, rfl, by decide, by decide, upd_same, B3, by omega, by rw [upd_ne cb]; exact c2, fun a4 o4 a40 a41 B4 => ?_⟩
      rw [upd_upd]
      refine ⟨rfl, _, _, rfl, kind, _, o4, rfl, hkind, upd_same, B4, ?_⟩
      rw [upd_ne cb]
      exact c2
    rintro σ H2 ⟨kind, rt, o2, rfl, hkind, b2, B2, c2⟩
    refine ⟨fun σ H3 => ∃ (sty : Str) (o : HO), σ = [some (.ref a), some (.ref b), some (.str kind), some (.bl rt), some (.str sty), none, none, none, none, none, none, none, none, none, none, none, none] ∧ sty ∈ STYL ∧ H3 b = some o ∧ BagO c ns.length 3 o ∧ H3 c = some (.lst (ns.map V.int)), ?_, ?_⟩
    · refine ⟨by show 2 ≤ sizeLine; decide, fun lk nlk => ?_⟩
      have s2 := same_new (o := .lst [.str "taken", .str "copied"]) nlk
      have b3 := s2 _ _ b2
      have c3 := s2 _ _ c2
      have k3 := at_new nlk (o := .lst [.str "taken", .str "copied"])
      generalize upd H2 lk _ = H3 at s2 b3 c3 k3 ⊢
      obtain ⟨kv2, rfl⟩ := B2.dict
      have cb : c ≠ b := fun z => by
        rw [z, b3] at c3
        cases c3
      have kb : lk ≠ b := fun z => by
        rw [z, b3] at k3
        cases k3
      refine ⟨_, rfl, b, c, ns, 2, 2, _, rfl, by decide, by decide, b3, B2, by omega, c3, fun a3 o3 a30 a31 B3 => ?_⟩
      obtain ⟨sty, hsty, hat⟩ : ∃ sty : Str, sty ∈ STYL ∧ atI [V.str "taken", .str "copied"] a3 = some (.str sty) := by
        have h : a3 = 0 ∨ a3 = 1 := by omega
        rcases h with rfl | rfl
        · exact ⟨"taken", by decide, rfl⟩
        · exact ⟨"copied", by decide, rfl⟩
      refine ⟨lk, _, _, .str sty, rfl, rfl, SqL.of (by rw [upd_ne kb]; exact k3), hat, sty, o3, rfl, hsty, upd_same, B3, ?_⟩
      rw [upd_ne cb]
      exact c3
    rintro σ H3 ⟨sty, o3, rfl, hsty, b3, B3, c3⟩
    have gk : goodK ⟨sty, "3 * k - 4", "k", rt⟩ := ⟨hsty, gT34, gT1⟩
    refine ⟨fun σ H4 => ∃ cd t r o kvs, σ = [some (.ref a), some (.ref b), some (.str kind), some (.bl rt), some (.str sty), some (.ref cd), none, none, none, none, none, none, none, none, none, none, none] ∧ H4 b = some o ∧ o = .dK kvs ∧ BagO c ns.length 4 o ∧ H4 c = some (.lst (ns.map V.int)) ∧ Code3 C RC H4 cd kind t r ⟨sty, "3 * k - 4", "k", rt⟩ b, ?_, ?_⟩
    · refine ⟨_, rfl, _, rfl, _, rfl, ?_⟩
      intro r dx nx nd ndx
      refine mk_rules (k := ⟨sty, "3 * k - 4", "k", rt⟩) gk nx nd ndx fun H4 s4 R4 => ⟨rfl, ?_⟩
      refine ⟨by show 3 ≤ sizeLine; decide, fun lk nlk => ?_⟩
      have s5 := same_new (o := .lst [.str "", .str "quit", .str "a = k"]) nlk
      have s45 := s4.trans s5
      have b5 := s45 _ _ b3
      have c5 := s45 _ _ c3
      have k5 := at_new nlk (o := .lst [.str "", .str "quit", .str "a = k"])
      have R5 := R4.same s5
      generalize upd H4 lk _ = H5 at s5 s45 b5 c5 k5 R5 ⊢
      obtain ⟨kv3, rfl⟩ := B3.dict
      have cb : c ≠ b := fun z => by
        rw [z, b5] at c5
        cases c5
      have kb : lk ≠ b := fun z => by
        rw [z, b5] at k5
        cases k5
      refine ⟨_, rfl, b, c, ns, 3, 3, _, rfl, by decide, by decide, b5, B3, by omega, c5, fun a3 o3 a30 a31 B4 => ?_⟩
      obtain ⟨t, ht, hat⟩ : ∃ t : Str, t ∈ textL ∧ atI [V.str "", .str "quit", .str "a = k"] a3 = some (.str t) := by
        have h : a3 = 0 ∨ a3 = 1 ∨ a3 = 2 := by omega
        rcases h with rfl | rfl | rfl
        · exact ⟨"", by decide, rfl⟩
        · exact ⟨"quit", by decide, rfl⟩
        · exact ⟨"a = k", by decide, rfl⟩
      have R6 := R5.keepD b5 (KeepB.upd (o := o3))
      have b6 := at_upd (H := H5) (a := b) (o := o3)
      have c6 : upd H5 b o3 c = _ := (upd_ne cb).trans c5
      have k6 : upd H5 b o3 lk = _ := (upd_ne kb).trans k5
      obtain ⟨kv4, rfl⟩ := B4.dict
      generalize upd H5 b _ = H6 at R6 b6 c6 k6 ⊢
      refine ⟨lk, _, _, .str t, rfl, rfl, SqL.of k6, hat, ?_⟩
      intro cd dx2 nx2 nd2 ndx2
      exact mk_code3 (b := b) hkind ht R6 nx2 nd2 ndx2 (by rw [b6]; simp) fun H7 s7 C7 => ⟨rfl, cd, t, r, _, kv4, rfl, s7 _ _ b6, rfl, B4, s7 _ _ c6, C7⟩
    rintro σ H4 ⟨cd, t, r, _, kv4, rfl, b4, rfl, B4, c4, C4⟩
    have cb : c ≠ b := fun z => by
      rw [z, b4] at c4
      cases c4
    refine ⟨fun σ H5 => ∃ (n : Int) (kvs : List (Key × V)), σ = [some (.ref a), some (.ref b), some (.str kind), some (.bl rt), some (.str sty), some (.ref cd), some (.int n), none, none, none, none, none, none, none, none, none, none] ∧ 2 ≤ n ∧ n ≤ 10 ^ 21 ∧ H5 b = some (.dK kvs) ∧ BagO c ns.length 6 (.dK kvs) ∧ H5 c = some (.lst (ns.map V.int)) ∧ Code3 C RC H5 cd kind t r ⟨sty, "3 * k - 4", "k", rt⟩ b, ?_, ?_⟩
    · refine ⟨_, rfl, _, _, rfl, rfl, ⟨by decide, by decide, by decide⟩, by show 2 ≤ sizeLine; decide, fun lk nlk => ?_⟩
      have s5 := same_new (o := .lst [.int 5, .int (10 ^ (20 : Int).toNat)]) nlk
      have b5 := s5 _ _ b4
      have c5 := s5 _ _ c4
      have k5 := at_new nlk (o := .lst [.int 5, .int (10 ^ (20 : Int).toNat)])
      have C5 := C4.same s5
      generalize upd H4 lk _ = H5 at s5 b5 c5 k5 C5 ⊢
      have kb : lk ≠ b := fun z => by
        rw [z, b5] at k5
        cases k5
      refine ⟨_, rfl, b, c, ns, 2, 4, _, rfl, by decide, by decide, b5, B4, by omega, c5, fun a3 o3 a30 a31 B5 => ?_⟩
      have C6 := C5.keepB b5 (KeepB.upd (o := o3))
      have b6 := at_upd (H := H5) (a := b) (o := o3)
      have c6 : upd H5 b o3 c = _ := (upd_ne cb).trans c5
      have k6 : upd H5 b o3 lk = _ := (upd_ne kb).trans k5
      obtain ⟨kv5, rfl⟩ := B5.dict
      generalize upd H5 b _ = H6 at C6 b6 c6 k6 ⊢
      obtain ⟨lim, l1, l2, hat⟩ : ∃ lim : Int, 1 ≤ lim ∧ lim ≤ 10 ^ 20 ∧ atI [V.int 5, .int (10 ^ (20 : Int).toNat)] a3 = some (.int lim) := by
        have h : a3 = 0 ∨ a3 = 1 := by omega
        rcases h with rfl | rfl
        · exact ⟨5, by decide, by decide, rfl⟩
        · exact ⟨10 ^ (20 : Int).toNat, by decide, by decide, rfl⟩
      refine ⟨lk, _, _, .int lim, rfl, rfl, SqL.of k6, hat, b, c, ns, lim, 4 + 1, _, rfl, l1, Int.le_trans l2 (by decide), b6, B5, by omega, c6, fun r3 o4 r0 r1 B6 => ?_⟩
      obtain ⟨kv6, rfl⟩ := B6.dict
      exact ⟨_, _, rfl, rfl, 2 + r3, kv6, rfl, by omega, by omega, upd_same, B6, (upd_ne cb).trans c6, C6.keepB b6 KeepB.upd⟩
    rintro σ H5 ⟨n, kv5, rfl, n2, n21, b5, B5, c5, C5⟩
    have nsm : n.natAbs < 2 ^ 399 := Nat.lt_of_le_of_lt (show n.natAbs ≤ 10 ^ 21 by omega) (by decide)
    refine ⟨fun σ H6 => H6 = H5 ∧ σ = [some (.ref a), some (.ref b), some (.str kind), some (.bl rt), some (.str sty), some (.ref cd), some (.int n), some (.int (3 * n - 4)), some (.int n), none, none, none, none, none, none, none, none], ?_, ?_⟩
    · refine ⟨_, rfl, 3, n, rfl, rfl, ?_, _, _, rfl, rfl, _, rfl, _, _, rfl, rfl, rfl⟩
      show (3 : Int).natAbs.log2 + n.natAbs.log2 < 1000000
      have a := log2_small (k := n) (Nat.lt_trans nsm (by decide))
      have b : (3 : Int).natAbs.log2 = 1 := by decide
      omega
    rintro σ H6 ⟨rfl, rfl⟩
    refine ⟨fun σ H7 => H7 = H6 ∧ σ = [some (.ref a), some (.ref b), some (.str kind), some (.bl rt), some (.str sty), some (.ref cd), some (.int n), some (.int (3 * n - 4)), some (.int n), some (.int (if decide (kind = "under") = true then n - 1 else 3 * n - 4 + 1)), none, none, none, none, none, none, none], ?_, ?_⟩
    · refine ⟨_, rfl, rfl, _, rfl, ite2 (fun e => ?_) fun e => ?_⟩
      · have ek : kind = "over" := V.str.inj (of_decide_eq_true e)
        subst ek
        exact ⟨_, rfl, _, _, rfl, rfl, rfl, rfl⟩
      · have ek : kind = "under" := by
          rcases List.mem_cons.mp hkind with z | z
          · exact absurd (by rw [z]; rfl) e
          · exact List.mem_singleton.mp z
        subst ek
        exact ⟨_, rfl, _, _, rfl, rfl, rfl, rfl⟩
    rintro σ H7 ⟨rfl, rfl⟩
    generalize hown : (if decide (kind = "under") = true then n - 1 else 3 * n - 4 + 1) = own
    have ownsm : own.natAbs < 2 ^ 400 := by
      rw [← hown]
      have e : (2 : Nat) ^ 400 = 2 * 2 ^ 399 := by decide
      have p : 10 ^ 22 ≤ (2 : Nat) ^ 399 := by decide
      split <;> omega
    refine ⟨fun σ H8 => ∃ (one two : Int) (kvs : List (Key × V)), σ = [some (.ref a), some (.ref b), some (.str kind), some (.bl rt), some (.str sty), some (.ref cd), some (.int n), some (.int (3 * n - 4)), some (.int n), some (.int own), some (.int one), some (.int two), none, none, none, none, none] ∧ n ≤ one ∧ one ≤ 3 * n - 4 ∧ n ≤ two ∧ two ≤ 3 * n - 4 ∧ H8 b = some (.dK kvs) ∧ BagO c ns.length 8 (.dK kvs) ∧ H8 c = some (.lst (ns.map V.int)) ∧ Code3 C RC H8 cd kind t r ⟨sty, "3 * k - 4", "k", rt⟩ b, ?_, ?_⟩
    · refine ⟨_, rfl, _, rfl, _, rfl, _, rfl, _, _, rfl, rfl, _, _, rfl, rfl, b, c, ns, 3 * n - 4 - n + 1, 6, _, rfl, by omega, Int.le_trans (show 3 * n - 4 - n + 1 ≤ 3 * 10 ^ 21 by omega) (by decide), b5, B5, by omega, c5, fun r1 o1 r10 r11 B6 => ⟨_, _, rfl, rfl, ?_⟩⟩
      have C6 := C5.keepB b5 (KeepB.upd (o := o1))
      have b6 := at_upd (H := H7) (a := b) (o := o1)
      have c6 : upd H7 b o1 c = _ := (upd_ne cb).trans c5
      obtain ⟨kv6, rfl⟩ := B6.dict
      generalize upd H7 b _ = H8 at C6 b6 c6 ⊢
      refine ⟨_, rfl, _, rfl, _, rfl, _, rfl, _, _, rfl, rfl, _, _, rfl, rfl, b, c, ns, 3 * n - 4 - n + 1, 6 + 1, _, rfl, by omega, Int.le_trans (show 3 * n - 4 - n + 1 ≤ 3 * 10 ^ 21 by omega) (by decide), b6, B6, by omega, c6, fun r2 o2 r20 r21 B7 => ⟨_, _, rfl, rfl, ?_⟩⟩
      obtain ⟨kv7, rfl⟩ := B7.dict
      exact ⟨_, _, rfl, n + r1, n + r2, kv7, rfl, by omega, by omega, by omega, by omega, upd_same, B7, (upd_ne cb).trans c6, C6.keepB b6 KeepB.upd⟩
    rintro σ H8 ⟨one, two, kv8, rfl, one1, one2, two1, two2, b8, B8, c8, C8⟩
    have onesm : one.natAbs < 2 ^ 400 := Nat.lt_of_le_of_lt (show one.natAbs ≤ 3 * 10 ^ 21 by omega) (by decide)
    have twosm : two.natAbs < 2 ^ 400 := Nat.lt_of_le_of_lt (show two.natAbs ≤ 3 * 10 ^ 21 by omega) (by decide)
    have nsm4 : n.natAbs < 2 ^ 400 := Nat.lt_trans nsm (by decide)
    have big : ∀ z : Int, z.natAbs ≤ 10 ^ 23 → z.natAbs < 2 ^ 400 := fun z h => Nat.lt_of_le_of_lt h (by decide)
    have own23 : own.natAbs ≤ 10 ^ 22 := by
      rw [← hown]
      split <;> omega
    have lg : ∀ z : Int, z.natAbs ≤ 10 ^ 22 → z.natAbs.log2 < 1920 := fun z h => Nat.lt_of_lt_of_le (PySem.Flt.log2_lt_of (k := 100) (by decide) (Nat.lt_of_le_of_lt h (by decide))) (by decide)
    have ho : own = n - 1 ∨ own = 3 * n - 4 + 1 := by
      rw [← hown]
      split
      · exact .inl rfl
      · exact .inr rfl
    clear C5 b5 c5
    refine ⟨fun σ H9 => ∃ pr t1 rs, H8 pr = none ∧ σ = [some (.ref a), some (.ref b), some (.str kind), some (.bl rt), some (.str sty), some (.ref cd), some (.int n), some (.int (3 * n - 4)), some (.int n), some (.int own), some (.int one), some (.int two), some (.ref pr), none, none, none, none] ∧ Same H8 H9 ∧ H9 pr = some (.lst (.ref t1 :: rs)) ∧ rs.length = 2 ∧ H9 t1 = some (.tup [.int n, .int one, .int own, .int two]) ∧ ∀ v ∈ V.ref t1 :: rs, Tho pr b (decide (kind = "under")) rt true H9 v, ?_, ?_⟩
    · skip
      refine ⟨_, rfl, _, rfl, _, rfl, _, rfl, by show 4 ≤ sizeLine; decide, fun t1 nt1 => ?_⟩
      generalize et1 : upd _ t1 _ = G1
      obtain ⟨u1, h1⟩ := gen_new et1 nt1
      clear et1
      refine ⟨_, rfl, _, rfl, _, rfl, by show 4 ≤ sizeLine; decide, fun t2 nt2 => ?_⟩
      generalize et2 : upd _ t2 _ = G2
      obtain ⟨u2, h2⟩ := gen_new et2 nt2
      clear et2
      refine ⟨_, rfl, _, rfl, _, rfl, by show 4 ≤ sizeLine; decide, fun t3 nt3 => ?_⟩
      generalize et3 : upd _ t3 _ = G3
      obtain ⟨u3, h3⟩ := gen_new et3 nt3
      clear et3
      refine ⟨by show 3 ≤ sizeLine; decide, fun pl npl => ?_⟩
      generalize epl : upd _ pl _ = GP
      obtain ⟨upl, hpl⟩ := gen_new epl npl
      clear epl
      exact ⟨pl, t1, _, (u1.trans (u2.trans u3)).back npl, rfl, (u1.trans (u2.trans (u3.trans upl))), hpl, rfl, (u2.trans (u3.trans upl)) _ _ h1, (all_cons (.tup ((u2.trans (u3.trans upl)) _ _ h1) (all_cons (.int nsm4) (all_cons (.int onesm) (all_cons (.int ownsm) (all_cons (.int twosm) all_nil)))) (good_case n2 (by rw [hown]) (side2 (fit_in one1 one2) (fit_in two1 two2)) rfl)) (all_cons (.tup ((u3.trans upl) _ _ h2) (all_cons (.int nsm4) (all_cons (.non) (all_cons (.int ownsm) (all_cons (.int twosm) all_nil)))) (good_case n2 (by rw [hown]) (sideR (fit_in two1 two2)) rfl)) (all_cons (.tup (upl _ _ h3) (all_cons (.int nsm4) (all_cons (.int onesm) (all_cons (.int ownsm) (all_cons (.non) all_nil)))) (good_case n2 (by rw [hown]) (sideL (fit_in one1 one2)) rfl)) all_nil)))⟩
    rintro σ H9 ⟨pr, t1, rs, npr8, rfl, s9, hpr9, hrs, ht19, hgood⟩
    have b9 := s9 _ _ b8
    refine ⟨fun σ H10 => ∃ pw ws HB, σ = [some (.ref a), some (.ref b), some (.str kind), some (.bl rt), some (.str sty), some (.ref cd), some (.int n), some (.int (3 * n - 4)), some (.int n), some (.int own), some (.int one), some (.int two), some (.ref pr), some (.ref pw), none, none, none] ∧ Same H9 HB ∧ Same HB H10 ∧ HB pw = none ∧ H10 pw = some (.lst ws) ∧ ws.length = 8 ∧ ∀ v ∈ ws, Tho pr b (decide (kind = "under")) rt false HB v, ?_, ?_⟩
    · have prS := Same.refl H9
      have prH := hpr9
      have bS := s9
      refine ⟨_, rfl, pr, _, 0, .ref t1, rfl, rfl, SqL.of hpr9, atH, t1, _, rfl, .inr (SqT.of ht19), fun t101 nt101 => ?_⟩
      generalize et101 : upd _ t101 _ = G101
      obtain ⟨u101, h101⟩ := gen_new et101 nt101
      clear et101
      refine ⟨_, rfl, _, rfl, _, rfl, by show 3 ≤ sizeLine; decide, fun t102 nt102 => ?_⟩
      generalize et102 : upd _ t102 _ = G102
      obtain ⟨u102, h102⟩ := gen_new et102 nt102
      clear et102
      refine ⟨_, rfl, _, rfl, _, rfl, _, rfl, by show 5 ≤ sizeLine; decide, fun t103 nt103 => ?_⟩
      generalize et103 : upd _ t103 _ = G103
      obtain ⟨u103, h103⟩ := gen_new et103 nt103
      clear et103
      refine ⟨by show 0 ≤ sizeLine; decide, fun t107 nt107 => ?_⟩
      generalize et107 : upd _ t107 _ = G107
      obtain ⟨u107, h107⟩ := gen_new et107 nt107
      clear et107
      intro t108 nt108
      refine ⟨_, rfl, upd_same, [(.inr "k", .int n)], rfl, by show 1 ≤ 15; decide, ?_⟩
      rw [upd_upd]
      generalize et108 : upd _ t108 _ = G108
      obtain ⟨u108, h108⟩ := gen_new et108 nt108
      clear et108
      refine ⟨by show 8 ≤ sizeLine; decide, fun pl npl => ?_⟩
      generalize epl : upd _ pl _ = GP
      obtain ⟨upl, hpl⟩ := gen_new epl npl
      clear epl
      exact ⟨pl, _, _, rfl, (u101.trans (u102.trans (u103.trans (u107.trans u108)))), upl, npl, hpl, rfl, (all_cons (.lst ((u102.trans (u103.trans (u107.trans u108))) _ _ h101) (fun z => by rw [z, prS _ _ prH] at nt101; cases nt101) rfl) (all_cons (.tup ((u103.trans (u107.trans u108)) _ _ h102) (all_cons (.int nsm4) (all_cons (.int onesm) (all_cons (.int ownsm) all_nil))) (rfl)) (all_cons (.tup ((u107.trans u108) _ _ h103) (all_cons (.int nsm4) (all_cons (.int onesm) (all_cons (.int ownsm) (all_cons (.int twosm) (all_cons (.non) all_nil))))) (rfl)) (all_cons (.non rfl) (all_cons (.int rfl) (all_cons (.str rfl) (all_cons (.tup (u108 _ _ h107) all_nil (rfl)) (all_cons (.dK (h108) (fun z => by rw [z, ((bS.trans (u101.trans (u102.trans (u103.trans u107))))) _ _ b8] at nt108; cases nt108) rfl) all_nil))))))))⟩
    rintro σ H10 ⟨pw10, ws10, HB10, rfl, sB10, s10w, npw10, hpw10, hwl10, hth10⟩
    refine ⟨fun σ H11 => ∃ pw ws HB, σ = [some (.ref a), some (.ref b), some (.str kind), some (.bl rt), some (.str sty), some (.ref cd), some (.int n), some (.int (3 * n - 4)), some (.int n), some (.int own), some (.int one), some (.int two), some (.ref pr), some (.ref pw), none, none, none] ∧ Same H9 HB ∧ Same HB H11 ∧ HB pw = none ∧ H11 pw = some (.lst ws) ∧ ws.length = 13 ∧ ∀ v ∈ ws, Tho pr b (decide (kind = "under")) rt false HB v, ?_, ?_⟩
    · have prS := sB10.trans s10w
      have prH := hpr9
      have bS := s9.trans prS
      refine ⟨_, rfl, ?_⟩
      refine ⟨by show 4 ≤ sizeLine; decide, fun t201 nt201 => ?_⟩
      generalize et201 : upd _ t201 _ = G201
      obtain ⟨u201, h201⟩ := gen_new et201 nt201
      clear et201
      refine ⟨by show 4 ≤ sizeLine; decide, fun t202 nt202 => ?_⟩
      generalize et202 : upd _ t202 _ = G202
      obtain ⟨u202, h202⟩ := gen_new et202 nt202
      clear et202
      refine ⟨by show 4 ≤ sizeLine; decide, fun t203 nt203 => ?_⟩
      generalize et203 : upd _ t203 _ = G203
      obtain ⟨u203, h203⟩ := gen_new et203 nt203
      clear et203
      refine ⟨_, rfl, _, rfl, _, rfl, _, rfl, _, rfl, by show 4 ≤ sizeLine; decide, fun t204 nt204 => ?_⟩
      generalize et204 : upd _ t204 _ = G204
      obtain ⟨u204, h204⟩ := gen_new et204 nt204
      clear et204
      refine ⟨_, rfl, _, rfl, _, rfl, by show 4 ≤ sizeLine; decide, fun t205 nt205 => ?_⟩
      generalize et205 : upd _ t205 _ = G205
      obtain ⟨u205, h205⟩ := gen_new et205 nt205
      clear et205
      refine ⟨by show 5 ≤ sizeLine; decide, fun pl npl => ?_⟩
      generalize epl : upd _ pl _ = GP
      obtain ⟨upl, hpl⟩ := gen_new epl npl
      clear epl
      refine ⟨pw10, pl, _, _, rfl, rfl, (u201.trans (u202.trans (u203.trans (u204.trans (u205.trans upl))))) _ _ hpw10, hpl, ?_, fun pc npc => ?_⟩
      · rw [hwl10]
        show 8 + 5 ≤ sizeLine
        decide
      exact ⟨pc, _, _, rfl, (sB10.trans (s10w.trans (u201.trans (u202.trans (u203.trans (u204.trans (u205.trans upl))))))), same_new npc, npc, upd_same, by rw [List.length_append, hwl10]; rfl, all_app (fun v hv => (hth10 v hv).same (s10w.trans (u201.trans (u202.trans (u203.trans (u204.trans (u205.trans upl))))))) (all_cons (.tup ((u202.trans (u203.trans (u204.trans (u205.trans upl)))) _ _ h201) (all_cons (.int (by decide)) (all_cons (.non) (all_cons (.int (by decide)) (all_cons (.int (by decide)) all_nil)))) (bad_k (by decide))) (all_cons (.tup ((u203.trans (u204.trans (u205.trans upl))) _ _ h202) (all_cons (.int (by decide)) (all_cons (.int (by decide)) (all_cons (.int (by decide)) (all_cons (.non) all_nil)))) (bad_k (by decide))) (all_cons (.tup ((u204.trans (u205.trans upl)) _ _ h203) (all_cons (.int (by decide)) (all_cons (.int (by decide)) (all_cons (.int (by decide)) (all_cons (.int (by decide)) all_nil)))) (bad_k (by decide))) (all_cons (.tup ((u205.trans upl) _ _ h204) (all_cons (.int (big _ (by omega))) (all_cons (.int onesm) (all_cons (.int ownsm) (all_cons (.int twosm) all_nil)))) (bad_k (by omega))) (all_cons (.tup (upl _ _ h205) (all_cons (.non) (all_cons (.int onesm) (all_cons (.int ownsm) (all_cons (.int twosm) all_nil)))) (bad_0 (fun _ z => by cases z))) all_nil)))))⟩
    rintro σ H11 ⟨pw11, ws11, HB11, rfl, sB11, s11w, npw11, hpw11, hwl11, hth11⟩
    refine ⟨fun σ H12 => ∃ pw ws HB, σ = [some (.ref a), some (.ref b), some (.str kind), some (.bl rt), some (.str sty), some (.ref cd), some (.int n), some (.int (3 * n - 4)), some (.int n), some (.int own), some (.int one), some (.int two), some (.ref pr), some (.ref pw), none, none, none] ∧ Same H9 HB ∧ Same HB H12 ∧ HB pw = none ∧ H12 pw = some (.lst ws) ∧ ws.length = 16 ∧ ∀ v ∈ ws, Tho pr b (decide (kind = "under")) rt false HB v, ?_, ?_⟩
    · have prS := sB11.trans s11w
      have prH := hpr9
      have bS := s9.trans prS
      refine ⟨_, rfl, ?_⟩
      refine ⟨_, rfl, _, rfl, lg n (by omega), _, rfl, _, rfl, _, rfl, by show 4 ≤ sizeLine; decide, fun t301 nt301 => ?_⟩
      generalize et301 : upd _ t301 _ = G301
      obtain ⟨u301, h301⟩ := gen_new et301 nt301
      clear et301
      refine ⟨_, rfl, _, rfl, _, rfl, by show 4 ≤ sizeLine; decide, fun t302 nt302 => ?_⟩
      generalize et302 : upd _ t302 _ = G302
      obtain ⟨u302, h302⟩ := gen_new et302 nt302
      clear et302
      refine ⟨_, rfl, by show 1 ≤ sizeLine; decide, fun l303 nl303 => ?_⟩
      generalize el303 : upd _ l303 _ = GL303
      obtain ⟨ul303, hl303⟩ := gen_new el303 nl303
      clear el303
      refine ⟨_, rfl, _, rfl, _, rfl, by show 4 ≤ sizeLine; decide, fun t303 nt303 => ?_⟩
      generalize et303 : upd _ t303 _ = G303
      obtain ⟨u303, h303⟩ := gen_new et303 nt303
      clear et303
      refine ⟨by show 3 ≤ sizeLine; decide, fun pl npl => ?_⟩
      generalize epl : upd _ pl _ = GP
      obtain ⟨upl, hpl⟩ := gen_new epl npl
      clear epl
      refine ⟨pw11, pl, _, _, rfl, rfl, (u301.trans (u302.trans (ul303.trans (u303.trans upl)))) _ _ hpw11, hpl, ?_, fun pc npc => ?_⟩
      · rw [hwl11]
        show 13 + 3 ≤ sizeLine
        decide
      exact ⟨pc, _, _, rfl, (sB11.trans (s11w.trans (u301.trans (u302.trans (ul303.trans (u303.trans upl)))))), same_new npc, npc, upd_same, by rw [List.length_append, hwl11]; rfl, all_app (fun v hv => (hth11 v hv).same (s11w.trans (u301.trans (u302.trans (ul303.trans (u303.trans upl)))))) (all_cons (.tup ((u302.trans (ul303.trans (u303.trans upl))) _ _ h301) (all_cons (.str) (all_cons (.int onesm) (all_cons (.int ownsm) (all_cons (.int twosm) all_nil)))) (bad_0 (fun _ z => by cases z))) (all_cons (.tup ((ul303.trans (u303.trans upl)) _ _ h302) (all_cons (.bl) (all_cons (.int onesm) (all_cons (.int ownsm) (all_cons (.int twosm) all_nil)))) (bad_0 (fun _ z => by cases z))) (all_cons (.tup (upl _ _ h303) (all_cons (.lst ((u303.trans upl) _ _ hl303) (fun z => by rw [z, ((prS.trans (u301.trans u302))) _ _ prH] at nl303; cases nl303)) (all_cons (.int onesm) (all_cons (.int ownsm) (all_cons (.int twosm) all_nil)))) (bad_0 (fun _ z => by cases z))) all_nil)))⟩
    rintro σ H12 ⟨pw12, ws12, HB12, rfl, sB12, s12w, npw12, hpw12, hwl12, hth12⟩
    refine ⟨fun σ H13 => ∃ pw ws HB, σ = [some (.ref a), some (.ref b), some (.str kind), some (.bl rt), some (.str sty), some (.ref cd), some (.int n), some (.int (3 * n - 4)), some (.int n), some (.int own), some (.int one), some (.int two), some (.ref pr), some (.ref pw), none, none, none] ∧ Same H9 HB ∧ Same HB H13 ∧ HB pw = none ∧ H13 pw = some (.lst ws) ∧ ws.length = 19 ∧ ∀ v ∈ ws, Tho pr b (decide (kind = "under")) rt false HB v, ?_, ?_⟩
    · have prS := sB12.trans s12w
      have prH := hpr9
      have bS := s9.trans prS
      refine ⟨_, rfl, ?_⟩
      refine ⟨_, rfl, _, rfl, _, _, rfl, rfl, _, rfl, _, rfl, by show 4 ≤ sizeLine; decide, fun t401 nt401 => ?_⟩
      generalize et401 : upd _ t401 _ = G401
      obtain ⟨u401, h401⟩ := gen_new et401 nt401
      clear et401
      refine ⟨_, rfl, _, rfl, _, _, rfl, rfl, _, rfl, _, rfl, by show 4 ≤ sizeLine; decide, fun t402 nt402 => ?_⟩
      generalize et402 : upd _ t402 _ = G402
      obtain ⟨u402, h402⟩ := gen_new et402 nt402
      clear et402
      refine ⟨_, rfl, _, rfl, _, rfl, _, rfl, _, _, rfl, rfl, by show 4 ≤ sizeLine; decide, fun t403 nt403 => ?_⟩
      generalize et403 : upd _ t403 _ = G403
      obtain ⟨u403, h403⟩ := gen_new et403 nt403
      clear et403
      refine ⟨by show 3 ≤ sizeLine; decide, fun pl npl => ?_⟩
      generalize epl : upd _ pl _ = GP
      obtain ⟨upl, hpl⟩ := gen_new epl npl
      clear epl
      refine ⟨pw12, pl, _, _, rfl, rfl, (u401.trans (u402.trans (u403.trans upl))) _ _ hpw12, hpl, ?_, fun pc npc => ?_⟩
      · rw [hwl12]
        show 16 + 3 ≤ sizeLine
        decide
      exact ⟨pc, _, _, rfl, (sB12.trans (s12w.trans (u401.trans (u402.trans (u403.trans upl))))), same_new npc, npc, upd_same, by rw [List.length_append, hwl12]; rfl, all_app (fun v hv => (hth12 v hv).same (s12w.trans (u401.trans (u402.trans (u403.trans upl))))) (all_cons (.tup ((u402.trans (u403.trans upl)) _ _ h401) (all_cons (.int nsm4) (all_cons (.int (big _ (by omega))) (all_cons (.int ownsm) (all_cons (.int twosm) all_nil)))) (bad_side ⟨_, List.mem_filter.mpr ⟨List.mem_cons_self, rfl⟩, fit_out (.inl (by omega))⟩)) (all_cons (.tup ((u403.trans upl) _ _ h402) (all_cons (.int nsm4) (all_cons (.int (big _ (by omega))) (all_cons (.int ownsm) (all_cons (.int twosm) all_nil)))) (bad_side ⟨_, List.mem_filter.mpr ⟨List.mem_cons_self, rfl⟩, fit_out (.inr (by omega))⟩)) (all_cons (.tup (upl _ _ h403) (all_cons (.int nsm4) (all_cons (.int onesm) (all_cons (.int ownsm) (all_cons (.int (big _ (by omega))) all_nil)))) (bad_side ⟨_, List.mem_filter.mpr ⟨List.mem_cons_of_mem _ List.mem_cons_self, rfl⟩, fit_out (.inr (by omega))⟩)) all_nil)))⟩
    rintro σ H13 ⟨pw13, ws13, HB13, rfl, sB13, s13w, npw13, hpw13, hwl13, hth13⟩
    refine ⟨fun σ H14 => ∃ pw ws HB, σ = [some (.ref a), some (.ref b), some (.str kind), some (.bl rt), some (.str sty), some (.ref cd), some (.int n), some (.int (3 * n - 4)), some (.int n), some (.int own), some (.int one), some (.int two), some (.ref pr), some (.ref pw), none, none, none] ∧ Same H9 HB ∧ Same HB H14 ∧ HB pw = none ∧ H14 pw = some (.lst ws) ∧ ws.length = 22 ∧ ∀ v ∈ ws, Tho pr b (decide (kind = "under")) rt false HB v, ?_, ?_⟩
    · have prS := sB13.trans s13w
      have prH := hpr9
      have bS := s9.trans prS
      refine ⟨_, rfl, ?_⟩
      refine ⟨_, rfl, _, rfl, _, rfl, _, rfl, _, _, rfl, rfl, by show 4 ≤ sizeLine; decide, fun t501 nt501 => ?_⟩
      generalize et501 : upd _ t501 _ = G501
      obtain ⟨u501, h501⟩ := gen_new et501 nt501
      clear et501
      refine ⟨_, rfl, _, rfl, _, rfl, _, _, rfl, rfl, _, rfl, by show 4 ≤ sizeLine; decide, fun t502 nt502 => ?_⟩
      generalize et502 : upd _ t502 _ = G502
      obtain ⟨u502, h502⟩ := gen_new et502 nt502
      clear et502
      refine ⟨_, rfl, _, rfl, _, rfl, _, _, rfl, rfl, _, rfl, by show 4 ≤ sizeLine; decide, fun t503 nt503 => ?_⟩
      generalize et503 : upd _ t503 _ = G503
      obtain ⟨u503, h503⟩ := gen_new et503 nt503
      clear et503
      refine ⟨by show 3 ≤ sizeLine; decide, fun pl npl => ?_⟩
      generalize epl : upd _ pl _ = GP
      obtain ⟨upl, hpl⟩ := gen_new epl npl
      clear epl
      refine ⟨pw13, pl, _, _, rfl, rfl, (u501.trans (u502.trans (u503.trans upl))) _ _ hpw13, hpl, ?_, fun pc npc => ?_⟩
      · rw [hwl13]
        show 19 + 3 ≤ sizeLine
        decide
      exact ⟨pc, _, _, rfl, (sB13.trans (s13w.trans (u501.trans (u502.trans (u503.trans upl))))), same_new npc, npc, upd_same, by rw [List.length_append, hwl13]; rfl, all_app (fun v hv => (hth13 v hv).same (s13w.trans (u501.trans (u502.trans (u503.trans upl))))) (all_cons (.tup ((u502.trans (u503.trans upl)) _ _ h501) (all_cons (.int nsm4) (all_cons (.int onesm) (all_cons (.int ownsm) (all_cons (.int (big _ (by omega))) all_nil)))) (bad_side ⟨_, List.mem_filter.mpr ⟨List.mem_cons_of_mem _ List.mem_cons_self, rfl⟩, fit_out (.inl (by omega))⟩)) (all_cons (.tup ((u503.trans upl) _ _ h502) (all_cons (.int nsm4) (all_cons (.int onesm) (all_cons (.int (big _ (by omega))) (all_cons (.int twosm) all_nil)))) (bad_own (by rw [hown]; exact fun z => by have := V.int.inj z; omega))) (all_cons (.tup (upl _ _ h503) (all_cons (.int nsm4) (all_cons (.int onesm) (all_cons (.int (big _ (by omega))) (all_cons (.int twosm) all_nil)))) (bad_own (by rw [hown]; exact fun z => by have := V.int.inj z; omega))) all_nil)))⟩
    rintro σ H14 ⟨pw14, ws14, HB14, rfl, sB14, s14w, npw14, hpw14, hwl14, hth14⟩
    refine ⟨fun σ H15 => ∃ pw ws HB, σ = [some (.ref a), some (.ref b), some (.str kind), some (.bl rt), some (.str sty), some (.ref cd), some (.int n), some (.int (3 * n - 4)), some (.int n), some (.int own), some (.int one), some (.int two), some (.ref pr), some (.ref pw), none, none, none] ∧ Same H9 HB ∧ Same HB H15 ∧ HB pw = none ∧ H15 pw = some (.lst ws) ∧ ws.length = 25 ∧ ∀ v ∈ ws, Tho pr b (decide (kind = "under")) rt false HB v, ?_, ?_⟩
    · have prS := sB14.trans s14w
      have prH := hpr9
      have bS := s9.trans prS
      refine ⟨_, rfl, ?_⟩
      refine ⟨_, rfl, _, rfl, _, rfl, by show 4 ≤ sizeLine; decide, fun t601 nt601 => ?_⟩
      generalize et601 : upd _ t601 _ = G601
      obtain ⟨u601, h601⟩ := gen_new et601 nt601
      clear et601
      refine ⟨_, rfl, _, rfl, _, rfl, _, rfl, lg own own23, _, rfl, by show 4 ≤ sizeLine; decide, fun t602 nt602 => ?_⟩
      generalize et602 : upd _ t602 _ = G602
      obtain ⟨u602, h602⟩ := gen_new et602 nt602
      clear et602
      refine ⟨_, rfl, _, rfl, _, rfl, by show 4 ≤ sizeLine; decide, fun t603 nt603 => ?_⟩
      generalize et603 : upd _ t603 _ = G603
      obtain ⟨u603, h603⟩ := gen_new et603 nt603
      clear et603
      refine ⟨by show 3 ≤ sizeLine; decide, fun pl npl => ?_⟩
      generalize epl : upd _ pl _ = GP
      obtain ⟨upl, hpl⟩ := gen_new epl npl
      clear epl
      refine ⟨pw14, pl, _, _, rfl, rfl, (u601.trans (u602.trans (u603.trans upl))) _ _ hpw14, hpl, ?_, fun pc npc => ?_⟩
      · rw [hwl14]
        show 22 + 3 ≤ sizeLine
        decide
      exact ⟨pc, _, _, rfl, (sB14.trans (s14w.trans (u601.trans (u602.trans (u603.trans upl))))), same_new npc, npc, upd_same, by rw [List.length_append, hwl14]; rfl, all_app (fun v hv => (hth14 v hv).same (s14w.trans (u601.trans (u602.trans (u603.trans upl))))) (all_cons (.tup ((u602.trans (u603.trans upl)) _ _ h601) (all_cons (.int nsm4) (all_cons (.int onesm) (all_cons (.non) (all_cons (.int twosm) all_nil)))) (bad_own (fun z => by cases z))) (all_cons (.tup ((u603.trans upl) _ _ h602) (all_cons (.int nsm4) (all_cons (.int onesm) (all_cons (.str) (all_cons (.int twosm) all_nil)))) (bad_own (fun z => by cases z))) (all_cons (.tup (upl _ _ h603) (all_cons (.int nsm4) (all_cons (.str) (all_cons (.int ownsm) (all_cons (.int twosm) all_nil)))) (bad_side ⟨_, List.mem_filter.mpr ⟨List.mem_cons_self, rfl⟩, rfl⟩)) all_nil)))⟩
    rintro σ H15 ⟨pw15, ws15, HB15, rfl, sB15, s15w, npw15, hpw15, hwl15, hth15⟩
    refine ⟨fun σ H16 => ∃ pw ws HB, σ = [some (.ref a), some (.ref b), some (.str kind), some (.bl rt), some (.str sty), some (.ref cd), some (.int n), some (.int (3 * n - 4)), some (.int n), some (.int own), some (.int one), some (.int two), some (.ref pr), some (.ref pw), none, none, none] ∧ Same H9 HB ∧ Same HB H16 ∧ HB pw = none ∧ H16 pw = some (.lst ws) ∧ ws.length = 26 ∧ ∀ v ∈ ws, Tho pr b (decide (kind = "under")) rt false HB v, ?_, ?_⟩
    · have prS := sB15.trans s15w
      have prH := hpr9
      have bS := s9.trans prS
      refine ⟨_, rfl, ?_⟩
      refine ⟨_, rfl, _, rfl, _, rfl, _, rfl, by show 1 ≤ sizeLine; decide, fun l701 nl701 => ?_⟩
      generalize el701 : upd _ l701 _ = GL701
      obtain ⟨ul701, hl701⟩ := gen_new el701 nl701
      clear el701
      refine ⟨by show 4 ≤ sizeLine; decide, fun t701 nt701 => ?_⟩
      generalize et701 : upd _ t701 _ = G701
      obtain ⟨u701, h701⟩ := gen_new et701 nt701
      clear et701
      refine ⟨by show 1 ≤ sizeLine; decide, fun pl npl => ?_⟩
      generalize epl : upd _ pl _ = GP
      obtain ⟨upl, hpl⟩ := gen_new epl npl
      clear epl
      refine ⟨pw15, pl, _, _, rfl, rfl, (ul701.trans (u701.trans upl)) _ _ hpw15, hpl, ?_, fun pc npc => ?_⟩
      · rw [hwl15]
        show 25 + 1 ≤ sizeLine
        decide
      exact ⟨pc, _, _, rfl, (sB15.trans (s15w.trans (ul701.trans (u701.trans upl)))), same_new npc, npc, upd_same, by rw [List.length_append, hwl15]; rfl, all_app (fun v hv => (hth15 v hv).same (s15w.trans (ul701.trans (u701.trans upl)))) (all_cons (.tup (upl _ _ h701) (all_cons (.int nsm4) (all_cons (.int onesm) (all_cons (.int ownsm) (all_cons (.lst ((u701.trans upl) _ _ hl701) (fun z => by rw [z, prS _ _ prH] at nl701; cases nl701)) all_nil)))) (bad_side ⟨_, List.mem_filter.mpr ⟨List.mem_cons_of_mem _ List.mem_cons_self, rfl⟩, rfl⟩)) all_nil)⟩
    rintro σ H16 ⟨pw16, ws16, HB16, rfl, sB16, s16w, npw16, hpw16, hwl16, hth16⟩
    refine ⟨fun σ H17 => ∃ pw ws HB, σ = [some (.ref a), some (.ref b), some (.str kind), some (.bl rt), some (.str sty), some (.ref cd), some (.int n), some (.int (3 * n - 4)), some (.int n), some (.int own), some (.int one), some (.int two), some (.ref pr), some (.ref pw), none, none, none] ∧ Same H9 HB ∧ Same HB H17 ∧ HB pw = none ∧ H17 pw = some (.lst ws) ∧ ws.length = 29 ∧ ∀ v ∈ ws, Tho pr b (decide (kind = "under")) rt false HB v, ?_, ?_⟩
    · have prS := sB16.trans s16w
      have prH := hpr9
      have bS := s9.trans prS
      refine ⟨_, rfl, ?_⟩
      refine ⟨_, rfl, _, rfl, _, rfl, _, rfl, by show 4 ≤ sizeLine; decide, fun t801 nt801 => ?_⟩
      generalize et801 : upd _ t801 _ = G801
      obtain ⟨u801, h801⟩ := gen_new et801 nt801
      clear et801
      refine ⟨_, rfl, _, rfl, _, rfl, _, rfl, by show 4 ≤ sizeLine; decide, fun t802 nt802 => ?_⟩
      generalize et802 : upd _ t802 _ = G802
      obtain ⟨u802, h802⟩ := gen_new et802 nt802
      clear et802
      refine ⟨_, rfl, _, rfl, _, rfl, by show 4 ≤ sizeLine; decide, fun t803 nt803 => ?_⟩
      generalize et803 : upd _ t803 _ = G803
      obtain ⟨u803, h803⟩ := gen_new et803 nt803
      clear et803
      refine ⟨by show 3 ≤ sizeLine; decide, fun pl npl => ?_⟩
      generalize epl : upd _ pl _ = GP
      obtain ⟨upl, hpl⟩ := gen_new epl npl
      clear epl
      refine ⟨pw16, pl, _, _, rfl, rfl, (u801.trans (u802.trans (u803.trans upl))) _ _ hpw16, hpl, ?_, fun pc npc => ?_⟩
      · rw [hwl16]
        show 26 + 3 ≤ sizeLine
        decide
      exact ⟨pc, _, _, rfl, (sB16.trans (s16w.trans (u801.trans (u802.trans (u803.trans upl))))), same_new npc, npc, upd_same, by rw [List.length_append, hwl16]; rfl, all_app (fun v hv => (hth16 v hv).same (s16w.trans (u801.trans (u802.trans (u803.trans upl))))) (all_cons (.tup ((u802.trans (u803.trans upl)) _ _ h801) (all_cons (.int nsm4) (all_cons (.int onesm) (all_cons (.int (big _ (by omega))) (all_cons (.int twosm) all_nil)))) (bad_own (by rw [hown]; exact fun z => by have := V.int.inj z; omega))) (all_cons (.tup ((u803.trans upl) _ _ h802) (all_cons (.int nsm4) (all_cons (.int onesm) (all_cons (.int nsm4) (all_cons (.int twosm) all_nil)))) (bad_own (by rw [hown]; exact fun z => by have := V.int.inj z; omega))) (all_cons (.tup (upl _ _ h803) (all_cons (.int nsm4) (all_cons (.bl) (all_cons (.int ownsm) (all_cons (.int twosm) all_nil)))) (bad_side ⟨_, List.mem_filter.mpr ⟨List.mem_cons_self, rfl⟩, rfl⟩)) all_nil)))⟩
    rintro σ H17 ⟨pw17, ws17, HB17, rfl, sB17, s17w, npw17, hpw17, hwl17, hth17⟩
    have hwl : ws17.length = 29 := hwl17
    have s917 := sB17.trans s17w
    have npr : pw17 ≠ pr := fun z => by
      have := sB17 _ _ hpr9
      rw [← z, npw17] at this
      cases this
    refine ⟨fun σ H18 => ∃ tl, σ = [some (.ref a), some (.ref b), some (.str kind), some (.bl rt), some (.str sty), some (.ref cd), some (.int n), some (.int (3 * n - 4)), some (.int n), some (.int own), some (.int one), some (.int two), some (.ref pr), some (.ref pw17), some (.ref tl), none, none] ∧ Same H17 H18 ∧ H18 tl = some (.tup [.int n, .non, .int own, .non]), ?_, ?_⟩
    · refine ⟨_, rfl, _, rfl, by show 4 ≤ sizeLine; decide, fun tl ntl => ⟨tl, rfl, same_new ntl, upd_same⟩⟩
    rintro σ H18 ⟨tl, rfl, s18, htl⟩
    have s918 := s917.trans s18
    have hpr18 := s918 _ _ hpr9
    have hpw18 := s18 _ _ hpw17
    have tlw : tl ≠ pw17 := fun z => by
      rw [z, hpw18] at htl
      cases htl
    have tlr : tl ≠ pr := fun z => by
      rw [z, hpr18] at htl
      cases htl
    have elone : ∀ {HX : Hp}, ∀ v ∈ [V.int n, .non, .int own, .non], Elo pr HX v := all_cons (.int nsm4) (all_cons .non (all_cons (.int ownsm) (all_cons .non all_nil)))
    refine ⟨fun σ H19 => ∃ rs2 ws2, σ = [some (.ref a), some (.ref b), some (.str kind), some (.bl rt), some (.str sty), some (.ref cd), some (.int n), some (.int (3 * n - 4)), some (.int n), some (.int own), some (.int one), some (.int two), some (.ref pr), some (.ref pw17), some (.ref tl), none, none] ∧ Same H8 H19 ∧ H19 pr = some (.lst rs2) ∧ H19 pw17 = some (.lst ws2) ∧ rs2.length ≤ 10 ∧ 1 ≤ ws2.length ∧ ws2.length ≤ 100 ∧ (∀ v ∈ rs2, Tho pr b (decide (kind = "under")) rt true H19 v) ∧ ∀ v ∈ ws2, Tho pr b (decide (kind = "under")) rt false H19 v, ?_, ?_⟩
    · have toR : kind = "over" → rt = true → ∃ rs2 ws2, ([some (.ref a), some (.ref b), some (.str kind), some (.bl rt), some (.str sty), some (.ref cd), some (.int n), some (.int (3 * n - 4)), some (.int n), some (.int own), some (.int one), some (.int two), some (.ref pr), some (.ref pw17), some (.ref tl), none, none] : List (Option V)) = [some (.ref a), some (.ref b), some (.str kind), some (.bl rt), some (.str sty), some (.ref cd), some (.int n), some (.int (3 * n - 4)), some (.int n), some (.int own), some (.int one), some (.int two), some (.ref pr), some (.ref pw17), some (.ref tl), none, none] ∧ Same H8 (upd H18 pr (.lst ((.ref t1 :: rs) ++ [.ref tl]))) ∧ (upd H18 pr (.lst ((.ref t1 :: rs) ++ [.ref tl]))) pr = some (.lst rs2) ∧ (upd H18 pr (.lst ((.ref t1 :: rs) ++ [.ref tl]))) pw17 = some (.lst ws2) ∧ rs2.length ≤ 10 ∧ 1 ≤ ws2.length ∧ ws2.length ≤ 100 ∧ (∀ v ∈ rs2, Tho pr b (decide (kind = "under")) rt true (upd H18 pr (.lst ((.ref t1 :: rs) ++ [.ref tl]))) v) ∧ ∀ v ∈ ws2, Tho pr b (decide (kind = "under")) rt false (upd H18 pr (.lst ((.ref t1 :: rs) ++ [.ref tl]))) v := fun ek er => by
        have kS : KeepS [b, pr] H18 (upd H18 pr (.lst ((.ref t1 :: rs) ++ [.ref tl]))) := keepS_upd (by simp)
        have b18 := s918 _ _ b9
        have hnt : ∀ xs, H18 pr ≠ some (.tup xs) := fun xs z => by
          rw [hpr18] at z
          cases z
        have hnd : ∀ xs, H18 pr ≠ some (.dK xs) := fun xs z => by
          rw [hpr18] at z
          cases z
        refine ⟨_, _, rfl, fun u o e => ?_, upd_same, (upd_ne npr).trans hpw18, ?_, ?_, ?_, ?_, ?_⟩
        · rw [upd_ne (fun z => by rw [z, npr8] at e; cases e)]
          exact s918 _ _ (s9 _ _ e)
        · rw [List.length_append, List.length_cons, hrs]
          show 2 + 1 + 1 ≤ 10
          decide
        · omega
        · omega
        · refine all_app (fun v hv => ((hgood v hv).same s918).keep (rs := []) b18 hnt hnd kS) (all_cons (.tup ((upd_ne tlr).trans htl) elone ?_) all_nil)
          subst ek er
          exact good_case n2 (by rw [hown]) all_nil rfl
        · exact fun v hv => ((hth17 v hv).same (s17w.trans s18)).keep (rs := []) b18 hnt hnd kS
      have toW : ((decide (kind = "under")) || !rt) = true → ∃ rs2 ws2, ([some (.ref a), some (.ref b), some (.str kind), some (.bl rt), some (.str sty), some (.ref cd), some (.int n), some (.int (3 * n - 4)), some (.int n), some (.int own), some (.int one), some (.int two), some (.ref pr), some (.ref pw17), some (.ref tl), none, none] : List (Option V)) = [some (.ref a), some (.ref b), some (.str kind), some (.bl rt), some (.str sty), some (.ref cd), some (.int n), some (.int (3 * n - 4)), some (.int n), some (.int own), some (.int one), some (.int two), some (.ref pr), some (.ref pw17), some (.ref tl), none, none] ∧ Same H8 (upd H18 pw17 (.lst (ws17 ++ [.ref tl]))) ∧ (upd H18 pw17 (.lst (ws17 ++ [.ref tl]))) pr = some (.lst rs2) ∧ (upd H18 pw17 (.lst (ws17 ++ [.ref tl]))) pw17 = some (.lst ws2) ∧ rs2.length ≤ 10 ∧ 1 ≤ ws2.length ∧ ws2.length ≤ 100 ∧ (∀ v ∈ rs2, Tho pr b (decide (kind = "under")) rt true (upd H18 pw17 (.lst (ws17 ++ [.ref tl]))) v) ∧ ∀ v ∈ ws2, Tho pr b (decide (kind = "under")) rt false (upd H18 pw17 (.lst (ws17 ++ [.ref tl]))) v := fun eu => by
        have sBX : Same HB17 (upd H18 pw17 (.lst (ws17 ++ [.ref tl]))) := fun u o e => by
          rw [upd_ne (fun z => by rw [z, npw17] at e; cases e)]
          exact s18 _ _ (s17w _ _ e)
        have s9X := sB17.trans sBX
        refine ⟨_, _, rfl, s9.trans s9X, s9X _ _ hpr9, upd_same, ?_, ?_, ?_, fun v hv => (hgood v hv).same s9X, ?_⟩
        · rw [List.length_cons, hrs]
          decide
        · rw [List.length_append]
          omega
        · rw [List.length_append, hwl]
          show 29 + 1 ≤ 100
          decide
        · exact all_app (fun v hv => (hth17 v hv).same sBX) (all_cons (.tup ((upd_ne tlw).trans htl) elone (bad_lone eu)) all_nil)
      have appW : ((decide (kind = "under")) || !rt) = true → _ := toW
      refine ⟨_, rfl, rfl, _, rfl, ite2 (fun e => ?_) fun e => ?_⟩
      · have ek : kind = "over" := V.str.inj (of_decide_eq_true e)
        refine ⟨_, rfl, _, rfl, ?_⟩
        by_cases er : rt = true
        · refine tt' er ⟨_, rfl, .inl ⟨rfl, _, SqL.of hpr18⟩, _, rfl, pr, _, .ref tl, rfl, rfl, hpr18, ?_, toR ek er⟩
          rw [List.length_cons, hrs]
          decide
        · refine ff' (Bool.eq_false_iff.mpr er) ⟨_, rfl, .inl ⟨rfl, _, SqL.of hpw18⟩, _, rfl, pw17, _, .ref tl, rfl, rfl, hpw18, ?_, toW ?_⟩
          · rw [hwl]
            decide
          · rw [Bool.eq_false_iff.mpr er, Bool.or_comm]
            rfl
      · have ek : kind = "under" := by
          rcases List.mem_cons.mp hkind with z | z
          · exact absurd (by rw [z]; rfl) e
          · exact List.mem_singleton.mp z
        refine ⟨_, rfl, .inl ⟨rfl, _, SqL.of hpw18⟩, _, rfl, pw17, _, .ref tl, rfl, rfl, hpw18, ?_, toW ?_⟩
        · rw [hwl]
          decide
        · rw [ek]
          rfl
    rintro σ H19 ⟨rs2, ws2, rfl, s819, hpr, hpw, hrl, hw1, hw2, hR, hW⟩
    clear s917 s918 hth17 hgood s17w sB17 hpr18 hpw18
    refine ⟨fun σ H20 => σ = [some (.ref a), some (.ref b), some (.str kind), some (.bl rt), some (.str sty), some (.ref cd), some (.int n), some (.int (3 * n - 4)), some (.int n), some (.int own), some (.int one), some (.int two), some (.ref pr), some (.ref pw17), some (.ref tl), none, none] ∧ Same H19 H20, ?_, ?_⟩
    · refine ⟨_, rfl, sty, rfl, hsty, fun H20 s20 => ⟨_, rfl, ff ⟨rfl, s20⟩⟩⟩
    rintro σ H20 ⟨rfl, s20⟩
    have sX := s819.trans s20
    have bX := sX _ _ b8
    have cX := sX _ _ c8
    have CX := C8.same sX
    have rX := s20 _ _ hpr
    have wX := s20 _ _ hpw
    have hRX := fun v hv => (hR v hv).same s20
    have hWX := fun v hv => (hW v hv).same s20
    have ntX : ∀ xs, H20 pr ≠ some (.tup xs) := fun xs z => by
      rw [rX] at z
      cases z
    have ndX : ∀ xs, H20 pr ≠ some (.dK xs) := fun xs z => by
      rw [rX] at z
      cases z
    have cbX : c ≠ b := fun z => by
      rw [z, bX] at cX
      cases cX
    have rbX : pr ≠ b := fun z => by
      rw [z, bX] at rX
      cases rX
    have wbX : pw17 ≠ b := fun z => by
      rw [z, bX] at wX
      cases wX
    have kS : ∀ {HX : Hp}, KeepB b H20 HX → KeepS [b, pr] H20 HX := fun k u o m e => k u o (fun z => m (by rw [z]; simp)) e
    have told : ∀ {HX : Hp} {Q1 : VK} {E1 : XK} {want : Bool} (v : V), KeepB b H20 HX → Tho pr b (decide (kind = "under")) rt want H20 v → (want = false → ∀ p H', SameIt v → Same HX H' → H' p = some (.tup [.str "case", v]) → Q1 (.ref p) H') → (want = true → ∀ H', Same HX H' → Q1 (.str "done") H') → spTold6 K C RC [.ref cd, v] HX Q1 E1 := fun {HX} {Q1} {E1} {want} v k th q0 q1 => by
      obtain ⟨⟨x1, x2, R⟩, rows, dc, ls, ra, tb, rr, fr, CA, h3, _⟩ := CX.keepB bX k
      obtain ⟨o, cv, sm, cw, si⟩ := (th.keep (rs := []) bX ntX ndX (kS k)).case (K := K)
      have e1 : lineM x1 = LA := by
        obtain ⟨_, _, _, _, _, _, _, h2, _⟩ := R
        exact shL_eq l3k h2
      have e2 : lineM x2 = LB := by
        obtain ⟨_, _, _, _, _, _, _, _, h3, _⟩ := R
        exact shL_eq l1k h3
      have ec : caseM x1 x2 (decide (kind = "under")) rt o = want := (case_lines e1 e2 _ _ _).trans cw
      refine ⟨cd, v, o, kind, t, r, ⟨sty, "3 * k - 4", "k", rt⟩, x1, x2, rows, dc, ls, ra, tb, rr, fr, rfl, CA, h3, hkind, R, cv, sm, fun hc p H' s' hp' => ?_, fun hc H' s' => ?_⟩
      · exact q0 (ec.symm.trans hc) p H' si s' hp'
      · exact q1 (ec.symm.trans hc) H' s'
    refine ⟨fun σ H21 => (∃ v15 v16, σ = [some (.ref a), some (.ref b), some (.str kind), some (.bl rt), some (.str sty), some (.ref cd), some (.int n), some (.int (3 * n - 4)), some (.int n), some (.int own), some (.int one), some (.int two), some (.ref pr), some (.ref pw17), some (.ref tl), v15, v16]) ∧ KeepB b H20 H21, ?_, ?_⟩
    · refine ⟨6, rfl, by decide, by decide, for_range (lo := 0) (n := 6) (fun i σ H' => ∃ v15 v16 kvs, σ = [some (.ref a), some (.ref b), some (.str kind), some (.bl rt), some (.str sty), some (.ref cd), some (.int n), some (.int (3 * n - 4)), some (.int n), some (.int own), some (.int one), some (.int two), some (.ref pr), some (.ref pw17), some (.ref tl), v15, v16] ∧ KeepB b H20 H' ∧ H' b = some (.dK kvs) ∧ BagO c ns.length (8 + i) (.dK kvs)) ⟨none, none, kv8, rfl, KeepB.refl, bX, (by rw [show (8 : Int) + ((0 : Nat) : Int) = 8 from rfl]; exact B8)⟩ ?_ ?_⟩
      · rintro i σ H' hi ⟨v15, v16, kvs, rfl, kk, hb', hB'⟩
        have hw' := kk _ _ wbX wX
        refine ⟨_, rfl, _, rfl, _, rfl, pw17, ws2, rfl, .inl (SqL.of hw'), b, c, ns, (ws2.length : Nat), 8 + i, _, rfl, by omega, Int.le_trans (show (ws2.length : Int) ≤ 100 by omega) (by decide), hb', hB', by omega, kk _ _ cbX cX, fun r1 o1 r10 r11 hB1 => ?_⟩
        obtain ⟨kv1, rfl⟩ := hB1.dict
        have k1 : KeepB b H20 (upd H' b (.dK kv1)) := kk.trans KeepB.upd
        have b1' := at_upd (H := H') (a := b) (o := .dK kv1)
        generalize upd H' b _ = HX at k1 b1' ⊢
        obtain ⟨j, rfl⟩ := Int.eq_ofNat_of_zero_le r10
        have hj : j < ws2.length := by omega
        have hv : ws2[j]? = some ws2[j] := List.getElem?_eq_getElem hj
        have th := hWX _ (List.getElem_mem hj)
        refine ⟨pw17, ws2, _, ws2[j], rfl, rfl, SqL.of (k1 _ _ wbX wX), atI_nat hv, ?_⟩
        generalize ws2[j] = v at th
        refine ⟨_, rfl, _, rfl, ?_⟩
        dsimp only [tC, tCons, tNil]
        refine told v k1 th (fun _ p H2 si s2 hp2 => ?_) fun z => by cases z
        refine ⟨_, rfl, by show 2 ≤ sizeLine; decide, fun t2 n2 => ?_⟩
        have s3 := same_new (o := .tup [.str "case", v]) n2
        refine .inr ⟨p, t2, [.str "case", v], rfl, rfl, SqT.of (s3 _ _ hp2), SqT.of upd_same, all_cons (.inl rfl) (all_cons si all_nil), false, rfl, ff ⟨_, _, kv1, rfl, k1.trans (s2.trans s3).keepB, (s2.trans s3) _ _ b1', ?_⟩⟩
        have e : (8 : Int) + (i + 1 : Nat) = 8 + (i : Int) + 1 := by omega
        rw [e]
        exact hB1
      · rintro σ H' ⟨v15, v16, kvs, rfl, kk, _, _⟩
        exact ⟨⟨_, _, rfl⟩, kk⟩
    rintro σ H21 ⟨⟨v15, v16, rfl⟩, kk⟩
    have r21 := kk _ _ rbX rX
    refine ⟨_, rfl, pr, rfl, ⟨_, SqL.of r21⟩, fun D hD => lc_list (K := K) (a := pr) (xs := rs2) (fun i H' => Same H21 H' ∧ H' D = some (.lst [])) ⟨same_new hD, upd_same⟩ (fun i H' _ h => SqL.of (h.1 _ _ r21)) ?_ ?_⟩
    · intro i v H' hi ⟨sp, hD'⟩
      have th := hRX v (List.mem_of_getElem? hi)
      refine ⟨rfl, ?_⟩
      refine ⟨_, rfl, _, rfl, ?_⟩
      dsimp only [tC, tCons, tNil]
      refine told v (kk.trans sp.keepB) th (fun z => by cases z) fun _ H2 s2 => ?_
      exact .inl (done_ne ⟨false, rfl, ff ⟨sp.trans s2, s2 _ _ hD'⟩⟩)
    · intro H' ⟨sp, hD'⟩
      refine ⟨by show 0 ≤ sizeLine; decide, fun l nl => ?_⟩
      have s2 := same_new (o := .lst []) nl
      refine ⟨.list [], .list [], .lst (SqL.of (s2 _ _ hD')) .nil, .lst (SqL.of upd_same) .nil, by decide +kernel, by decide +kernel, ?_⟩
      have e : PyData.eqv (.list []) (.list []) = true := by decide +kernel
      rw [e]
      exact q _
end
end Pk
namespace Pk
open L2 PyProof.Rows PySem.Spec PySem
section
variable {K : PySem.W.Frag} {P : Program} {w : World} {base : Heap} {mg : Str → Option Value} {C fI : Addr}
/-- rows within rows, as deep as asked -/
theorem ok_reader_rows {fS fP fW fD : Addr} {fdS fdP fdW fdD : FuncData} (FS : FunD K "read_rows" "Reader.read_rows" (defArgs sRows) (defBody sRows) (defScope sRows) [] [] fS fdS) (FW : FunD K "read_row" "Reader.read_row" (defArgs sRow) (defBody sRow) (defScope sRow) [] [] fW fdW) (RD : ReaderC K mg C fI)
    (FP : FunD K "read_parts" "Reader.read_parts" (defArgs sParts) (defBody sParts) (defScope sParts) [] [] fP fdP) (FD : FunD K "deed" "Reader.deed" (defArgs sDeed) (defBody sDeed) (defScope sDeed) [] [] fD fdD) (GP : FnOk P w K mg base (L2.CX P w) 5 fP fdP ["self", "words"] (spParts K C)) (GD : FnOk P w K mg base CX0 5 fD fdD ["self", "words"] (spDeed K C deedM))
    (mP : Meth K C "read_parts" fP) (mS : Meth K C "read_rows" fS) (mW : Meth K C "read_row" fW) (mD : Meth K C "deed" fD) (mLen : mg "len" = none) (ER : Errs P K mg) : ∀ n, FnOk P w K mg base (L2.CX P w) (6 + 2 * n) fS fdS ["self", "inner"] (spRows K C n) := by
  intro n
  induction n with
  | zero =>
    refine FS.ok sc_Reader_read_rows (fun vs H Q E h => ?_) (fun cdv A outer s H vs Q E hr h => ?_)
    · obtain ⟨r, dx, tl, all, line, ls, inner, rfl, _⟩ := h
      rfl
    · obtain ⟨r, dx, tl, all, line, ls, inner, rfl, _, hn, _⟩ := h
      exact absurd hn (Nat.not_lt_zero _)
  | succ n ih =>
    have a := ok_Reader_read_row n FW RD FP FS FD GP GD ih mP mS mD mLen ER
    have e : 6 + 2 * n + 1 = 7 + 2 * n := by omega
    rw [e] at a
    have b := ok_Reader_read_rows n FS RD FW a mW mLen ER
    have e2 : 7 + 2 * n + 1 = 6 + 2 * (n + 1) := by omega
    rw [e2] at b
    exact b
end
end Pk
namespace Pk
open L2 PyProof.Rows PySem.Spec PySem
/-! ### facts of the classes -/
theorem excB_ok {K : PySem.W.Frag} {D : Addr} (h : excB K D = true) : ExcC K D := by
  unfold excB at h
  obtain ⟨h1, h⟩ := He.ba h
  obtain ⟨h2, h⟩ := He.ba h
  obtain ⟨h3, h⟩ := He.ba h
  obtain ⟨h4, h⟩ := He.ba h
  obtain ⟨h5, h⟩ := He.ba h
  obtain ⟨h6, h⟩ := He.ba h
  obtain ⟨h7, h8⟩ := He.ba h
  exact ⟨He.eqO_ok h1, He.eqO_ok h2, of_decide_eq_true h3, h4, He.eqO_ok h5, He.eqO_ok h6, of_decide_eq_true h7, of_decide_eq_true h8⟩
theorem caseB_ok {K : PySem.W.Frag} (h : caseB K = true) : CaseF K := by
  unfold caseB at h
  obtain ⟨h1, h⟩ := He.ba h
  obtain ⟨h2, h3⟩ := He.ba h
  exact ⟨of_decide_eq_true h1, of_decide_eq_true h2, excB_ok h3⟩
end Pk
namespace Pk
open L2 PyProof.Rows PySem.Spec PySem
theorem facts {w : World} {K : PySem.W.Frag} {h : Heap} {mg : Str → Option Value} {f : Addr} (X : K.In h) (G : h.Ns mainGlobals mg) (hfa : mg ("law" : Str) = some (.ref f)) (c : Hx.SaysX faL fbL fnL K) :
    ∃ fd : FuncData, (∀ (s : Shared) (v : Value), BindsTo s fd ⟨[v], []⟩ [("_law_script", v)]) ∧ ∀ base : Heap, K.In base → base.Ns mainGlobals mg → FnOk progOf w K mg base CX0 94 f fd ["_law_script"] (spLaw1 K) := by
  obtain ⟨fd_law_draw, F_law_draw⟩ := c.def_ 8 (x := "_law_draw") (p := ("_law_draw", none)) (qual := "_law_draw") (st := sDraw) (dfl := [])
  obtain ⟨fd_law_bag, F_law_bag⟩ := c.def_ 9 (x := "_law_bag") (p := ("_law_bag", none)) (qual := "_law_bag") (st := sBag) (dfl := [])
  obtain ⟨fdnumber_of, Fnumber_of⟩ := c.def_ 10 (x := "number_of") (p := ("number_of", none)) (qual := "number_of") (st := sNum) (dfl := [])
  obtain ⟨fdterm_of, Fterm_of⟩ := c.def_ 11 (x := "term_of") (p := ("term_of", none)) (qual := "term_of") (st := sTerm) (dfl := [])
  obtain ⟨fdsum_of, Fsum_of⟩ := c.def_ 12 (x := "sum_of") (p := ("sum_of", none)) (qual := "sum_of") (st := sSumOf) (dfl := [])
  obtain ⟨fddivided, Fdivided⟩ := c.def_ 13 (x := "divided") (p := ("divided", none)) (qual := "divided") (st := sDiv) (dfl := [])
  obtain ⟨fdis_whole_rules, Fis_whole_rules⟩ := c.def_ 14 (x := "is_whole") (p := ("is_whole_rules", none)) (qual := "is_whole") (st := sWhole) (dfl := [])
  obtain ⟨fdshare_at, Fshare_at⟩ := c.def_ 15 (x := "share_at") (p := ("share_at", none)) (qual := "share_at") (st := sShareAt) (dfl := [])
  obtain ⟨fdneed_capacity, Fneed_capacity⟩ := c.def_ 16 (x := "need_capacity") (p := ("need_capacity", none)) (qual := "need_capacity") (st := sNeed) (dfl := [])
  obtain ⟨fdread_share, Fread_share⟩ := c.def_ 17 (x := "read_share") (p := ("read_share", none)) (qual := "read_share") (st := sShare) (dfl := [])
  obtain ⟨fdline_of, Fline_of⟩ := c.def_ 18 (x := "line_of") (p := ("line_of", none)) (qual := "line_of") (st := sLine) (dfl := [])
  obtain ⟨fdRulesU_initU, FRulesU_initU⟩ := c.def_ 19 (x := "__init__") (p := ("Rules", some "__init__")) (qual := "Rules.__init__") (st := sRI) (dfl := [.bl true])
  obtain ⟨fdRules_bounds, FRules_bounds⟩ := c.def_ 20 (x := "bounds") (p := ("Rules", some "bounds")) (qual := "Rules.bounds") (st := sBounds) (dfl := [])
  obtain ⟨fdRules_in_use, FRules_in_use⟩ := c.def_ 21 (x := "in_use") (p := ("Rules", some "in_use")) (qual := "Rules.in_use") (st := sInUse) (dfl := [])
  obtain ⟨fdside_of, Fside_of⟩ := c.def_ 22 (x := "side_of") (p := ("side_of", none)) (qual := "side_of") (st := sSide) (dfl := [])
  obtain ⟨fdReader_moving, FReader_moving⟩ := c.def_ 23 (x := "moving") (p := ("Reader", some "moving")) (qual := "Reader.moving") (st := sMoving) (dfl := [])
  obtain ⟨fdReader_deed, FReader_deed⟩ := c.def_ 24 (x := "deed") (p := ("Reader", some "deed")) (qual := "Reader.deed") (st := sDeed) (dfl := [])
  obtain ⟨fdReader_part, FReader_part⟩ := c.def_ 25 (x := "part") (p := ("Reader", some "part")) (qual := "Reader.part") (st := sPart) (dfl := [])
  obtain ⟨fdReader_read_parts, FReader_read_parts⟩ := c.def_ 26 (x := "read_parts") (p := ("Reader", some "read_parts")) (qual := "Reader.read_parts") (st := sParts) (dfl := [])
  obtain ⟨fdReader_read_rows, FReader_read_rows⟩ := c.def_ 27 (x := "read_rows") (p := ("Reader", some "read_rows")) (qual := "Reader.read_rows") (st := sRows) (dfl := [])
  obtain ⟨fdReader_read_row, FReader_read_row⟩ := c.def_ 28 (x := "read_row") (p := ("Reader", some "read_row")) (qual := "Reader.read_row") (st := sRow) (dfl := [])
  obtain ⟨fdReaderU_initU, FReaderU_initU⟩ := c.def_ 29 (x := "__init__") (p := ("Reader", some "__init__")) (qual := "Reader.__init__") (st := sRdI) (dfl := [])
  obtain ⟨fdread, Fread⟩ := c.def_ 30 (x := "read") (p := ("read", none)) (qual := "read") (st := sRead) (dfl := [])
  obtain ⟨fdcount_ifs, Fcount_ifs⟩ := c.def_ 31 (x := "count_ifs") (p := ("count_ifs", none)) (qual := "count_ifs") (st := sCount) (dfl := [])
  obtain ⟨fdmarks_of, Fmarks_of⟩ := c.def_ 32 (x := "marks_of") (p := ("marks_of", none)) (qual := "marks_of") (st := sMarks) (dfl := [])
  obtain ⟨fdways_of, Fways_of⟩ := c.def_ 33 (x := "ways_of") (p := ("ways_of", none)) (qual := "ways_of") (st := sWays) (dfl := [])
  obtain ⟨fdlonger_ways, Flonger_ways⟩ := c.def_ 34 (x := "longer_ways") (p := ("longer_ways", none)) (qual := "longer_ways") (st := sLonger) (dfl := [])
  obtain ⟨fdtoo_much, Ftoo_much⟩ := c.def_ 35 (x := "too_much") (p := ("too_much", none)) (qual := "too_much") (st := sMuch) (dfl := [])
  obtain ⟨fdmoves_of, Fmoves_of⟩ := c.def_ 36 (x := "moves_of") (p := ("moves_of", none)) (qual := "moves_of") (st := sMoves) (dfl := [])
  obtain ⟨fdRules_product, FRules_product⟩ := c.def_ 37 (x := "product") (p := ("Rules", some "product")) (qual := "Rules.product") (st := sProduct) (dfl := [])
  obtain ⟨fdneed_limits, Fneed_limits⟩ := c.def_ 38 (x := "need_limits") (p := ("need_limits", none)) (qual := "need_limits") (st := sLimits) (dfl := [])
  obtain ⟨fdCodeU_initU, FCodeU_initU⟩ := c.def_ 39 (x := "__init__") (p := ("Code", some "__init__")) (qual := "Code.__init__") (st := sCodeI) (dfl := [])
  obtain ⟨fdis_whole_play, Fis_whole_play⟩ := c.def_ 40 (x := "is_whole") (p := ("is_whole_play", none)) (qual := "is_whole") (st := sWholeP) (dfl := [])
  obtain ⟨fdis_case, Fis_case⟩ := c.def_ 41 (x := "is_case") (p := ("is_case", none)) (qual := "is_case") (st := sIsCase) (dfl := [])
  obtain ⟨fdPlayer_lay_pages, FPlayer_lay_pages⟩ := c.def_ 42 (x := "lay_pages") (p := ("Player", some "lay_pages")) (qual := "Player.lay_pages") (st := sLay) (dfl := [])
  obtain ⟨fdPlayerU_initU, FPlayerU_initU⟩ := c.def_ 43 (x := "__init__") (p := ("Player", some "__init__")) (qual := "Player.__init__") (st := sPLI) (dfl := [])
  obtain ⟨fdPlayer_total, FPlayer_total⟩ := c.def_ 44 (x := "total") (p := ("Player", some "total")) (qual := "Player.total") (st := sTot) (dfl := [])
  obtain ⟨fdPlayer_count, FPlayer_count⟩ := c.def_ 45 (x := "count") (p := ("Player", some "count")) (qual := "Player.count") (st := sCnt) (dfl := [])
  obtain ⟨fdPlayer_do_row, FPlayer_do_row⟩ := c.def_ 46 (x := "do_row") (p := ("Player", some "do_row")) (qual := "Player.do_row") (st := sDoR) (dfl := [])
  obtain ⟨fdPlayer_cut, FPlayer_cut⟩ := c.def_ 47 (x := "cut") (p := ("Player", some "cut")) (qual := "Player.cut") (st := sCut) (dfl := [])
  obtain ⟨fdPlayer_join, FPlayer_join⟩ := c.def_ 48 (x := "join") (p := ("Player", some "join")) (qual := "Player.join") (st := sJoin) (dfl := [])
  obtain ⟨fdPlayer_shift, FPlayer_shift⟩ := c.def_ 49 (x := "shift") (p := ("Player", some "shift")) (qual := "Player.shift") (st := sSh) (dfl := [])
  obtain ⟨fdPlayer_set_mark, FPlayer_set_mark⟩ := c.def_ 50 (x := "set_mark") (p := ("Player", some "set_mark")) (qual := "Player.set_mark") (st := sMk) (dfl := [])
  obtain ⟨fdPlayer_play_on, FPlayer_play_on⟩ := c.def_ 51 (x := "play_on") (p := ("Player", some "play_on")) (qual := "Player.play_on") (st := sPOn) (dfl := [])
  obtain ⟨fdPlayer_choose, FPlayer_choose⟩ := c.def_ 52 (x := "choose") (p := ("Player", some "choose")) (qual := "Player.choose") (st := sCho) (dfl := [])
  obtain ⟨fdPlayer_play_whole, FPlayer_play_whole⟩ := c.def_ 53 (x := "play_whole") (p := ("Player", some "play_whole")) (qual := "Player.play_whole") (st := sPWh) (dfl := [])
  obtain ⟨fdPlayer_told_pages, FPlayer_told_pages⟩ := c.def_ 54 (x := "told_pages") (p := ("Player", some "told_pages")) (qual := "Player.told_pages") (st := sTPages) (dfl := [])
  obtain ⟨fdPlayer_told_separators, FPlayer_told_separators⟩ := c.def_ 55 (x := "told_separators") (p := ("Player", some "told_separators")) (qual := "Player.told_separators") (st := sTSeps) (dfl := [])
  obtain ⟨fdmany_of, Fmany_of⟩ := c.def_ 56 (x := "many_of") (p := ("many_of", none)) (qual := "many_of") (st := sMany) (dfl := [])
  obtain ⟨fdfits_bounds, Ffits_bounds⟩ := c.def_ 57 (x := "fits_bounds") (p := ("fits_bounds", none)) (qual := "fits_bounds") (st := sFits) (dfl := [])
  obtain ⟨fdbroken_by, Fbroken_by⟩ := c.def_ 58 (x := "broken_by") (p := ("broken_by", none)) (qual := "broken_by") (st := sBroken) (dfl := [])
  obtain ⟨fdPlayU_initU, FPlayU_initU⟩ := c.def_ 59 (x := "__init__") (p := ("Play", some "__init__")) (qual := "Play.__init__") (st := sPyI) (dfl := [])
  obtain ⟨fdplay, Fplay⟩ := c.def_ 60 (x := "play") (p := ("play", none)) (qual := "play") (st := sPlay) (dfl := [])
  obtain ⟨fd_law_told, F_law_told⟩ := c.def_ 61 (x := "_law_told") (p := ("_law_told", none)) (qual := "_law_told") (st := sTold) (dfl := [])
  obtain ⟨fd_law_truths_right, F_law_truths_right⟩ := c.def_ 62 (x := "_law_truths_right") (p := ("_law_truths_right", none)) (qual := "_law_truths_right") (st := sTruths) (dfl := [])
  obtain ⟨fdlaw, Flaw⟩ := c.def_ 63 (x := "law") (p := ("law", none)) (qual := "law") (st := sLaw) (dfl := [])
  have ER : Errs progOf K mg := {
      iBadStyle := c.init X G 0 0
      iBadSum := c.init X G 1 1
      iBadKind := c.init X G 2 2
      iBadLine := c.init X G 3 3
      iRefused := c.init X G 4 4
      iBadCapacity := c.init X G 5 5
      iBadCase := c.init X G 6 6
      iTooMany := c.init X G 7 7
      mS := (He.free_ok X G (c.fact 76 (f := .free "super") rfl))
      hP := rfl }
  have RC : RulesC K mg (He.ga K "Rules") (He.ma K (He.ga K "Rules") "__init__") := ⟨(He.cls_ok (c.fact 77 (f := .cls "Rules") rfl)), (He.mkr_ok (c.fact 78 (f := .mkr "Rules") rfl)), (He.glo_ok X G (c.fact 79 (f := .glo "Rules") rfl)), (by
    intro f hf
    simp only [List.mem_cons, List.not_mem_nil, or_false] at hf
    rcases hf with rfl | rfl | rfl | rfl | rfl | rfl | rfl
    · exact (He.noat_ok (c.fact 80 (f := .noat "Rules" "own_shares") rfl))
    · exact (He.noat_ok (c.fact 81 (f := .noat "Rules" "cap_share") rfl))
    · exact (He.noat_ok (c.fact 82 (f := .noat "Rules" "low_share") rfl))
    · exact (He.noat_ok (c.fact 83 (f := .noat "Rules" "style") rfl))
    · exact (He.noat_ok (c.fact 84 (f := .noat "Rules" "cap") rfl))
    · exact (He.noat_ok (c.fact 85 (f := .noat "Rules" "low") rfl))
    · exact (He.noat_ok (c.fact 86 (f := .noat "Rules" "root") rfl)))⟩
  have CC : CodeC K mg (He.ga K "Code") (He.ma K (He.ga K "Code") "__init__") := ⟨(He.cls_ok (c.fact 87 (f := .cls "Code") rfl)), (He.mkr_ok (c.fact 88 (f := .mkr "Code") rfl)), (He.glo_ok X G (c.fact 89 (f := .glo "Code") rfl)), (by
    intro f hf
    simp only [List.mem_cons, List.not_mem_nil, or_false] at hf
    rcases hf with rfl | rfl | rfl | rfl | rfl | rfl
    · exact (He.noat_ok (c.fact 90 (f := .noat "Code" "kind") rfl))
    · exact (He.noat_ok (c.fact 91 (f := .noat "Code" "rules") rfl))
    · exact (He.noat_ok (c.fact 92 (f := .noat "Code" "text") rfl))
    · exact (He.noat_ok (c.fact 93 (f := .noat "Code" "own_lines") rfl))
    · exact (He.noat_ok (c.fact 94 (f := .noat "Code" "rows") rfl))
    · exact (He.noat_ok (c.fact 95 (f := .noat "Code" "own_tables") rfl)))⟩
  have RD : ReaderC K mg (He.ga K "Reader") (He.ma K (He.ga K "Reader") "__init__") := ⟨(He.cls_ok (c.fact 96 (f := .cls "Reader") rfl)), (He.mkr_ok (c.fact 97 (f := .mkr "Reader") rfl)), (He.glo_ok X G (c.fact 98 (f := .glo "Reader") rfl)), (by
    intro f hf
    simp only [List.mem_cons, List.not_mem_nil, or_false] at hf
    rcases hf with rfl | rfl
    · exact (He.noat_ok (c.fact 99 (f := .noat "Reader" "texts") rfl))
    · exact (He.noat_ok (c.fact 100 (f := .noat "Reader" "line") rfl)))⟩
  have PL : PlayerC K mg (He.ga K "Player") (He.ma K (He.ga K "Player") "__init__") := ⟨(He.cls_ok (c.fact 101 (f := .cls "Player") rfl)), (He.mkr_ok (c.fact 102 (f := .mkr "Player") rfl)), (He.glo_ok X G (c.fact 103 (f := .glo "Player") rfl)), (by
    intro f hf
    simp only [List.mem_cons, List.not_mem_nil, or_false] at hf
    rcases hf with rfl | rfl | rfl | rfl | rfl | rfl | rfl | rfl | rfl | rfl
    · exact (He.noat_ok (c.fact 104 (f := .noat "Player" "rows") rfl))
    · exact (He.noat_ok (c.fact 105 (f := .noat "Player" "is_taken") rfl))
    · exact (He.noat_ok (c.fact 106 (f := .noat "Player" "known") rfl))
    · exact (He.noat_ok (c.fact 107 (f := .noat "Player" "order") rfl))
    · exact (He.noat_ok (c.fact 108 (f := .noat "Player" "spans") rfl))
    · exact (He.noat_ok (c.fact 109 (f := .noat "Player" "marks") rfl))
    · exact (He.noat_ok (c.fact 110 (f := .noat "Player" "ended") rfl))
    · exact (He.noat_ok (c.fact 111 (f := .noat "Player" "moved") rfl))
    · exact (He.noat_ok (c.fact 112 (f := .noat "Player" "used") rfl))
    · exact (He.noat_ok (c.fact 113 (f := .noat "Player" "turned") rfl)))⟩
  have PY : PlayC K mg (He.ga K "Play") (He.ma K (He.ga K "Play") "__init__") := ⟨(He.cls_ok (c.fact 114 (f := .cls "Play") rfl)), (He.mkr_ok (c.fact 115 (f := .mkr "Play") rfl)), (He.glo_ok X G (c.fact 116 (f := .glo "Play") rfl)), (by
    intro f hf
    simp only [List.mem_cons, List.not_mem_nil, or_false] at hf
    rcases hf with rfl | rfl | rfl | rfl | rfl | rfl | rfl | rfl
    · exact (He.noat_ok (c.fact 117 (f := .noat "Play" "ended") rfl))
    · exact (He.noat_ok (c.fact 118 (f := .noat "Play" "pages") rfl))
    · exact (He.noat_ok (c.fact 119 (f := .noat "Play" "separators") rfl))
    · exact (He.noat_ok (c.fact 120 (f := .noat "Play" "work") rfl))
    · exact (He.noat_ok (c.fact 121 (f := .noat "Play" "broken") rfl))
    · exact (He.noat_ok (c.fact 122 (f := .noat "Play" "own_names") rfl))
    · exact (He.noat_ok (c.fact 123 (f := .noat "Play" "own_lines") rfl))
    · exact (He.noat_ok (c.fact 124 (f := .noat "Play" "own_sides") rfl)))⟩
  have TF : CaseF K := caseB_ok (c.own 8 (f := caseB))
  obtain ⟨ds0, vd0, bI⟩ := FunD.binds1 (ps := ["self", "style", "cap", "low", "root"]) FRulesU_initU 5 1 (by simp) rfl fun T kV doc pm an cdv ct us its hl hi => match us, its, hl, hi with | [_, _, _, _, _], [_], _, _ => ⟨_, rfl, rfl⟩
  cases vd0
  obtain ⟨ds3, dI, bI3⟩ := FunD.binds1 (ps := ["self", "style", "cap", "low", "root"]) FRulesU_initU 4 0 (by simp) rfl fun T kV doc pm an cdv ct us its hl hi => match us, its, hl, hi with | [_, _, _, _], [_], _, _ => ⟨_, rfl, rfl⟩
  have bPI := FunD.bindsN (ps := ["self", "code", "case"]) FPlayerU_initU fun _ _ _ _ _ _ us hl => match us, hl with | [_, _, _], _ => rfl
  have bPY := FunD.bindsN (ps := ["self", "player", "broken"]) FPlayU_initU fun _ _ _ _ _ _ us hl => match us, hl with | [_, _, _], _ => rfl
  have bC := FunD.bindsN (ps := ["self", "kind", "rules", "text"]) FCodeU_initU fun _ _ _ _ _ _ us hl => match us, hl with | [_, _, _, _], _ => rfl
  have TATOMS := Hx.tupB_ok (x := "ATOMS") (vs := (ATOMSL.map V.str)) X G (c.own 9 (f := Hx.tupB "ATOMS" (ATOMSL.map V.str)))
  have TFACTORED := Hx.tupB_ok (x := "FACTORED") (vs := (FACTL.map V.str)) X G (c.own 10 (f := Hx.tupB "FACTORED" (FACTL.map V.str)))
  have TSTYLES := Hx.tupB_ok (x := "STYLES") (vs := (STYL.map V.str)) X G (c.own 11 (f := Hx.tupB "STYLES" (STYL.map V.str)))
  have TKINDS := Hx.tupB_ok (x := "KINDS") (vs := (KINDL.map V.str)) X G (c.own 12 (f := Hx.tupB "KINDS" (KINDL.map V.str)))
  have TREGISTERS := Hx.tupB_ok (x := "REGISTERS") (vs := (REGL.map V.str)) X G (c.own 13 (f := Hx.tupB "REGISTERS" (REGL.map V.str)))
  have TPLAIN := Hx.tupB_ok (x := "PLAIN") (vs := PLAINV) X G (c.own 14 (f := Hx.tupB "PLAIN" PLAINV))
  have TPAGES_reader := Hx.tupB_ok (x := "PAGES_reader") (vs := (PAGEL.map V.str)) X G (c.own 15 (f := Hx.tupB "PAGES_reader" (PAGEL.map V.str)))
  have TPAGES_player := Hx.tupB_ok (x := "PAGES_player") (vs := (PLN.map V.str)) X G (c.own 16 (f := Hx.tupB "PAGES_player" (PLN.map V.str)))
  have e := hfa.symm.trans (He.glo_ok X G (c.fact 125 (f := .glo "law") rfl))
  cases e
  have b := FunD.bindsA (ps := ["_law_script"]) Flaw fun _ _ _ _ _ _ us hl => match us, hl with | [_], _ => rfl
  refine ⟨fdlaw, fun s v => b s [v] rfl, fun base _ _ => ?_⟩
  have G_law_draw := ok_draw (P := progOf) (w := w) (K := K) (mg := mg) (base := base) (F := F_law_draw) (mInt := (He.free_ok X G (c.fact 0 (f := .free "int") rfl))) (mLen := (He.free_ok X G (c.fact 1 (f := .free "len") rfl)))
  have G_law_bag := ok_bag (P := progOf) (w := w) (K := K) (mg := mg) (base := base) (F := F_law_bag) (mInt := (He.free_ok X G (c.fact 0 (f := .free "int") rfl))) (mList := (He.free_ok X G (c.fact 2 (f := .free "list") rfl)))
  have Gnumber_of := ok_number_of (P := progOf) (w := w) (K := K) (mg := mg) (base := base) (F := Fnumber_of) (mLen := (He.free_ok X G (c.fact 1 (f := .free "len") rfl))) (mInt := (He.free_ok X G (c.fact 0 (f := .free "int") rfl))) (gMF := (Hx.intG X G (c.fact 3 (f := .int "MOST_FIGURES" 30) rfl)))
  have Gterm_of := ok_term_of (P := progOf) (w := w) (K := K) (mg := mg) (base := base) (F := Fterm_of) (FN := Fnumber_of) (GN := Gnumber_of) (gN := (He.glo_ok X G (c.fact 4 (f := .glo "number_of") rfl))) (mLen := (He.free_ok X G (c.fact 1 (f := .free "len") rfl))) (gMF := (Hx.intG X G (c.fact 5 (f := .int "MOST_FACTOR" 12) rfl))) (gA := TATOMS.1) (gF := TFACTORED.1) (tA := TATOMS.2) (tF := TFACTORED.2)
  have Gsum_of := ok_sum_of (P := progOf) (w := w) (K := K) (mg := mg) (base := base) (F := Fsum_of) (FT := Fterm_of) (GT := Gterm_of) (gT := (He.glo_ok X G (c.fact 6 (f := .glo "term_of") rfl))) (mLen := (He.free_ok X G (c.fact 1 (f := .free "len") rfl))) (mTuple := (He.free_ok X G (c.fact 7 (f := .free "tuple") rfl))) (gMT := (Hx.intG X G (c.fact 8 (f := .int "MOST_TERMS" 4) rfl)))
  have Gdivided := ok_divided (P := progOf) (w := w) (K := K) (mg := mg) (base := base) (F := Fdivided) (FN := Fnumber_of) (FS := Fsum_of) (GN := Gnumber_of) (GS := Gsum_of) (gN := (He.glo_ok X G (c.fact 4 (f := .glo "number_of") rfl))) (gS := (He.glo_ok X G (c.fact 9 (f := .glo "sum_of") rfl))) (mLen := (He.free_ok X G (c.fact 1 (f := .free "len") rfl)))
  have Gis_whole_rules := ok_is_whole (P := progOf) (w := w) (K := K) (mg := mg) (base := base) (F := Fis_whole_rules) (mIsi := (He.free_ok X G (c.fact 10 (f := .free "isinstance") rfl))) (mInt := (He.free_ok X G (c.fact 0 (f := .free "int") rfl))) (mBool := (He.free_ok X G (c.fact 11 (f := .free "bool") rfl)))
  have Gshare_at := ok_share_at (P := progOf) (w := w) (K := K) (mg := mg) (base := base) (F := Fshare_at)
  have Gneed_capacity := ok_need_capacity (P := progOf) (w := w) (K := K) (mg := mg) (base := base) (F := Fneed_capacity) (FW := Fis_whole_rules) (GW := Gis_whole_rules) (gW := (He.glo_ok X G (c.fact 12 (f := .glo "is_whole_rules") rfl))) (ER := ER)
  have Gread_share := ok_read_share (P := progOf) (w := w) (K := K) (mg := mg) (base := base) (F := Fread_share) (FD := Fdivided) (GD := Gdivided) (gD := (He.glo_ok X G (c.fact 13 (f := .glo "divided") rfl))) (ER := ER) (mIsi := (He.free_ok X G (c.fact 10 (f := .free "isinstance") rfl))) (mStr := (He.free_ok X G (c.fact 14 (f := .free "str") rfl))) (mAny := (He.free_ok X G (c.fact 15 (f := .free "any") rfl))) (gMS := (Hx.intG X G (c.fact 16 (f := .int "MOST_SHARE" 6) rfl)))
  have Gline_of := ok_line_of (P := progOf) (w := w) (K := K) (mg := mg) (base := base) (F := Fline_of) (mSum := (He.free_ok X G (c.fact 17 (f := .free "sum") rfl)))
  have GRulesU_initU := ok_Rules_init (P := progOf) (w := w) (K := K) (mg := mg) (base := base) (F := FRulesU_initU) (RC := RC) (FS := Fread_share) (FL := Fline_of) (GS := Gread_share) (GL := Gline_of) (gRS := (He.glo_ok X G (c.fact 18 (f := .glo "read_share") rfl))) (gL := (He.glo_ok X G (c.fact 19 (f := .glo "line_of") rfl))) (ER := ER) (mIsi := (He.free_ok X G (c.fact 10 (f := .free "isinstance") rfl))) (mStr := (He.free_ok X G (c.fact 14 (f := .free "str") rfl))) (gS := TSTYLES.1) (tS := TSTYLES.2)
  have GRules_bounds := ok_Rules_bounds (P := progOf) (w := w) (K := K) (mg := mg) (base := base) (F := FRules_bounds) (RC := RC) (FA := Fshare_at) (GA := Gshare_at) (gA := (He.glo_ok X G (c.fact 20 (f := .glo "share_at") rfl)))
  have GRules_in_use := ok_Rules_in_use (P := progOf) (w := w) (K := K) (mg := mg) (base := base) (F := FRules_in_use) (RC := RC) (FN := Fneed_capacity) (FB := FRules_bounds) (GN := Gneed_capacity) (GB := GRules_bounds) (gN := (He.glo_ok X G (c.fact 21 (f := .glo "need_capacity") rfl))) (mB := (He.meth_ok (c.fact 22 (f := .meth "Rules" "bounds") rfl)))
  have Gside_of := ok_side_of (P := progOf) (w := w) (K := K) (mg := mg) (base := base) (F := Fside_of) (FT := Fterm_of) (GT := Gterm_of) (gT := (He.glo_ok X G (c.fact 6 (f := .glo "term_of") rfl)))
  have GReader_moving := ok_Reader_moving (P := progOf) (w := w) (K := K) (mg := mg) (base := base) (F := FReader_moving) (RD := RD) (FS := Fsum_of) (GS := Gsum_of) (gS := (He.glo_ok X G (c.fact 9 (f := .glo "sum_of") rfl))) (mLen := (He.free_ok X G (c.fact 1 (f := .free "len") rfl))) (gPG := TPAGES_reader.1) (tP := TPAGES_reader.2)
  have GReader_deed := ok_Reader_deed (P := progOf) (w := w) (K := K) (mg := mg) (base := base) (F := FReader_deed) (RD := RD) (FD := Fdivided) (FM := FReader_moving) (GD := Gdivided) (GM := GReader_moving) (gD := (He.glo_ok X G (c.fact 13 (f := .glo "divided") rfl))) (mM := (He.meth_ok (c.fact 23 (f := .meth "Reader" "moving") rfl))) (mLen := (He.free_ok X G (c.fact 1 (f := .free "len") rfl))) (gMF := (Hx.intG X G (c.fact 5 (f := .int "MOST_FACTOR" 12) rfl))) (gPG := TPAGES_reader.1) (tP := TPAGES_reader.2) (gRG := TREGISTERS.1) (tR := TREGISTERS.2)
  have GReader_part := ok_Reader_part (P := progOf) (w := w) (K := K) (mg := mg) (base := base) (F := FReader_part) (RD := RD) (FS := Fside_of) (GS := Gside_of) (gS := (He.glo_ok X G (c.fact 24 (f := .glo "side_of") rfl))) (mLen := (He.free_ok X G (c.fact 1 (f := .free "len") rfl))) (ER := ER) (gPG := TPAGES_reader.1) (tP := TPAGES_reader.2)
  have GReader_read_parts := ok_Reader_read_parts (P := progOf) (w := w) (K := K) (mg := mg) (base := base) (F := FReader_read_parts) (RD := RD) (FP := FReader_part) (GP := GReader_part) (mP := (He.meth_ok (c.fact 25 (f := .meth "Reader" "part") rfl))) (mLen := (He.free_ok X G (c.fact 1 (f := .free "len") rfl))) (mTuple := (He.free_ok X G (c.fact 7 (f := .free "tuple") rfl))) (ER := ER) (gMP := (Hx.intG X G (c.fact 26 (f := .int "MOST_PARTS" 4) rfl)))
  have GReader_read_rows := ok_reader_rows (P := progOf) (w := w) (K := K) (mg := mg) (base := base) (FS := FReader_read_rows) (FW := FReader_read_row) (RD := RD) (FP := FReader_read_parts) (FD := FReader_deed) (GP := GReader_read_parts) (GD := GReader_deed) (mP := (He.meth_ok (c.fact 27 (f := .meth "Reader" "read_parts") rfl))) (mS := (He.meth_ok (c.fact 28 (f := .meth "Reader" "read_rows") rfl))) (mW := (He.meth_ok (c.fact 29 (f := .meth "Reader" "read_row") rfl))) (mD := (He.meth_ok (c.fact 30 (f := .meth "Reader" "deed") rfl))) (mLen := (He.free_ok X G (c.fact 1 (f := .free "len") rfl))) (ER := ER)
  have GReaderU_initU := ok_Reader_init (P := progOf) (w := w) (K := K) (mg := mg) (base := base) (F := FReaderU_initU) (RD := RD)
  have Gread := ok_read (P := progOf) (w := w) (K := K) (mg := mg) (base := base) (F := Fread) (RD := RD) (FI := FReaderU_initU) (FR := FReader_read_rows) (GI := GReaderU_initU) (GR := (GReader_read_rows 41)) (mR := (He.meth_ok (c.fact 28 (f := .meth "Reader" "read_rows") rfl)))
  have Gcount_ifs := ok_count_ifs (P := progOf) (w := w) (K := K) (mg := mg) (base := base) (FC := Fcount_ifs) (gC := (He.glo_ok X G (c.fact 31 (f := .glo "count_ifs") rfl))) (mSum := (He.free_ok X G (c.fact 17 (f := .free "sum") rfl)))
  have Gmarks_of := ok_marks_of (P := progOf) (w := w) (K := K) (mg := mg) (base := base) (FC := Fmarks_of) (gC := (He.glo_ok X G (c.fact 32 (f := .glo "marks_of") rfl)))
  have Gways_of := ok_ways_of (P := progOf) (w := w) (K := K) (mg := mg) (base := base) (F := Fways_of) (FL := Flonger_ways) (gL := (He.glo_ok X G (c.fact 33 (f := .glo "longer_ways") rfl))) (gW := (He.glo_ok X G (c.fact 34 (f := .glo "ways_of") rfl)))
  have Gtoo_much := ok_too_much (P := progOf) (w := w) (K := K) (mg := mg) (base := base) (F := Ftoo_much) (gMS := (Hx.intG X G (c.fact 35 (f := .int "MOST_SETTINGS" 2) rfl))) (gMD := (Hx.intG X G (c.fact 36 (f := .int "MOST_DIVISIONS" 2) rfl))) (gMP := (Hx.intG X G (c.fact 37 (f := .int "MOST_PRODUCT" 144) rfl)))
  have Gmoves_of := ok_moves_of (P := progOf) (w := w) (K := K) (mg := mg) (base := base) (F := Fmoves_of) (mAny := (He.free_ok X G (c.fact 15 (f := .free "any") rfl))) (gPL := TPLAIN.1) (tN := TPLAIN.2)
  have GRules_product := ok_Rules_product (P := progOf) (w := w) (K := K) (mg := mg) (base := base) (F := FRules_product) (RC := RC)
  have Gneed_limits := ok_need_limits (P := progOf) (w := w) (K := K) (mg := mg) (base := base) (F := Fneed_limits) (RC := RC) (ER := ER) (FC := Fcount_ifs) (GC := (Gcount_ifs 42)) (gC := (He.glo_ok X G (c.fact 31 (f := .glo "count_ifs") rfl))) (FK := Fmarks_of) (GK := (Gmarks_of 42)) (gK := (He.glo_ok X G (c.fact 32 (f := .glo "marks_of") rfl))) (FW := Fways_of) (GW := (Gways_of 42)) (gW := (He.glo_ok X G (c.fact 34 (f := .glo "ways_of") rfl))) (FT := Ftoo_much) (GT := Gtoo_much) (gT := (He.glo_ok X G (c.fact 38 (f := .glo "too_much") rfl))) (FM := Fmoves_of) (GM := Gmoves_of) (gM := (He.glo_ok X G (c.fact 39 (f := .glo "moves_of") rfl))) (FP := FRules_product) (GP := GRules_product) (mP := (He.meth_ok (c.fact 40 (f := .meth "Rules" "product") rfl))) (mLen := (He.free_ok X G (c.fact 1 (f := .free "len") rfl))) (mInt := (He.free_ok X G (c.fact 0 (f := .free "int") rfl))) (mMin := (He.free_ok X G (c.fact 41 (f := .free "min") rfl))) (gMI := (Hx.intG X G (c.fact 42 (f := .int "MOST_IFS" 7) rfl))) (gMM := (Hx.intG X G (c.fact 43 (f := .int "MOST_MOVES" 3) rfl)))
  have GCodeU_initU := ok_Code_init (RC := (He.ga K "Rules")) (P := progOf) (w := w) (K := K) (mg := mg) (base := base) (F := FCodeU_initU) (CC := CC) (ER := ER) (FR := Fread) (GR := Gread) (gR := (He.glo_ok X G (c.fact 44 (f := .glo "read") rfl))) (FL := Fneed_limits) (GL := Gneed_limits) (gL := (He.glo_ok X G (c.fact 45 (f := .glo "need_limits") rfl))) (mIsi := (He.free_ok X G (c.fact 10 (f := .free "isinstance") rfl))) (mStr := (He.free_ok X G (c.fact 14 (f := .free "str") rfl))) (mLen := (He.free_ok X G (c.fact 1 (f := .free "len") rfl))) (gML := (Hx.intG X G (c.fact 46 (f := .int "MOST_LINES" 40) rfl))) (gK := TKINDS.1) (tK := TKINDS.2)
  have Gis_whole_play := ok_is_whole_play (P := progOf) (w := w) (K := K) (mg := mg) (base := base) (F := Fis_whole_play) (mIsi := (He.free_ok X G (c.fact 10 (f := .free "isinstance") rfl))) (mInt := (He.free_ok X G (c.fact 0 (f := .free "int") rfl))) (mBool := (He.free_ok X G (c.fact 11 (f := .free "bool") rfl)))
  have Gis_case := ok_is_case (P := progOf) (w := w) (K := K) (mg := mg) (base := base) (F := Fis_case) (CC := CC) (RR := RC) (FW := Fis_whole_play) (GW := Gis_whole_play) (gW := (He.glo_ok X G (c.fact 47 (f := .glo "is_whole_play") rfl))) (FU := FRules_in_use) (GU := GRules_in_use) (mU := (He.meth_ok (c.fact 48 (f := .meth "Rules" "in_use") rfl))) (FB := FRules_bounds) (GB := GRules_bounds) (mB := (He.meth_ok (c.fact 22 (f := .meth "Rules" "bounds") rfl))) (mIsi := (He.free_ok X G (c.fact 10 (f := .free "isinstance") rfl))) (mTuple := (He.free_ok X G (c.fact 7 (f := .free "tuple") rfl))) (mLen := (He.free_ok X G (c.fact 1 (f := .free "len") rfl))) (mAll := (He.free_ok X G (c.fact 49 (f := .free "all") rfl)))
  have GPlayer_lay_pages := ok_Player_lay_pages (P := progOf) (w := w) (K := K) (mg := mg) (base := base) (F := FPlayer_lay_pages) (PL := PL) (mZip := (He.free_ok X G (c.fact 50 (f := .free "zip") rfl))) (mLen := (He.free_ok X G (c.fact 1 (f := .free "len") rfl))) (mInt := (He.free_ok X G (c.fact 0 (f := .free "int") rfl))) (gPP := TPAGES_player.1) (tPP := TPAGES_player.2)
  have GPlayerU_initU := ok_Player_init (P := progOf) (w := w) (K := K) (mg := mg) (base := base) (F := FPlayerU_initU) (PL := PL) (CC := CC) (RR := RC) (FB := FRules_bounds) (GB := GRules_bounds) (mB := (He.meth_ok (c.fact 22 (f := .meth "Rules" "bounds") rfl))) (FLay := FPlayer_lay_pages) (GLay := GPlayer_lay_pages) (mLay := (He.meth_ok (c.fact 51 (f := .meth "Player" "lay_pages") rfl)))
  have GPlayer_total := ok_Player_total (P := progOf) (w := w) (K := K) (mg := mg) (base := base) (F := FPlayer_total) (PL := PL) (FCnt := FPlayer_count) (mCnt := (He.meth_ok (c.fact 52 (f := .meth "Player" "count") rfl)))
  have GPlayer_do_row := ok_Player_do_row (P := progOf) (w := w) (K := K) (mg := mg) (base := base) (F := FPlayer_do_row) (PL := PL) (FTot := FPlayer_total) (GTot := GPlayer_total) (mTot := (He.meth_ok (c.fact 53 (f := .meth "Player" "total") rfl))) (FCut := FPlayer_cut) (mCut := (He.meth_ok (c.fact 54 (f := .meth "Player" "cut") rfl))) (FJoin := FPlayer_join) (mJoin := (He.meth_ok (c.fact 55 (f := .meth "Player" "join") rfl))) (FSh := FPlayer_shift) (mSh := (He.meth_ok (c.fact 56 (f := .meth "Player" "shift") rfl))) (FMk := FPlayer_set_mark) (mMk := (He.meth_ok (c.fact 57 (f := .meth "Player" "set_mark") rfl)))
  have GPlayer_play_on := ok_Player_play_on (P := progOf) (w := w) (K := K) (mg := mg) (base := base) (F := FPlayer_play_on) (PL := PL) (FCho := FPlayer_choose) (mCho := (He.meth_ok (c.fact 58 (f := .meth "Player" "choose") rfl))) (FDo := FPlayer_do_row) (GDo := GPlayer_do_row) (mDo := (He.meth_ok (c.fact 59 (f := .meth "Player" "do_row") rfl)))
  have GPlayer_play_whole := ok_Player_play_whole (P := progOf) (w := w) (K := K) (mg := mg) (base := base) (F := FPlayer_play_whole) (PL := PL) (FOn := FPlayer_play_on) (GOn := GPlayer_play_on) (mOn := (He.meth_ok (c.fact 60 (f := .meth "Player" "play_on") rfl)))
  have GPlayer_told_pages := ok_Player_told_pages (P := progOf) (w := w) (K := K) (mg := mg) (base := base) (F := FPlayer_told_pages) (PL := PL) (mTuple := (He.free_ok X G (c.fact 7 (f := .free "tuple") rfl)))
  have GPlayer_told_separators := ok_Player_told_separators (P := progOf) (w := w) (K := K) (mg := mg) (base := base) (F := FPlayer_told_separators) (PL := PL) (mTuple := (He.free_ok X G (c.fact 7 (f := .free "tuple") rfl)))
  have Gmany_of := ok_many_of (P := progOf) (w := w) (K := K) (mg := mg) (base := base) (F := Fmany_of) (mLen := (He.free_ok X G (c.fact 1 (f := .free "len") rfl)))
  have Gfits_bounds := ok_fits_bounds (P := progOf) (w := w) (K := K) (mg := mg) (base := base) (F := Ffits_bounds) (mAll := (He.free_ok X G (c.fact 49 (f := .free "all") rfl)))
  have Gbroken_by := ok_broken_by (P := progOf) (w := w) (K := K) (mg := mg) (base := base) (F := Fbroken_by) (PL := PL) (CC := CC) (RR := RC) (FM := Fmany_of) (GM := Gmany_of) (gM := (He.glo_ok X G (c.fact 61 (f := .glo "many_of") rfl))) (FF := Ffits_bounds) (GF := Gfits_bounds) (gF := (He.glo_ok X G (c.fact 62 (f := .glo "fits_bounds") rfl))) (FB := FRules_bounds) (GB := GRules_bounds) (mB := (He.meth_ok (c.fact 22 (f := .meth "Rules" "bounds") rfl))) (FTP := FPlayer_told_pages) (GTP := GPlayer_told_pages) (mTP := (He.meth_ok (c.fact 63 (f := .meth "Player" "told_pages") rfl))) (FTS := FPlayer_told_separators) (GTS := GPlayer_told_separators) (mTS := (He.meth_ok (c.fact 64 (f := .meth "Player" "told_separators") rfl))) (mLen := (He.free_ok X G (c.fact 1 (f := .free "len") rfl))) (mTuple := (He.free_ok X G (c.fact 7 (f := .free "tuple") rfl)))
  have GPlayU_initU := ok_Play_init (P := progOf) (w := w) (K := K) (mg := mg) (base := base) (F := FPlayU_initU) (PY := PY) (PL := PL) (FTP := FPlayer_told_pages) (GTP := GPlayer_told_pages) (mTP := (He.meth_ok (c.fact 63 (f := .meth "Player" "told_pages") rfl))) (FTS := FPlayer_told_separators) (GTS := GPlayer_told_separators) (mTS := (He.meth_ok (c.fact 64 (f := .meth "Player" "told_separators") rfl))) (mTuple := (He.free_ok X G (c.fact 7 (f := .free "tuple") rfl))) (mList := (He.free_ok X G (c.fact 2 (f := .free "list") rfl))) (mSorted := (He.free_ok X G (c.fact 65 (f := .free "sorted") rfl)))
  have Gplay := ok_play (P := progOf) (w := w) (K := K) (mg := mg) (base := base) (F := Fplay) (PL := PL) (PY := PY) (ER := ER) (FC := Fis_case) (GC := Gis_case) (gC := (He.glo_ok X G (c.fact 66 (f := .glo "is_case") rfl))) (FBr := Fbroken_by) (GBr := Gbroken_by) (gBr := (He.glo_ok X G (c.fact 67 (f := .glo "broken_by") rfl))) (FPW := FPlayer_play_whole) (GPW := GPlayer_play_whole) (mPW := (He.meth_ok (c.fact 68 (f := .meth "Player" "play_whole") rfl))) (GI := GPlayerU_initU) (bI := bPI) (GY := GPlayU_initU) (bY := bPY)
  have G_law_told := ok_law_told (P := progOf) (w := w) (K := K) (mg := mg) (base := base) (F := F_law_told) (PY := PY) (ER := ER) (TF := TF) (FP := Fplay) (GP := Gplay) (gP := (He.glo_ok X G (c.fact 69 (f := .glo "play") rfl))) (gPE := (He.glo_ok X G (c.fact 70 (f := .glo "PageError") rfl))) (mIsi := (He.free_ok X G (c.fact 10 (f := .free "isinstance") rfl)))
  have G_law_truths_right := ok_law_truths_right (P := progOf) (w := w) (K := K) (mg := mg) (base := base) (F := F_law_truths_right) (FT := F_law_told) (GT := G_law_told) (gT := (He.glo_ok X G (c.fact 71 (f := .glo "_law_told") rfl))) (RR := RC) (GI := GRulesU_initU) (bI3 := bI3) (dI := dI) (CC := CC) (GC := GCodeU_initU) (bC := bC)
  exact ok_law (P := progOf) (w := w) (K := K) (mg := mg) (base := base) (F := Flaw) (FB := F_law_bag) (FD := F_law_draw) (FT := F_law_told) (FR := F_law_truths_right) (GB := G_law_bag) (GD := G_law_draw) (GT := G_law_told) (GR := G_law_truths_right) (gB := (He.glo_ok X G (c.fact 72 (f := .glo "_law_bag") rfl))) (gD := (He.glo_ok X G (c.fact 73 (f := .glo "_law_draw") rfl))) (gT := (He.glo_ok X G (c.fact 71 (f := .glo "_law_told") rfl))) (gR := (He.glo_ok X G (c.fact 74 (f := .glo "_law_truths_right") rfl))) (RR := RC) (GI := GRulesU_initU) (bI := bI) (CC := CC) (GC := GCodeU_initU) (bC := bC) (mRange := (He.free_ok X G (c.fact 75 (f := .free "range") rfl))) (mLen := (He.free_ok X G (c.fact 1 (f := .free "len") rfl))) (mList := (He.free_ok X G (c.fact 2 (f := .free "list") rfl))) (mStr := (He.free_ok X G (c.fact 14 (f := .free "str") rfl)))
end Pk
open PyProof.Rows PySem.Calls PySem.W PySem
theorem PySem.Challenge.cw_pagecode_k06_cases_refused_holds : PySem.Challenge.rw_pagecode_k06_cases_refused.Holds := by
  w_on; o_law
  refine HandSHeadRun.head_any (r := OpenLaw.row PySem.Challenge.rw_pagecode_k06_cases_refused) (q := view (OpenLaw.row PySem.Challenge.rw_pagecode_k06_cases_refused).prog [73]) (H := Pk.hkk) (ob := Pk.ob) (M := 20000) (loose := Pk.looseL) (d := HandSHeadRun.topDef (OpenLaw.row PySem.Challenge.rw_pagecode_k06_cases_refused).prog 73) (kwd := []) Pk.ob_eq
    (by kernel_rfl) (fun s => by kernel_rfl) Pk.run_top (by kernel_rfl) (by kernel_rfl) (by kernel_rfl) (by rfl) (by first | assumption | decide +kernel) (by decide +kernel) ⟨rfl, rfl, rfl, rfl, rfl, by decide +kernel⟩ ?hw ?hc
  case hw => w_witness2
  case hc =>
    refine L2.walk_ofE (l := PySem.Challenge.rw_pagecode_k06_cases_refused) (n := 63) (k := 94) (x := "_law_script") (CX := L2.CX0) rfl (by decide) (by kernel_rfl) ⟨rfl, by decide, by decide⟩ ?F (fun _ _ _ _ z => z)
    intro w mg fa h Y G hmg0
    obtain ⟨K, KX, c⟩ := Y; have hmg : mg ("law" : PySem.Str) = some (.ref fa) := by
      have e : (HandSHeadRun.topDef (OpenLaw.row PySem.Challenge.rw_pagecode_k06_cases_refused).prog 73).name = ("law" : PySem.Str) := by kernel_rfl
      rw [← e]
      exact hmg0
    obtain ⟨fd, hb, hF⟩ := Pk.facts (w := w) KX G hmg c
    exact ⟨K, fd, Pk.spLaw1 K, KX, hb, fun H a ns hl _ hS => ⟨a, ns, rfl, hS, hl, fun _ => rfl⟩, hF⟩
