import PyProof.Rows.All
import Wide.All
import OpenK.AllK
import Wide.FinOn
import KE.KExcSuper
import HandS.Base
import HandS.Call
import HandS.List
import HandS.Ends
import HandS.Exc
import HandS.ExcInit
import HandS.ExcField
import HandS.Defaults
import HandS.HeadHook1
import HandS.HeadHook2
import HandS.Words
import HandS.WordsExc
import HandS.ForMost
import HandS.Wide
import HandS.ForExc
import HandS.Codes
import HandS.Style
import HandS.ExcIs
import HandS.TryMany
import HandS.HotCalls
import HandS.DictComp
import HandS.CallSlots
import HandS.SortKw
import KE.DataMinMax
import KE.SortData
import HandS.OwnEq
import HandS.IsInst
import PyProof.InstEq
import HandS.Lambda
import HandS.EndTab
import HandS.HeadWalk
import KE.KNestM
import HandS.Text
import PySem.Challenge.RW_pagecode_k40_whole_rules_in_use
import HandS.StrMore
import HandS.Star
import HandS.TupAny
import HandS.WordsDict
import HandS.NoneIn
import KE.KStateDown
import HandS.More
import HandS.Head0
import HandS.Head1
import HandS.Head2
import HandS.HeadEnd
set_option Elab.async false
set_option linter.all false
set_option maxRecDepth 100000
set_option maxHeartbeats 4200000
/-! Sup: own exception classes over ValueError (with own classes between) whose __init__ begins with super().__init__(text) and then stores its parameters. -/
namespace PySem
namespace Sx
open PyProof.Rows PySem.HandSPX PySem.W PySem.Calls
/-- what the written part says of such a class at C, of its __init__ at f, of the cell and the code object -/
structure SupAt (prog : Program) (K : Frag) (C f cc cda : Addr) : Prop where
  code : ∃ ccl cdd vs ccs file tf, K.lookup cda = some ⟨ccl, cdd, .fields vs, ccs⟩ ∧ vs[2]? = some (.str file tf) ∧ ((prog.main.file : Str) == file) = true
  cell : ∃ cl cld csl, K.lookup cc = some ⟨cl, cld, .cell (some (.ref C)), csl⟩
  sup : ks_superIn K C C "__init__" = some (some (.builtin "ValueError.__init__"))
  ve : subIn K (.ref C) (.type "ValueError") = some true
  self : (mroIn K C (.ref C)) = (some true)
  any : nsIn K cStatics "thirdparty.any" = some none
  cls : ∃ nm q ns bs bm sn sub ab col dd j0 j1 j2 j3 j5, K.lookup C = some (excClassObj nm q C ns bs bm true sn sub ab col dd j0 j1 j2 j3 j5 "ValueError.__new__") ∧ refsVE bm = true
section
variable {prog : Program} {w : World} {A : Around} {E : Value → Shared → Prop} {s : Shared} {K : Frag} {mg mb m : Str → Option Value} {C f cc cda x t0 L : Addr}
variable {q : Str} {scope : Scope} {body : List Stmt} {fd : FuncData} {oc : Value} {od : Option Addr} {osl : Array (Option Value)} {ar : Arg}
/-- how the call super().__init__(text) is evaluated where its places are known -/
def SupEv (p0 p1 p2 p3 p4 : Pos) (j : Nat) (txt : Str) (q : Str) (scope : Scope) (pl : Sem Bool) : Prop := ∀ (L f : Addr) (cd : Value) (cc : Addr),
  eval (.Call (.Attribute (.Call (.Name "super" p0) [] [] p1) "__init__" p2) [.Constant (.str txt) j p3] [] p4) (ksEnv q scope L f cd cc) = (do
      let ov ← attributeBase (.Call (.Name "super" p0) [] [] p1) "__init__" (ksEnv q scope L f cd cc) (eval (.Call (.Name "super" p0) [] [] p1) (ksEnv q scope L f cd cc))
      standAt p2.atName
      let (fx, first) ← holding [ov] (getMethod ov "__init__" pl)
      callWith p4 fx first (backTo p4 (starEach [.Constant (.str txt) j p3] (ksEnv q scope L f cd cc))) [])
theorem first_stmt {p0 p1 p2 p3 p4 p5 : Pos} {j : Nat} {txt : Str} {Q : Flow → Shared → Prop}
    (X : K.In s.heap) (G : s.heap.Ns mainGlobals mg) (hmg : mg "super" = none) (B : s.heap.Ns builtinsNs mb) (hmb : mb "super" = some (.type "super"))
    (S : SupAt prog K C f cc cda) (hf : K.lookup f = some ⟨oc, od, .func fd, osl⟩) (hp : (fd.params.posonlyargs ++ fd.params.args).head? = some ar) (har : ar.arg = ("self" : Str))
    (hn : s.heap.Ns L m) (hv : m "self" = some (.ref x)) (hx : s.heap.get? x = some (excO C t0))
    (hks : scope.names.lookup ("super" : Str) = some .globalImplicit) (hkc : scope.names.lookup ("__class__" : Str) = some .free) (hka : scope.names.lookup ("self" : Str) = some .local) (hk : scope.kind = .function)
    (htop : (prog.main.scope.names.lookup ("super" : Str)).isSome = false) {pl : Sem Bool} (hev : SupEv p0 p1 p2 p3 p4 j txt q scope pl)
    (hq : ∀ h' tk t', (∀ b o, b ≠ x → s.heap.get? b = some o → h'.get? b = some o) → h'.get? x = some (excO C t') → Q .next { s with heap := h', toks := tk }) :
    _root_.PySem.wpAt (model prog w) A (.func body (ksEnv q scope L f (.ref cda) cc)) (exec (.Expr (.Call (.Attribute (.Call (.Name "super" p0) [] [] p1) "__init__" p2) [.Constant (.str txt) j p3] [] p4) p5) (ksEnv q scope L f (.ref cda) cc)) Q E s := by
  obtain ⟨ccl, cdd, vs, ccs, file, tf, hcode, hvs, hfile⟩ := S.code
  obtain ⟨cl, cld, csl, hcell⟩ := S.cell
  obtain ⟨nm, q', N, bs, bm, sn, sub, ab, col, dd, k0, k1, k2, k3, k5, hC, hbm⟩ := S.cls
  have hcl : clsIn K C = some { name := nm, bases := bs, mro := .ref C :: bm, ns := N, qualname := q', hasDict := true, slotNames := sn, subclasses := sub, abstract := ab, collection := col, hasDel := false } := by unfold clsIn; rw [hC] <;> rfl
  have I0 : InstAt s.heap x (excO C t0) C none := ⟨hx, rfl, rfl, trivial⟩
  have hne : x ≠ C := ks_ne X I0 hcl
  obtain ⟨hh, g, d, t, os⟩ := s
  refine ks_wpAt_Expr_any ?_ (by simp [interactive, hk])
  refine ks_wpAt_MethodCall ?_ (hev L f (.ref cda) cc)
  refine ks_wpAt_super_base (env := ksEnv q scope L f (.ref cda) cc) hks hkc (by decide) rfl (X _ _ hf) rfl hp rfl (X _ _ hcode) rfl hvs hfile htop ?_
  refine ks_loadName_global hk hks (loadGlobal_builtin (env := ksEnv q scope L f (.ref cda) cc) G hmg B hmb ⟨rfl, ?_⟩)
  refine wpAny_loadName_free hk hkc rfl ⟨_, X _ _ hcell, rfl⟩ ?_; rw [har]
  refine wpAny_loadName_local hk hka hn hv ?_
  have hD1 := X _ _ hC
  refine ks_wpAny_isType_cls hD1 rfl ⟨rfl, ?_⟩
  refine ks_wpAny_call_super hD1 rfl hx rfl (fun c e => by cases e) (looks_mroIn X S.self) (fun h1 e1 k1 => ?_)
  have X1 : K.In h1 := X.keeps k1
  have I1 : InstAt h1 x (excO C t0) C none := ⟨k1 _ _ hx, rfl, rfl, trivial⟩
  have hm := S.sup
  unfold ks_superIn at hm
  rw [hcl] at hm
  refine kxs_getMethod kxs_ValueError e1 (looks_opaque X1 S.any) (l₀ := .ref C :: bm) (fun A Q E s k q => wpAny_bind ((looks_clsIn X1 hcl) A _ E s k (wpAny_pure q))) rfl X1 hm (I1.type.andThen (looks_subIn X1 S.ve)) hne (by decide) ?_
  have he : starEach [Expr.Constant (.str txt) j p3] (ksEnv q scope L f (.ref cda) cc) = (false, eval (.Constant (.str txt) j p3) (ksEnv q scope L f (.ref cda) cc)) :: starEach [] (ksEnv q scope L f (.ref cda) cc) := by rfl
  rw [he]
  refine kxs_callWith (i := "ValueError.__init__") (x := x) (by rfl) (evalArgs_plain ?_)
  show wpAny _ _ (spliced ((false, eval (.Constant (.str txt) j p3) (ksEnv q scope L f (.ref cda) cc)) :: backTo p4 (starEach [] (ksEnv q scope L f (.ref cda) cc)))) _ _ _
  refine Calls.spliced_cons (Calls.Constant_str (Calls.spliced_nil ⟨Heap.get?_push_size _ rfl, ?_⟩))
  show wpAny _ _ (call (.ref h1.objs.size) [.str txt _]) _ _ _
  have k2 : ∀ b o, h1.get? b = some o → (h1.push (kxs_mw "ValueError.__init__" x)).get? b = some o := fun b o e => Heap.get?_push_of_some _ e
  have hx2 := k2 _ _ (k1 _ _ hx)
  have hC2 := k2 _ _ (k1 _ _ hD1)
  have hu : (h1.push (kxs_mw "ValueError.__init__" x)).get? h1.objs.size = some (kxs_mw "ValueError.__init__" x) := Heap.get?_push_size _ rfl
  refine wpAny_call (codeAny_of_tree ?_); show wpAny _ A.in1 (callAny (.ref h1.objs.size) ⟨[.str txt _], []⟩) _ _ _
  simp only [callAny]
  refine wpAny_bind (wpAny_load hu ?_); simp only [kxs_mw, show (Value.type "method-wrapper" == Value.type "method" || Value.type "method-wrapper" == Value.type "builtin_function_or_method" || Value.type "method-wrapper" == Value.type "method-wrapper") = true by decide, if_true]
  refine KFB.if_so (by decide) ?_; refine wpAny_bind (check_bound_init F.excBase_ValueError.toExcCallFacts hC2 hx2 rfl ?_)
  refine wpAny_bind (wpAny_pure (wpAny_pure ?_)); refine ⟨plainId_quiet F.excBase_ValueError.init.plain _, codeAny_builtin F.excBase_ValueError.initEntry ?_⟩
  rw [Around.under_plainId F.excBase_ValueError.init.plain _]
  refine exc_init_tree (cls := .ref C) (t0 := t0) (dv := none) (c2 := .none) (c3 := .none) (b4 := .bool false) hx2 (by rw [sizeLine_eq]; simp) (fun h3 k3 e3 _ => ?_)
  exact hq h3 _ _ (fun b o hb e => k3 b o hb (k2 b o (k1 b o e))) e3
end
end Sx
end PySem
namespace L2
open PyProof.Rows PySem.Spec PySem
/-- the scope of such an __init__ -/
structure FnScopeS (N P : List Str) (sc : Scope) : Prop where
  kind : sc.kind = .function
  co : sc.isCoroutine = false
  gen : sc.isGenerator = false
  nd : N.Nodup
  pre : N.take P.length = P
  par : ∀ x ∈ P, sc.names.lookup x = some .local
  nocell : ∀ nk ∈ sc.names, nk.2 ≠ .cell
  free : ∀ y ∈ sc.names, y.2 = .free → y.1 = ("__class__" : Str)
  ks : sc.names.lookup ("super" : Str) = some .globalImplicit
  kc : sc.names.lookup ("__class__" : Str) = some .free
abbrev envS (qual : Str) (scope : Scope) (L f : Addr) (cd : Value) (cc : Addr) : Env := PySem.W.ksEnv qual scope L f cd cc
/-- the context of its body behind the first statement -/
def cxOfS (CX : CXT) (P : Program) (w : World) (K : PySem.W.Frag) (mg : Str → Option Value) (base : Heap) (N : List Str) (qual : Str) (scope : Scope) (f : Addr) (cd : Value) (cc : Addr) (A : Around) (outer : List Env) (s : Shared) (H : Hp) (E : XK) : Cx where
  prog := P
  w := w
  K := K
  mg := mg
  base := base
  A := A.deeper (envS qual scope s.heap.objs.size f cd cc)
  N := N
  s_0 := s
  H_0 := H
  env := envS qual scope s.heap.objs.size f cd cc
  outer := outer
  stack := envS qual scope s.heap.objs.size f cd cc :: outer
  ex := []
  calm := true
  fn := fun x => !decide (x = ("__class__" : Str))
  pn := []
  xe := fun e s' => wpAny (model P w) (A.deeper (envS qual scope s.heap.objs.size f cd cc)) (leaving (envS qual scope s.heap.objs.size f cd cc) e) (fun _ s'' => CX outer H s E e s'') (fun e' s'' => CX outer H s E e' s'') s'
theorem lookup_sx {y : Str} {u : Value} : ∀ {l : List (Str × Value)}, (l.map (·.1)).Nodup → (y, u) ∈ l → l.lookup y = some u
  | [], _, h => by cases h
  | (n, v) :: r, nd, h => by
    rw [List.map_cons, List.nodup_cons] at nd; by_cases e : y = n
    · subst e
      rcases List.mem_cons.mp h with h | h
      · injection h with _ h2
        rw [h2]
        simp [List.lookup]
      · exact absurd (List.mem_map.mpr ⟨(y, u), h, rfl⟩) nd.1
    · rcases List.mem_cons.mp h with h | h
      · injection h with h1 _
        exact absurd h1 e
      · have q : (y == n) = false := by simpa using e
        simp only [List.lookup, q]
        exact lookup_sx nd.2 h
theorem fn_sup {CX : CXT} {P : Program} {w : World} {K : PySem.W.Frag} {mg : Str → Option Value} {base : Heap} {k : Nat} {f C cc cda : Addr} {name qual : Str} {params : Arguments} {rest : List Stmt} {scope : Scope} {dV kV doc pm ct oc : Value} {an od : Option Addr}
    {osl : Array (Option Value)} {N ps : List Str} {sp : Sp} {ar : Arg} {p0 p1 p2 p3 p4 p5 : Pos} {j : Nat} {txt : Str}
    (lk : K.lookup f = some ⟨oc, od, .func (PySem.W.ksFn name qual params (.Expr (.Call (.Attribute (.Call (.Name "super" p0) [] [] p1) "__init__" p2) [.Constant (.str txt) j p3] [] p4) p5 :: rest) scope dV kV doc pm an (.ref cda) ct cc), osl⟩)
    (hcd : PySem.W.codeIn K (.ref cda) qual = true) (S : FnScopeS N ps scope) (T : PySem.Sx.SupAt P K C f cc cda) (hmg : mg "super" = none)
    (hp : (params.posonlyargs ++ params.args).head? = some ar) (har : ar.arg = ("self" : Str)) (hps : ps.head? = some ("self" : Str)) (htop : (P.main.scope.names.lookup ("super" : Str)).isSome = false) {pl : Sem Bool} (hev : PySem.Sx.SupEv p0 p1 p2 p3 p4 j txt qual scope pl)
    (len : ∀ ws Hw Qw Ew, sp ws Hw Qw Ew → ws.length = ps.length)
    (hbody : ∀ (A : Around) (outer : List Env) (s : Shared) (H : Hp) (vs : List V) (Q : VK) (E : XK), Room k (A.deeper (envS qual scope s.heap.objs.size f (.ref cda) cc)) → sp vs H Q E →
      ∃ a ws t, vs = .ref a :: ws ∧ H a = some (exo a C none) ∧ PSs (cxOfS CX P w K mg base N qual scope f (.ref cda) cc A outer s H E) rest t ∧ t { nx := fun _ H' => Q .non H', rt := Q } (start N vs) H) :
    FnOk P w K mg base CX (k + 1) f (PySem.W.ksFn name qual params (.Expr (.Call (.Attribute (.Call (.Name "super" p0) [] [] p1) "__init__" p2) [.Constant (.str txt) j p3] [] p4) p5 :: rest) scope dV kV doc pm an (.ref cda) ct cc) ps sp := by
  refine ⟨len, fun A outer s H args us vs Q E hr e0 hb r hsp => ?_⟩; have hl := len _ _ _ _ hsp
  have KX : K.In s.heap := e0.mod.kin.keeps fun b o e => (e0.bs b o e).1; have lim : s.heap.NoLimit := e0.mod.nolimit.keeps fun b o e => (e0.bs b o e).1
  obtain ⟨a, ws, t, rfl, hHa, ht, hq⟩ := hbody A outer s H _ Q E (hr.deeper _) hsp
  obtain ⟨t0, hxa⟩ := exo_at e0.hok hHa
  have hps' : ∃ pr, ps = ("self" : Str) :: pr := by
    cases ps with
    | nil => cases hps
    | cons p pr => cases hps; exact ⟨pr, rfl⟩
  obtain ⟨pr, rfl⟩ := hps'
  cases r with
  | @cons _ u0 _ ur ra rw' =>
  obtain rfl : u0 = Value.ref a := ra; have hloc : ∀ y ∈ (("self" : Str) :: pr).zip (Value.ref a :: ur), scope.names.lookup y.1 = some .local := fun ⟨n, v⟩ hy => S.par n (List.of_mem_zip hy).1
  refine PySem.ks_codeAny_call_defAt (fd := PySem.W.ksFn name qual params (.Expr (.Call (.Attribute (.Call (.Name "super" p0) [] [] p1) "__init__" p2) [.Constant (.str txt) j p3] [] p4) p5 :: rest) scope dV kV doc pm an (.ref cda) ct cc)
    (body := .Expr (.Call (.Attribute (.Call (.Name "super" p0) [] [] p1) "__init__" p2) [.Constant (.str txt) j p3] [] p4) p5 :: rest) (binds := (("self" : Str) :: pr).zip (Value.ref a :: ur)) hr.depth (KX _ _ lk) rfl lim (PySem.W.codeRec_of KX hcd) rfl hb S.nocell hloc (fun h₁ hns hk₁ => ?_) S.co S.gen S.kind
  refine PySem.ks_wpAt_execs_cons ?_
  obtain ⟨mb, hB, hmb⟩ := e0.mod.blt
  have kb : ∀ b o, base.get? b = some o → h₁.get? b = some o := fun b o e => hk₁ b o ((e0.bs b o e).1)
  have ndP : (("self" : Str) :: pr).Nodup := by rw [← S.pre]; exact S.nd.sublist (List.take_sublist _ _)
  have hLa : s.heap.objs.size ≠ a := Nat.ne_of_gt (Heap.lt_size hxa)
  have hlu : (("self" : Str) :: pr).length = (Value.ref a :: ur).length := by
    have e1 := rw'.length
    have e2 : (V.ref a :: ws).length = (("self" : Str) :: pr).length := hl
    rw [← e2, List.length_cons, List.length_cons, e1]
  have hget : ∀ {i : Nat} {y : Str} {u : Value}, (("self" : Str) :: pr)[i]? = some y → (Value.ref a :: ur)[i]? = some u → ((("self" : Str) :: pr).zip (Value.ref a :: ur)).reverse.lookup y = some u := by
    intro i y u h1 h2
    have hm : (y, u) ∈ (("self" : Str) :: pr).zip (Value.ref a :: ur) := by
      refine List.mem_of_getElem? (i := i) ?_
      rw [List.getElem?_zip_eq_some]
      exact ⟨h1, h2⟩
    refine lookup_sx ?_ (List.mem_reverse.mpr hm)
    rw [List.map_reverse]
    refine (List.reverse_perm _).nodup_iff.mpr ?_
    rw [List.map_fst_zip (Nat.le_of_eq hlu)]
    exact ndP
  refine PySem.Sx.first_stmt (PySem.W.Frag.In.keeps KX hk₁) ((e0.mod.glob).keeps kb) hmg (hB.keeps kb) ((hmb _ (by decide)).trans (by first | boot_by_name | rfl | kernel_rfl)) T lk hp har hns (hget (i := 0) rfl rfl) (hk₁ _ _ hxa) S.ks S.kc (S.par _ List.mem_cons_self) S.kind htop hev (fun h' tk t' keep hx' => ?_)
  refine wpAt_of_wpAny ?_
  have ne_a : ∀ {b : Addr}, H b = none → b ≠ a := fun {b} n z => by rw [z, hHa] at n; cases n
  obtain ⟨clc, cld, csl, hcell⟩ := T.cell
  obtain ⟨oC, hbC⟩ : ∃ o, base.get? cc = some o := ⟨_, e0.mod.kin _ _ hcell⟩
  have ncc : H cc = none := (e0.bs _ _ hbC).2
  have hcc : h'.get? cc = some ⟨clc, cld, .cell (some (.ref C)), csl⟩ := keep _ _ (ne_a ncc) (hk₁ _ _ (KX _ _ hcell))
  have hLf : H s.heap.objs.size = none := e0.hok.fresh (Nat.le_refl _)
  have old : ∀ b o, b ≠ a → s.heap.get? b = some o → h'.get? b = some o := fun b o hb e => keep b o hb (hk₁ b o e)
  have hns' : h'.Ns s.heap.objs.size (fun x => ((("self" : Str) :: pr).zip (Value.ref a :: ur)).reverse.lookup x) := by
    obtain ⟨o, es, ep, ho, r⟩ := hns
    exact ⟨o, es, ep, keep _ _ hLa ho, r⟩
  have noA : ∀ b : Addr, b ∉ (cxOfS CX P w K mg base N qual scope f (.ref cda) cc A outer s H E).ex := fun b z => absurd (show b ∈ ([] : List Addr) from z) (by simp)
  have cellOnly : ∀ {y : Str} {c : Addr}, (cxOfS CX P w K mg base N qual scope f (.ref cda) cc A outer s H E).env.cells.lookup y = some c → y = ("__class__" : Str) ∧ c = cc := by
    intro y c h
    have h2 : List.lookup y [(("__class__" : Str), cc)] = some c := h
    by_cases e : y = ("__class__" : Str)
    · subst e
      simp [List.lookup] at h2
      exact ⟨rfl, h2.symm⟩
    · have q : (y == ("__class__" : Str)) = false := by simpa using e
      simp [List.lookup, q] at h2
  have hpl : (("self" : Str) :: pr).length ≤ N.length := by have := congrArg List.length S.pre; rw [List.length_take] at this; omega
  have ok : (cxOfS CX P w K mg base N qual scope f (.ref cda) cc A outer s H E).Ok := by
    refine ⟨e0.mod, S.kind, rfl, rfl, Nat.le_refl _, fun y z c h1 h2 => ?_, fun y hy => ?_, fun y c hf h => ?_, fun _ => hr.hd, Around.frames_deeper e0.frames, .inr ⟨rfl, rfl⟩, fun b z => absurd z (noA b), e0.bs, e0.bsz, fun b _ _ => noA b, fun b z => absurd z (noA b), e0.funs, e0.frf⟩
    · rw [(cellOnly h1).1, (cellOnly h2).1]
    · have hy : scope.names.lookup y = some .cell ∨ scope.names.lookup y = some .free := hy; rcases hy with hy | hy
      · exact (S.nocell _ (PySem.mem_of_lookup hy) rfl).elim
      · have e := S.free _ (PySem.mem_of_lookup hy) rfl
        refine ⟨cc, ?_⟩
        show List.lookup y [(("__class__" : Str), cc)] = some cc
        have e' : y = ("__class__" : Str) := e
        rw [e']
        simp [List.lookup]
    · have e := (cellOnly h).1
      have hf' : (!decide (y = ("__class__" : Str))) = true := hf
      rw [decide_eq_true e] at hf'
      cases hf'
  have I : Inv (cxOfS CX P w K mg base N qual scope f (.ref cda) cc A outer s H E) [] (start N (.ref a :: ws)) H ⟨h', s.gens, s.drawn, tk, s.os⟩ := by
    refine ⟨ok, rfl, e0.bare, ⟨fun b o q n _ _ => old b o (ne_a n) q, fun b o q n _ _ => ⟨o.slots, old b o (ne_a n) q⟩, fun _ _ _ n _ => n, fun b o q _ => ?_, fun _ _ q => q, fun _ _ _ q => q, fun b ps q => ⟨#[], ?_⟩⟩,
      ⟨_, hns', fun i y v h1 h2 h3 => ?_⟩, fun y c h => ?_, hLf, fun y c h => ?_, fun p hp => absurd (show p ∈ ([] : List (Addr × Obj)) from hp) (by simp), fun b u q => ?_, ?_⟩
    · by_cases hb : b = a
      · exact ⟨_, by rw [hb]; exact hx'⟩
      · exact ⟨o, old b o hb q⟩
    · have q' : H b = some (.tbl ps) := q
      show H b = some (.tbl (ps ++ #[]))
      rw [q']
      simp
    · have hi : i < (V.ref a :: ws).length := by
        unfold start at h2
        by_cases hi : i < (V.ref a :: ws).length
        · exact hi
        · rw [List.getElem?_append_right (by simpa using hi)] at h2; rw [List.getElem?_replicate] at h2
          split at h2 <;> cases h2
      have ha : (V.ref a :: ws)[i]? = some v := by
        unfold start at h2
        rw [List.getElem?_append_left (by simpa using hi), List.getElem?_map] at h2; cases e : (V.ref a :: ws)[i]? with
        | none => (rw [e] at h2; cases h2)
        | some b => rw [e] at h2; cases h2; rfl
      have rall : Vals (V.ref a :: ws) (Value.ref a :: ur) := Paired.cons (rfl : RelV (.ref a) (Value.ref a)) rw'
      obtain ⟨u, hu, rv⟩ := Vals.get rall ha
      have hpy : (("self" : Str) :: pr)[i]? = some y := by
        rw [← S.pre, List.getElem?_take_of_lt (by rw [hl] at hi; exact hi)]
        exact h1
      exact ⟨u, rv, .inl ⟨S.par y (List.mem_of_getElem? hpy), hget hpy hu⟩⟩
    · rw [(cellOnly h).2]
      exact ⟨_, _, hcc, rfl⟩
    · rw [(cellOnly h).2]
      exact ncc
    · by_cases hb : b = a
      · subst hb
        have q' : H b = some u := q
        rw [hHa] at q'
        cases q'
        exact exo_ok hx'
      · refine (e0.hok b u q).stay (fun c v hc z => old c v ?_ z) (fun _ z => z) fun _ _ z => z
        rcases hc with hc | hc
        · rw [hc]; exact hb
        · exact at_ne hHa hc exo_own
    · unfold start
      show _ = N.length
      rw [List.length_append, List.length_map, List.length_replicate]; have : (V.ref a :: ws).length = (("self" : Str) :: pr).length := hl
      omega
  refine wpAny_mono (ht.run [] _ (start N _) H _ I hq) (fun fl s' hs => ?_) fun e s' hs => hs
  have fin : ∀ {σ' : St} {H' : Hp} {v : V} {u : Value}, Inv (cxOfS CX P w K mg base N qual scope f (.ref cda) cc A outer s H E) [] σ' H' s' → RelV v u → Q v H' → CE outer P w H s Q u s' :=
    fun {_ Hz vz uz} J rz qz => ⟨vz, Hz, J.os, J.bare, J.base, J.hok, rz, qz⟩
  cases fl with
  | ret u =>
    obtain ⟨v, σ', H', J, rv, q⟩ := hs; exact fin J rv q
  | next =>
    obtain ⟨σ', H', J, q⟩ := hs; exact fin (v := V.non) (u := Value.none) J rfl q
  | brk =>
    obtain ⟨_, _, _, q⟩ := hs
    exact False.elim q
  | cont =>
    obtain ⟨_, _, _, q⟩ := hs
    exact False.elim q
end L2
namespace L2
open PyProof.Rows PySem.Spec PySem
/-! ### the end of C() without own fields -/
theorem mk_endN {X : Cx} {pins : List (Addr × Obj)} {σ : St} {H1 H2 : Hp} {Q : XK} {hp hp2 h2 : Heap} {g1 g2 : Array GenState} {d1 d2 : Drawn} {t1 t2 : Nat} {os1 os2 : OsState} {a C : Addr} (T : Raises X (.ref C)) (I1 : Inv X pins σ H1 ⟨hp, g1, d1, t1, os1⟩)
    (ha : hp.objs.size ≤ a) (k : ∀ x u, hp.get? x = some u → hp2.get? x = some u) (un : Un (frs X.stack) [] (upd H1 a (exo a C none)) H2 hp2 h2) (hok : HOk X.prog X.w H2 h2) (ho : os2 = os1) (hb : AllBare g2)
    (ea : H2 a = some (exo a C none)) (q : Q (.ref C) none (del H2 a)) : MkP X pins σ Q (.ref a) ⟨h2, g2, d2, t2, os2⟩ := by
  obtain ⟨t0, hoe⟩ := exo_at hok ea; have hn : H1 a = none := I1.hok.fresh ha
  obtain ⟨G, g1', g2'⟩ := restrict h2 fun b => decide (b ≠ a); have gk : ∀ b, b ≠ a → G.get? b = h2.get? b := fun b hb => g1' b (decide_eq_true hb)
  have ge : G.get? a = none := g2' a (by simp); have nha : ∀ {b : Addr} {o : Obj}, hp.get? b = some o → b ≠ a := fun {b o} z => Nat.ne_of_lt (Nat.lt_of_lt_of_le (Heap.lt_size z) ha); have up : ∀ {b : Addr}, b ≠ a → H1 b = none → upd H1 a (exo a C none) b = none := fun {b} hb n => by rw [upd_ne hb]; exact n
  have U : Un (frs X.stack) [] H1 (del H2 a) hp G := {
    keep := fun b o z n (hf) (hx) => by
      rw [gk b (nha z)]; exact un.keep b o (k b o z) (up (nha z) n) hf hx
    slot := fun b o z n (hf) (hx) => by
      rw [gk b (nha z)]; exact un.slot b o (k b o z) (up (nha z) n) hf hx
    free := fun b o z n hx => by
      rw [del_ne (nha z)]; exact un.free b o (k b o z) (up (nha z) n) hx
    there := fun b o z hx => by
      rw [gk b (nha z)]; exact un.there b o (k b o z) hx
    tups := fun b xs z => by
      rw [del_ne (ne_of_none z hn)]; exact un.tups b xs (by rw [upd_ne (ne_of_none z hn)]; exact z)
    frzs := fun b o v z => by
      rw [del_ne (ne_of_none z hn)]; exact un.frzs b o v (by rw [upd_ne (ne_of_none z hn)]; exact z)
    tbls := fun b ps z => by
      rw [del_ne (ne_of_none z hn)]; exact un.tbls b ps (by rw [upd_ne (ne_of_none z hn)]; exact z) }
  have hok3 : HOk X.prog X.w (del H2 a) G := fun b o z => by
    have hba : ¬ b = a := fun e => by
      rw [e, del_same] at z
      cases z
    rw [del_ne hba] at z
    have noa : ∀ {c : Addr}, H2 c = some (.own b) → c ≠ a := fun {c} hc => at_ne ea hc exo_own; exact (hok b o z).stay (fun c v hc y => by
        have hca : c ≠ a := by
          rcases hc with hc | hc
          · rw [hc]
            exact hba
          · exact noa hc
        rw [gk c hca]
        exact y)
      (fun c hc => by rw [del_ne (noa hc)]; exact hc) (fun c xs hc => by rw [del_ne (at_ne ea hc exo_tup)]; exact hc)
  have J : Inv X pins σ (del H2 a) ⟨G, g2, d2, t2, os2⟩ := I1.call' (ch := []) ho U hok3 hb (fun b z => absurd z (by simp))
  refine ⟨a, _, _, ⟨G, g2, d2, t2, os2⟩, _, .ref C, none, rfl, J, fun b o z => ?_, ge, hoe, ⟨rfl, rfl⟩, rfl, rfl, del_same, rfl, hb, T, q⟩
  by_cases hba : b = a
  · rw [hba, ge] at z
    cases z
  · exact ((gk b hba).symm).trans z
/-! ### promises of the __init__s -/
def spSup0 (C : Addr) : Sp := fun vs H Q _ => ∃ a, vs = [.ref a] ∧ H a = some (exo a C none) ∧ Q .non H
def spSup1 (C : Addr) (f : Str) : Sp := fun vs H Q _ => ∃ a v, vs = [.ref a, v] ∧ H a = some (exo a C none) ∧ ∀ d, H d = none → d ≠ a → Q .non (upd (upd H d (exd d [(f, v)])) a (exo a C (some d)))
def spSup3 (C : Addr) (f g h : Str) : Sp := fun vs H Q _ => ∃ a u v w, vs = [.ref a, u, v, w] ∧ H a = some (exo a C none) ∧
  ∀ d, H d = none → d ≠ a → Q .non (upd (upd (upd (upd H d (exd d [(f, u)])) a (exo a C (some d))) d (exd d [(g, v), (f, u)])) d (exd d [(h, w), (g, v), (f, u)]))
section
variable {X : Cx} {e : Expr} {es : List Expr} {te : TE} {ta : TA} {p pos : Pos}
theorem pe_mon (h : PE X e te) : PE X e (fun σ H Q => ∃ Q0 : VK, te σ H Q0 ∧ ∀ x H1, Q0 x H1 → Q x H1) :=
  ⟨fun pins s σ H Q I ⟨Q0, h0, hi⟩ => thn (h.run pins s σ H Q0 I h0) fun u s1 ⟨x, H1, I1, r1, q1⟩ => ⟨x, H1, I1, r1, hi x H1 q1⟩⟩
theorem pa_mon (h : PA X es ta) : PA X es (fun σ H Q => ∃ Q0 : List V → Hp → Prop, ta σ H Q0 ∧ ∀ x H1, Q0 x H1 → Q x H1) :=
  ⟨fun pos pins s σ H Q I ⟨Q0, h0, hi⟩ => thn (h.run pos pins s σ H Q0 I h0) fun u s1 ⟨x, H1, I1, r1, q1⟩ => ⟨x, H1, I1, r1, hi x H1 q1⟩⟩
theorem pmk_imp {t t' : St → Hp → XK → Prop} (h : PMk X e t) (hi : ∀ σ H Q, t' σ H Q → t σ H Q) : PMk X e t' := fun pins s σ H Q I q => h pins s σ H Q I (hi _ _ _ q)
/-- the facts of one error class of the program -/
structure SupC (K : PySem.W.Frag) (mg : Str → Option Value) (x : Str) (C fI : Addr) : Prop where
  oex : OexC K C
  iC : PySem.W.findIn K (.ref C) "__init__" = some (some (.ref fI))
  tI : PySem.W.typeIn K (.ref fI) = some (.type "function")
  gC : mg x = some (.ref C)
theorem del_upd2 {H : Hp} {a d : Addr} {o1 o2 : HO} {fs : List (Str × V)} (ha : H a = none) (hd : d ≠ a) : upd (del (upd (upd H d o1) a o2) a) d (.xd fs) = upd H d (.xd fs) := by
  funext b
  by_cases h1 : b = d
  · rw [h1, upd_same, upd_same]
  · rw [upd_ne h1, upd_ne h1]
    by_cases h2 : b = a
    · rw [h2, del_same, ha]
    · rw [del_ne h2, upd_ne h2, upd_ne h1]
/-- C(e) -/
theorem pmk_sup1 {CX : CXT} {x : Str} {C fI : Addr} {k : Nat} {fd : FuncData} {f pn : Str} (T : SupC X.K X.mg x C fI) (F1 : FnOk X.prog X.w X.K X.mg X.base CX k fI fd ["self", pn] (spSup1 C f)) (hr : Room (k + 1) X.A)
    (hb : Binds X.K fd ["self", pn] []) (hx : Passes CX X (fun _ _ _ => False)) (hg : Gl X x) (he : PE X e te) (hdb : (x == ("__debug__" : Str)) = false := by decide)
    (hs : starEach [e] X.env = (false, eval e X.env) :: starEach [] X.env := by rfl) (hpl : (backTo pos (starEach [] X.env)).any (·.1) = false := by rfl) :
    PMk X (.Call (.Name x p) [e] [] pos) (fun σ H Q => te σ H fun v H1 => ∀ d, H1 d = none → Q (.ref C) (some d) (upd H1 d (.xd [(f, v)]))) := by
  refine pmk_imp (pmk_oex T.oex T.iC T.tI F1 hr hb .nil hx hg T.gC (pa_cons (pe_mon he) pa_nil hs) hdb hs hpl) fun σ H Q q => ?_
  refine ⟨_, q, fun v H1 q1 => ⟨by simp, fun a ha => ?_⟩⟩
  refine ⟨a, v, rfl, upd_same, fun d hd hda => ⟨rfl, d, [(f, v)], upd_same, by rw [upd_ne hda]; exact upd_same, ?_, ?_⟩⟩
  · rw [upd_ne hda] at hd
    exact hd
  · have hd' : H1 d = none := by rw [upd_ne hda] at hd; exact hd
    have eq : upd (del (upd (upd (upd H1 a (exo a C none)) d (exd d [(f, v)])) a (exo a C (some d))) a) d (.xd [(f, v)]) = upd H1 d (.xd [(f, v)]) := by
      funext b
      by_cases h1 : b = d
      · rw [h1, upd_same, upd_same]
      · rw [upd_ne h1, upd_ne h1]
        by_cases h2 : b = a
        · rw [h2, del_same, ha]
        · rw [del_ne h2, upd_ne h2, upd_ne h1, upd_ne h2]
    rw [eq]
    exact q1 d hd'
/-- C(e1, e2, e3) -/
theorem pmk_sup3 {CX : CXT} {x : Str} {C fI : Addr} {k : Nat} {fd : FuncData} {f g h p1 p2 p3 : Str} {e2 e3 : Expr} {t2 t3 : TE} (T : SupC X.K X.mg x C fI) (F1 : FnOk X.prog X.w X.K X.mg X.base CX k fI fd ["self", p1, p2, p3] (spSup3 C f g h)) (hr : Room (k + 1) X.A)
    (hb : Binds X.K fd ["self", p1, p2, p3] []) (hx : Passes CX X (fun _ _ _ => False)) (hg : Gl X x) (he : PE X e te) (he2 : PE X e2 t2) (he3 : PE X e3 t3) (hdb : (x == ("__debug__" : Str)) = false := by decide)
    (hs : starEach [e, e2, e3] X.env = (false, eval e X.env) :: starEach [e2, e3] X.env := by rfl) (hpl : (backTo pos (starEach [e2, e3] X.env)).any (·.1) = false := by rfl)
    (hs2 : starEach [e2, e3] X.env = (false, eval e2 X.env) :: starEach [e3] X.env := by rfl) (hs3 : starEach [e3] X.env = (false, eval e3 X.env) :: starEach [] X.env := by rfl) :
    PMk X (.Call (.Name x p) [e, e2, e3] [] pos) (fun σ H Q => te σ H fun u H1 => t2 σ H1 fun v H2 => t3 σ H2 fun w H3 => ∀ d, H3 d = none → Q (.ref C) (some d) (upd H3 d (.xd [(h, w), (g, v), (f, u)]))) := by
  refine pmk_imp (pmk_oex T.oex T.iC T.tI F1 hr hb .nil hx hg T.gC (pa_cons (pe_mon he) (pa_cons (pe_mon he2) (pa_cons (pe_mon he3) pa_nil hs3) hs2) hs) hdb hs hpl) fun σ H Q q => ?_
  refine ⟨_, q, fun u H1 q1 => ⟨_, q1, fun v H2 q2 => ⟨_, q2, fun w H3 q3 => ⟨by simp, fun a ha => ?_⟩⟩⟩⟩
  refine ⟨a, u, v, w, rfl, upd_same, fun d hd hda => ⟨rfl, d, [(h, w), (g, v), (f, u)], ?_, upd_same, ?_, ?_⟩⟩
  · rw [upd_ne (Ne.symm hda), upd_ne (Ne.symm hda)]
    exact upd_same
  · rw [upd_ne hda] at hd
    exact hd
  · have hd' : H3 d = none := by rw [upd_ne hda] at hd; exact hd
    have eq : upd (del (upd (upd (upd (upd (upd H3 a (exo a C none)) d (exd d [(f, u)])) a (exo a C (some d))) d (exd d [(g, v), (f, u)])) d (exd d [(h, w), (g, v), (f, u)])) a) d (.xd [(h, w), (g, v), (f, u)]) = upd H3 d (.xd [(h, w), (g, v), (f, u)]) := by
      funext b
      by_cases h1 : b = d
      · rw [h1, upd_same, upd_same]
      · rw [upd_ne h1, upd_ne h1]
        by_cases h2 : b = a
        · rw [h2, del_same, ha]
        · rw [del_ne h2, upd_ne h1, upd_ne h1, upd_ne h2, upd_ne h1, upd_ne h2]
    rw [eq]
    exact q3 d hd'
/-- C() -/
theorem pmk_sup0 {CX : CXT} {x : Str} {C fI : Addr} {k : Nat} {fd : FuncData} (T : SupC X.K X.mg x C fI) (F1 : FnOk X.prog X.w X.K X.mg X.base CX k fI fd ["self"] (spSup0 C)) (hr : Room (k + 1) X.A)
    (hb : Binds X.K fd ["self"] []) (hx : Passes CX X (fun _ _ _ => False)) (hg : Gl X x) (hdb : (x == ("__debug__" : Str)) = false := by decide) :
    PMk X (.Call (.Name x p) [] [] pos) (fun σ H Q => Q (.ref C) none H) := by
  intro pins s σ H Q I h
  obtain ⟨nm, q, N, bs, bm, sn, sub, ab, col, dd, k0, k1, k2, k3, k5, hC, hbm⟩ := T.oex.cls
  refine wpAny_Call_Name_kw (ld_glob I hg T.gC ?_ hdb)
  refine PySem.W.callWith_K0 I.kIn T.oex.kC ?_
  obtain ⟨hp, g, dr, tk, os⟩ := s; have hsz : hp.objs.size ≤ hp.objs.size + 1 := Nat.le_succ _
  have hn : H (hp.objs.size + 1) = none := I.hok.fresh hsz
  have kk : ∀ b o, hp.get? b = some o → ((hp.push (PySem.W.kdv_tup [])).push (PySem.HandSPX.excO C hp.objs.size)).get? b = some o := fun b o e => Heap.get?_push_of_some _ (Heap.get?_push_of_some _ e)
  have hget : ((hp.push (PySem.W.kdv_tup [])).push (PySem.HandSPX.excO C hp.objs.size)).get? (hp.objs.size + 1) = some (PySem.HandSPX.excO C hp.objs.size) := by heap_get
  have I2 : Inv X pins σ (upd H (hp.objs.size + 1) (exo (hp.objs.size + 1) C none)) ⟨(hp.push (PySem.W.kdv_tup [])).push (PySem.HandSPX.excO C hp.objs.size), g, dr, tk, os⟩ :=
    I.laid (t' := tk) (a := hp.objs.size + 1) (o := exo (hp.objs.size + 1) C none) (h' := (hp.push (PySem.W.kdv_tup [])).push (PySem.HandSPX.excO C hp.objs.size)) kk hsz (exo_ok hget)
  have r2 : Vals [V.ref (hp.objs.size + 1)] [Value.ref (hp.objs.size + 1)] := .cons rfl .nil
  refine wpAny_call (PySem.HandSPX.call_own F.excBase_ValueError (fun Y => PySem.HandSPX.refsVE_contains Y bm hbm) (I.kIn _ _ hC) (PySem.W.looks_findIn I.kIn T.iC) (fun self => PySem.W.bind_fn I.kIn self T.tI) (by rw [sizeLine_eq]; simp)
    (codeAny_mono (F1.run _ X.stack _ _ ⟨[Value.ref (hp.objs.size + 1)], []⟩ [Value.ref (hp.objs.size + 1)] _ (fun v H2 => v = .non ∧ H2 (hp.objs.size + 1) = some (exo (hp.objs.size + 1) C none) ∧ Q (.ref C) none (del H2 (hp.objs.size + 1))) (fun _ _ _ => False) (hr.make C [] []) (I2.env0.make C [] []) (hb _ [Value.ref (hp.objs.size + 1)] I2.kIn rfl) r2
      ⟨hp.objs.size + 1, rfl, upd_same, rfl, upd_same, ?_⟩) fun r s' hq' => ?_))
  · have eq : del (upd H (hp.objs.size + 1) (exo (hp.objs.size + 1) C none)) (hp.objs.size + 1) = H := by
      funext b
      by_cases h1 : b = hp.objs.size + 1
      · rw [h1, del_same, hn]
      · rw [del_ne h1, upd_ne h1]
    rw [eq]
    exact h
  · cases r with
    | error er => exact (hx pins σ _ _ er s' I2 hq')
    | ok fl =>
      cases fl with
      | ret u =>
        obtain ⟨v, H2, os2, bare2, un2, hok2, rv, ev, ea, q2⟩ := hq'
        subst ev
        obtain ⟨h2, g2, d2, t2, os'⟩ := s'; exact ⟨rv, mk_endN (raises_own T.oex.exC T.oex.tyC) I hsz kk un2 hok2 os2 bare2 ea q2⟩
      | next => exact hq'.elim
      | brk => exact False.elim hq'
      | cont => exact hq'.elim
end
end L2
namespace Hx
open PySem PySem.Spec PyProof.Rows L2 He
/-! ### the head's facts: defs with the names of their closures, facts by names, facts of one's own -/
abbrev FnE : Type := Option (Str × Str × Arguments × FuncBody × Scope × Addr × List Str × Addr)
def fnE (K : PySem.W.Frag) (p : Str × Option Str) : FnE := match K.lookup (fAd K p) with
  | some ⟨_, _, .func fd, _⟩ => some (fd.name, fd.qualname, fd.params, fd.body, fd.scope, fd.globals, fd.closure.map (·.1), fd.builtins)
  | _ => none
structure DefE where
  at_ : Str × Option Str
  name : Str
  qual : Str
  st : Stmt
  cl : List Str := []
  dfl : List Dv := []
def DefE.val (d : DefE) : FnE := some (d.name, d.qual, defArgs d.st, .stmts (defBody d.st), defScope d.st, mainGlobals, d.cl, builtinsNs)
def DefE.dvs (K : PySem.W.Frag) (d : DefE) : List V := d.dfl.map (Dv.v K)
def DefE.ok (K : PySem.W.Frag) (d : DefE) : Bool := PySem.W.keepIn K (.ref (fAd K d.at_)) && (match K.lookup (fAd K d.at_) with
  | some ⟨_, _, .func fd, _⟩ => PySem.W.codeIn K fd.code d.qual && dflB K fd.defaults (d.dvs K)
  | _ => false)
/-- a def without closure -/
theorem DefE.funD {K : PySem.W.Frag} {d : DefE} (e : fnE K d.at_ = d.val) (c : d.ok K = true) (hc : d.cl = []) : ∃ fd, FunD K d.name d.qual (defArgs d.st) (defBody d.st) (defScope d.st) (d.dvs K) [] (fAd K d.at_) fd := by
  obtain ⟨kp, c2⟩ := ba c
  unfold fnE at e; cases q : K.lookup (fAd K d.at_) with
  | none =>
    rw [q] at c2
    cases c2
  | some o =>
    obtain ⟨oc, od, dt, osl⟩ := o
    rw [q] at c2 e
    cases dt with
    | func fd =>
      obtain ⟨n1, n2, n3, n4, n5, n6, n7, n8, n9, n10, n11, n12, n13, n14, n15⟩ := fd; have e2 : (some (n1, n2, n3, n4, n5, n6, n7.map (·.1), n15) : FnE) = some (d.name, d.qual, defArgs d.st, .stmts (defBody d.st), defScope d.st, mainGlobals, d.cl, builtinsNs) := e
      simp only [Option.some.injEq, Prod.mk.injEq] at e2; obtain ⟨h1, h2, h3, h4, h5, h6, h7, h8⟩ := e2
      rw [hc] at h7
      have h7' : n7 = [] := List.map_eq_nil_iff.mp h7
      subst h1 h2 h3 h4 h5 h6 h7' h8
      have c3 : (PySem.W.codeIn K n13 d.qual && dflB K n8 (d.dvs K)) = true := c2
      obtain ⟨k1, k3⟩ := ba c3
      exact ⟨_, ⟨oc, od, n8, n9, n10, n11, n12, n13, n14, osl, rfl, q, k1, dflB_ok k3, .inl rfl⟩, kp⟩
    | _ => cases c2
/-- an __init__ that says super() -/
theorem DefE.supD {K : PySem.W.Frag} {d : DefE} (e : fnE K d.at_ = d.val) (c : d.ok K = true) (hc : d.cl = [("__class__" : Str)]) :
    ∃ oc od osl dV kV doc pm an cdv ct cc, K.lookup (fAd K d.at_) = some ⟨oc, od, .func (PySem.W.ksFn d.name d.qual (defArgs d.st) (defBody d.st) (defScope d.st) dV kV doc pm an cdv ct cc), osl⟩ ∧ PySem.W.codeIn K cdv d.qual = true ∧ PySem.W.keepIn K (.ref (fAd K d.at_)) = true ∧ dflB K dV (d.dvs K) = true := by
  obtain ⟨kp, c2⟩ := ba c
  unfold fnE at e; cases q : K.lookup (fAd K d.at_) with
  | none =>
    rw [q] at c2
    cases c2
  | some o =>
    obtain ⟨oc, od, dt, osl⟩ := o
    rw [q] at c2 e
    cases dt with
    | func fd =>
      obtain ⟨n1, n2, n3, n4, n5, n6, n7, n8, n9, n10, n11, n12, n13, n14, n15⟩ := fd; have e2 : (some (n1, n2, n3, n4, n5, n6, n7.map (·.1), n15) : FnE) = some (d.name, d.qual, defArgs d.st, .stmts (defBody d.st), defScope d.st, mainGlobals, d.cl, builtinsNs) := e
      simp only [Option.some.injEq, Prod.mk.injEq] at e2; obtain ⟨h1, h2, h3, h4, h5, h6, h7, h8⟩ := e2
      rw [hc] at h7
      have h7' : ∃ cc, n7 = [(("__class__" : Str), cc)] := by
        cases n7 with
        | nil => cases h7
        | cons p r =>
          obtain ⟨x, cc⟩ := p
          cases r with
          | nil =>
            have h9 : [x] = [("__class__" : Str)] := h7
            injection h9 with h9 _
            exact ⟨cc, by rw [h9]⟩
          | cons _ _ => cases h7
      obtain ⟨cc, h7'⟩ := h7'
      subst h1 h2 h3 h4 h5 h6 h7' h8
      have c3 : (PySem.W.codeIn K n13 d.qual && dflB K n8 (d.dvs K)) = true := c2
      exact ⟨oc, od, osl, n8, n9, n10, n11, n12, n13, n14, cc, rfl, (ba c3).1, kp, (ba c3).2⟩
    | _ => cases c2
/-! ### the error classes -/
def clsB (K : PySem.W.Frag) (C : Addr) : Bool := match K.lookup C with
  | some ⟨.type t, _, .cls cd, sl⟩ => decide (t = "type") && ((match cd.mro with
    | .ref C' :: bm => decide (C' = C) && PySem.HandSPX.refsVE bm
    | _ => false) && (cd.hasDict && (!cd.hasDel && (match sl.toList with
    | [_, _, _, _, some (.builtin n), _] => decide (n = "ValueError.__new__")
    | _ => false))))
  | _ => false
theorem clsB_ok {K : PySem.W.Frag} {C : Addr} (h : clsB K C = true) : ∃ nm q N bs bm sn sub ab col dd k0 k1 k2 k3 k5, K.lookup C = some (excClassObj nm q C N bs bm true sn sub ab col dd k0 k1 k2 k3 k5 "ValueError.__new__") ∧ PySem.HandSPX.refsVE bm = true := by
  unfold clsB at h
  split at h
  · rename_i t dd cd sl e
    obtain ⟨h1, h⟩ := ba h
    obtain ⟨h2, h⟩ := ba h
    obtain ⟨h3, h⟩ := ba h
    obtain ⟨h4, h5⟩ := ba h
    obtain ⟨nm, bs, mro, ns, qn, hd, sn, sub, ab, col, del⟩ := cd; dsimp only at h2 h3 h4
    cases mro with
    | nil => cases h2
    | cons c0 bm =>
      cases c0 with
      | ref C' =>
        obtain ⟨h6, h7⟩ := ba (show (decide (C' = C) && PySem.HandSPX.refsVE bm) = true from h2)
        have e1 := of_decide_eq_true h6
        have e2 := of_decide_eq_true h1
        subst e1 e2
        have e3 : del = false := by simpa using h4
        subst h3 e3
        split at h5
        · rename_i k0 k1 k2 k3 n k5 e4
          have e5 := of_decide_eq_true h5; subst e5
          have e6 : sl = #[k0, k1, k2, k3, some (.builtin "ValueError.__new__"), k5] := by
            have : sl.toList.toArray = [k0, k1, k2, k3, some (.builtin "ValueError.__new__"), k5].toArray := by rw [e4]
            simpa using this
          subst e6
          exact ⟨nm, qn, ns, bs, bm, sn, sub, ab, col, dd, k0, k1, k2, k3, k5, e, h7⟩
        · cases h5
      | _ => cases h2
  · cases h
def cellB (K : PySem.W.Frag) (f C : Addr) : Bool := match K.lookup f with
  | some ⟨_, _, .func fd, _⟩ => (match fd.closure with
    | [(_, cc)] => (match K.lookup cc with
      | some ⟨_, _, .cell (some (.ref D)), _⟩ => decide (D = C)
      | _ => false)
    | _ => false)
  | _ => false
def fileB (P : Program) (K : PySem.W.Frag) (f : Addr) : Bool := match K.lookup f with
  | some ⟨_, _, .func fdt, _⟩ => (match fdt.code with
    | .ref cde => (match K.lookup cde with
      | some ⟨_, _, .fields vs, _⟩ => (match (vs[2]? : Option Value) with
        | some (Value.str file _) => ((P.main.file : Str) == file)
        | _ => false)
      | _ => false)
    | _ => false)
  | _ => false
/-- all that the written part must say of the error class x (its own fields: fs) -/
def supB (P : Program) (K : PySem.W.Frag) (x : Str) (fs : List Str) : Bool :=
  eqO (PySem.W.nsIn K mainGlobals x) (some (some (.ref (ga K x)))) && (clsB K (ga K x) && (cellB K (ma K (ga K x) "__init__") (ga K x) && (fileB P K (ma K (ga K x) "__init__") && (eqO (PySem.W.ks_superIn K (ga K x) (ga K x) "__init__") (some (some (.builtin "ValueError.__init__"))) &&
  (decide (PySem.W.subIn K (.ref (ga K x)) (.type "ValueError") = some true) && (decide (PySem.W.mroIn K (ga K x) (.ref (ga K x)) = some true) && (eqO (PySem.W.nsIn K PySem.cStatics "thirdparty.any") (some none) &&
  (eqO (PySem.W.findIn K (.ref (ga K x)) "__setattr__") (some (some (.builtin "object.__setattr__"))) && (decide (PySem.W.subIn K (.ref (ga K x)) (.type "BaseException") = some true) && (decide (PySem.W.typeIn K (.ref (ga K x)) = some (.type "type")) && (PySem.W.keepIn K (.ref (ga K x)) &&
  (eqO (PySem.W.findIn K (.ref (ga K x)) "__init__") (some (some (.ref (ma K (ga K x) "__init__")))) && (decide (PySem.W.typeIn K (.ref (ma K (ga K x) "__init__")) = some (.type "function")) && (xfB K (ga K x) && (fs.all fun f => eqO (PySem.W.findIn K (.ref (ga K x)) f) (some none))))))))))))))))
structure SupF (P : Program) (K : PySem.W.Frag) (x : Str) (fs : List Str) : Prop where
  glo : PySem.W.nsIn K mainGlobals x = some (some (.ref (ga K x)))
  cls : ∃ nm q N bs bm sn sub ab col dd k0 k1 k2 k3 k5, K.lookup (ga K x) = some (excClassObj nm q (ga K x) N bs bm true sn sub ab col dd k0 k1 k2 k3 k5 "ValueError.__new__") ∧ PySem.HandSPX.refsVE bm = true
  cell : cellB K (ma K (ga K x) "__init__") (ga K x) = true
  file : fileB P K (ma K (ga K x) "__init__") = true
  sup : PySem.W.ks_superIn K (ga K x) (ga K x) "__init__" = some (some (.builtin "ValueError.__init__"))
  ve : PySem.W.subIn K (.ref (ga K x)) (.type "ValueError") = some true
  self : PySem.W.mroIn K (ga K x) (.ref (ga K x)) = some true
  any : PySem.W.nsIn K PySem.cStatics "thirdparty.any" = some none
  sa : PySem.W.findIn K (.ref (ga K x)) "__setattr__" = some (some (.builtin "object.__setattr__"))
  exC : PySem.W.subIn K (.ref (ga K x)) (.type "BaseException") = some true
  tyC : PySem.W.typeIn K (.ref (ga K x)) = some (.type "type")
  kC : PySem.W.keepIn K (.ref (ga K x)) = true
  iC : PySem.W.findIn K (.ref (ga K x)) "__init__" = some (some (.ref (ma K (ga K x) "__init__")))
  tI : PySem.W.typeIn K (.ref (ma K (ga K x) "__init__")) = some (.type "function")
  xf : XfC K (ga K x)
  no : ∀ f ∈ fs, PySem.W.findIn K (.ref (ga K x)) f = some none
theorem supB_ok {P : Program} {K : PySem.W.Frag} {x : Str} {fs : List Str} (h : supB P K x fs = true) : SupF P K x fs := by
  unfold supB at h
  obtain ⟨h1, h⟩ := ba h
  obtain ⟨h2, h⟩ := ba h
  obtain ⟨h3, h⟩ := ba h
  obtain ⟨h4, h⟩ := ba h
  obtain ⟨h5, h⟩ := ba h
  obtain ⟨h6, h⟩ := ba h
  obtain ⟨h7, h⟩ := ba h
  obtain ⟨h8, h⟩ := ba h
  obtain ⟨h9, h⟩ := ba h
  obtain ⟨h10, h⟩ := ba h
  obtain ⟨h11, h⟩ := ba h
  obtain ⟨h12, h⟩ := ba h
  obtain ⟨h13, h⟩ := ba h
  obtain ⟨h14, h⟩ := ba h
  obtain ⟨h15, h16⟩ := ba h
  exact ⟨eqO_ok h1, clsB_ok h2, h3, h4, eqO_ok h5, of_decide_eq_true h6, of_decide_eq_true h7, eqO_ok h8, eqO_ok h9, of_decide_eq_true h10, of_decide_eq_true h11, h12, eqO_ok h13, of_decide_eq_true h14, xfB_ok h15, fun f hf => eqO_ok (List.all_eq_true.mp h16 f hf)⟩
theorem SupF.oex {P : Program} {K : PySem.W.Frag} {x : Str} {fs : List Str} (s : SupF P K x fs) : OexC K (ga K x) := ⟨s.cls, s.sa, s.exC, s.tyC, s.kC⟩
theorem SupF.supC {P : Program} {K : PySem.W.Frag} {h : Heap} {mg : Str → Option Value} {x : Str} {fs : List Str} (s : SupF P K x fs) (X : K.In h) (G : h.Ns mainGlobals mg) : SupC K mg x (ga K x) (ma K (ga K x) "__init__") :=
  ⟨s.oex, s.iC, s.tI, PySem.W.mg_of X G s.glo⟩
theorem SupF.at_ {P : Program} {K : PySem.W.Frag} {x : Str} {fs : List Str} (s : SupF P K x fs) {oc od osl} {name qual : Str} {params : Arguments} {body : List Stmt} {scope : Scope} {dV kV doc pm ct : Value} {an : Option Addr} {cc cda : Addr}
    (lk : K.lookup (ma K (ga K x) "__init__") = some ⟨oc, od, .func (PySem.W.ksFn name qual params body scope dV kV doc pm an (.ref cda) ct cc), osl⟩) : PySem.Sx.SupAt P K (ga K x) (ma K (ga K x) "__init__") cc cda := by
  have hc := s.cell
  have hf := s.file
  unfold cellB at hc
  unfold fileB at hf
  rw [lk] at hc hf
  dsimp only at hc hf
  refine ⟨?_, ?_, s.sup, s.ve, s.self, s.any, s.cls⟩
  · split at hf
    · rename_i a b vs c e
      split at hf
      · rename_i file tf e2
        exact ⟨_, _, _, _, _, _, e, e2, hf⟩
      · cases hf
    · cases hf
  · split at hc
    · rename_i a b D c e
      have e1 := of_decide_eq_true hc
      subst e1
      exact ⟨_, _, _, e⟩
    · cases hc
/-! ### the Hook -/
def asX (g : Addr → Option Obj) : Nat → List Addr
  | 0 => [mainGlobals, PySem.cStatics]
  | n + 1 => growD g (asX g n)
abbrev AlX : Type := Bool × List FnE
def obsX (fa : List Fa) (fb : List (PySem.W.Frag → Bool)) (fn : List DefE) (K : PySem.W.Frag) : AlX := ((fa.all fun f => f.ok K) && ((fb.all fun f => f K) && fn.all fun d => d.ok K), fn.map fun d => fnE K d.at_)
def valX (fn : List DefE) : AlX := (true, fn.map DefE.val)
def SaysX (fa : List Fa) (fb : List (PySem.W.Frag → Bool)) (fn : List DefE) (K : PySem.W.Frag) : Prop := obsX fa fb fn K = valX fn
def obsXG (n : Nat) (fa : List Fa) (fb : List (PySem.W.Frag → Bool)) (fn : List DefE) (g : Addr → Option Obj) : AlX := obsX fa fb fn (frG g (asX g n))
def hookX (n : Nat) (fa : List Fa) (fb : List (PySem.W.Frag → Bool)) (fn : List DefE) : PySem.W.Hook where
  α := AlX
  obs := fun s => obsXG n fa fb fn s.heap.get?
  val := fun _ => valX fn
  says := fun _ h => ∃ K : PySem.W.Frag, K.In h ∧ SaysX fa fb fn K
  of := fun _ _ eq => ⟨_, frG_in, eq⟩
  keeps := fun _ _ _ ⟨K, inK, say⟩ kp => ⟨K, PySem.W.Frag.In.keeps inK kp, say⟩
theorem obsXG_eq {n : Nat} {fa : List Fa} {fb : List (PySem.W.Frag → Bool)} {fn : List DefE} {g : Addr → Option Obj} {s : Shared} (h : ∀ a, g a = s.heap.get? a) : obsXG n fa fb fn g = (hookX n fa fb fn).obs s := by
  have e : g = s.heap.get? := funext h; rw [e] <;> rfl
section
variable {fa : List Fa} {fb : List (PySem.W.Frag → Bool)} {fn : List DefE} {K : PySem.W.Frag}
theorem SaysX.fact (c : SaysX fa fb fn K) (i : Nat) {f : Fa} (h : fa[i]? = some f := by rfl) : f.ok K = true := by
  have c1 := (ba (show ((fa.all fun f => f.ok K) && ((fb.all fun f => f K) && fn.all fun d => d.ok K)) = true from congrArg (fun z : AlX => z.1) c)).1; exact List.all_eq_true.mp c1 f (List.mem_of_getElem? h)
theorem SaysX.own (c : SaysX fa fb fn K) (i : Nat) {f : PySem.W.Frag → Bool} (h : fb[i]? = some f := by rfl) : f K = true := by
  have c1 := (ba (ba (show ((fa.all fun f => f.ok K) && ((fb.all fun f => f K) && fn.all fun d => d.ok K)) = true from congrArg (fun z : AlX => z.1) c)).2).1; exact List.all_eq_true.mp c1 f (List.mem_of_getElem? h)
theorem SaysX.okD (c : SaysX fa fb fn K) (i : Nat) {d : DefE} (h : fn[i]? = some d := by rfl) : fnE K d.at_ = d.val ∧ d.ok K = true := by
  have c2 := (ba (ba (show ((fa.all fun f => f.ok K) && ((fb.all fun f => f K) && fn.all fun d => d.ok K)) = true from congrArg (fun z : AlX => z.1) c)).2).2
  have e : fn.map (fun d => fnE K d.at_) = fn.map DefE.val := congrArg (fun z : AlX => z.2) c
  have e2 : (fn.map fun d => fnE K d.at_)[i]? = (fn.map DefE.val)[i]? := by rw [e]
  rw [List.getElem?_map, List.getElem?_map, h] at e2; exact ⟨Option.some.inj e2, List.all_eq_true.mp c2 d (List.mem_of_getElem? h)⟩
end
end Hx
namespace L2
open PyProof.Rows PySem.Spec PySem
/-! ### deep data that stand still -/
/-- what is tracked but at b is as it was -/
def KeepB (b : Addr) (H H' : Hp) : Prop := ∀ a o, a ≠ b → H a = some o → H' a = some o
theorem KeepB.refl {b : Addr} {H : Hp} : KeepB b H H := fun _ _ _ h => h
theorem KeepB.trans {b : Addr} {H H1 H2 : Hp} (x : KeepB b H H1) (y : KeepB b H1 H2) : KeepB b H H2 := fun a o n h => y a o n (x a o n h)
theorem KeepB.upd {b : Addr} {H : Hp} {o : HO} : KeepB b H (L2.upd H b o) := fun a u n h => by rw [upd_ne n]; exact h
theorem Same.keepB {b : Addr} {H H' : Hp} (h : Same H H') : KeepB b H H' := fun a o _ e => h a o e
theorem same_new {H : Hp} {p : Addr} {o : HO} (h : H p = none) : Same H (upd H p o) := fun b u e => by rw [upd_ne (ne_of_none e h)]; exact e
/-- a list or a tuple is tracked as it was -/
def Stands (H H' : Hp) : Prop := ∀ a xs, (Rd H a (.lst xs) → Rd H' a (.lst xs)) ∧ (Rd H a (.tup xs) → Rd H' a (.tup xs))
theorem Same.stands {H H' : Hp} (h : Same H H') : Stands H H' := fun a xs => ⟨fun r => r.elim (fun e => .inl (h _ _ e)) (fun ⟨o, e⟩ => .inr ⟨o, h _ _ e⟩), fun r => r.elim (fun e => .inl (h _ _ e)) (fun ⟨o, e⟩ => .inr ⟨o, h _ _ e⟩)⟩
theorem KeepB.stands {b : Addr} {H H' : Hp} {kvs : List (Key × V)} (h : KeepB b H H') (hb : H b = some (.dK kvs)) : Stands H H' := by
  intro a xs
  refine ⟨fun r => ?_, fun r => ?_⟩
  · rcases r with e | ⟨o, e⟩
    · exact .inl (h _ _ (ne_of e hb (by intro z; cases z)) e)
    · exact .inr ⟨o, h _ _ (ne_of e hb (by intro z; cases z)) e⟩
  · rcases r with e | ⟨o, e⟩
    · exact .inl (h _ _ (ne_of e hb (by intro z; cases z)) e)
    · exact .inr ⟨o, h _ _ (ne_of e hb (by intro z; cases z)) e⟩
theorem Stands.l {K : PySem.W.Frag} {H H' : Hp} {a : Addr} {xs : List V} (s : Stands H H') (h : SqL K H a xs) : SqL K H' a xs := h.elim (fun r => .inl ((s a xs).1 r)) .inr
theorem Stands.t {K : PySem.W.Frag} {H H' : Hp} {a : Addr} {xs : List V} (s : Stands H H') (h : SqT K H a xs) : SqT K H' a xs := h.elim (fun r => .inl ((s a xs).2 r)) .inr
mutual
theorem Dp.mono {K : PySem.W.Frag} {H H' : Hp} (s : Stands H H') : ∀ {v : V} {d : PyData}, Dp K H v d → Dp K H' v d
  | _, _, .non => .non
  | _, _, .bl b => .bl b
  | _, _, .int i => .int i
  | _, _, .str x => .str x
  | _, _, .lst h r => .lst (s.l h) (DpAll.mono s r)
  | _, _, .tup h r => .tup (s.t h) (DpAll.mono s r)
theorem DpAll.mono {K : PySem.W.Frag} {H H' : Hp} (s : Stands H H') : ∀ {vs : List V} {ds : List PyData}, DpAll K H vs ds → DpAll K H' vs ds
  | _, _, .nil => .nil
  | _, _, .cons h r => .cons (Dp.mono s h) (DpAll.mono s r)
end
mutual
theorem eqv_self : ∀ d : PyData, d.canLay0 = true → PyData.eqv d d = true
  | .none, _ => (by simp [PyData.eqv])
  | .bool _, _ => (by simp [PyData.eqv])
  | .int _, _ => (by simp [PyData.eqv])
  | .str _, _ => (by simp [PyData.eqv])
  | .list xs, h => by simp only [PyData.eqv]; exact eqvAll_self xs (by simpa [PyData.canLay0] using h)
  | .tuple xs, h => by simp only [PyData.eqv]; exact eqvAll_self xs (by simpa [PyData.canLay0] using h)
  | .dict _, h => by simp [PyData.canLay0] at h
theorem eqvAll_self : ∀ ds : List PyData, PyData.canLayAll0 ds = true → PyData.eqvAll ds ds = true
  | [], _ => (by simp [PyData.eqvAll])
  | d :: ds, h => by
    have h' : (d.canLay0 && PyData.canLayAll0 ds) = true := by simpa [PyData.canLayAll0] using h
    simp only [PyData.eqvAll, eqv_self d (Bool.and_eq_true_iff.mp h').1, eqvAll_self ds (Bool.and_eq_true_iff.mp h').2, Bool.and_self]
end
end L2
namespace Hx
open PySem PySem.Spec PyProof.Rows L2 He
/-- an error class of the program with its __init__, as the top has left them -/
structure InitF (P : Program) (K : PySem.W.Frag) (mg : Str → Option Value) (x qual : Str) (st : Stmt) (fs : List Str) (C fI : Addr) (fd : FuncData) : Prop where
  sup : SupC K mg x C fI
  xf : XfC K C
  no : ∀ f ∈ fs, PySem.W.findIn K (.ref C) f = some none
  fn : ∃ oc od osl kV doc pm an cda ct cc, fd = PySem.W.ksFn "__init__" qual (defArgs st) (defBody st) (defScope st) .none kV doc pm an (.ref cda) ct cc ∧ K.lookup fI = some ⟨oc, od, .func fd, osl⟩ ∧ PySem.W.codeIn K (.ref cda) qual = true ∧ PySem.Sx.SupAt P K C fI cc cda
theorem codeIn_refX {K : PySem.W.Frag} {cd : Value} {q : Str} (h : PySem.W.codeIn K cd q = true) : ∃ c, cd = .ref c := by
  cases cd with
  | ref c => exact ⟨c, rfl⟩
  | _ => cases h
section
variable {P : Program} {K : PySem.W.Frag} {h : Heap} {mg : Str → Option Value} {fa : List Fa} {fb : List (PySem.W.Frag → Bool)} {fn : List DefE}
theorem SaysX.init (c : SaysX fa fb fn K) (X : K.In h) (G : h.Ns mainGlobals mg) (i j : Nat) {x qual : Str} {st : Stmt} {fs : List Str} (hd : fn[i]? = some ⟨(x, some "__init__"), "__init__", qual, st, [("__class__" : Str)], []⟩ := by rfl)
    (hb : fb[j]? = some (fun K => supB P K x fs) := by rfl) : ∃ fd, InitF P K mg x qual st fs (ga K x) (ma K (ga K x) "__init__") fd := by
  obtain ⟨e, ok⟩ := c.okD i hd
  have s : SupF P K x fs := supB_ok (c.own j hb)
  obtain ⟨oc, od, osl, dV, kV, doc, pm, an, cdv, ct, cc, lk, hcd, _, hdf⟩ := DefE.supD e ok rfl
  obtain ⟨cda, rfl⟩ := codeIn_refX hcd
  have hdV : dV = .none := by
    cases dV with
    | none => rfl
    | _ => cases hdf
  subst hdV
  exact ⟨_, s.supC X G, s.xf, s.no, oc, od, osl, kV, doc, pm, an, cda, ct, cc, rfl, lk, hcd, s.at_ lk⟩
theorem SaysX.def_ (c : SaysX fa fb fn K) (i : Nat) {x : Str} {p : Str × Option Str} {qual : Str} {st : Stmt} {dfl : List Dv} (hd : fn[i]? = some ⟨p, x, qual, st, [], dfl⟩ := by rfl) : ∃ fd, FunD K x qual (defArgs st) (defBody st) (defScope st) (dfl.map (Dv.v K)) [] (fAd K p) fd := by
  obtain ⟨e, ok⟩ := c.okD i hd
  exact DefE.funD e ok rfl
end
end Hx
namespace PySem.W
open PyProof.Rows PySem.Calls PySem.Spec PySem
section
variable {prog : Program} {w : World} {A : Around} {E : Value → Shared → Prop} {s : Shared} {K : Frag} {x D : Addr} {ox : Obj} {od : Option Obj}
theorem sx_findObj {C : Addr} {name : Str} {a g : Value} (hc : (clsIn K C).isSome = true) (ha : findIn K (.ref C) name = some (some a)) (hg : specialIn K a "__get__" = some (some g)) (ht : takesIn K a = some true) : findObj K C od name = some (.bind g a) := by
  obtain ⟨cd, hc⟩ := Option.isSome_iff_exists.mp hc; unfold findObj
  rw [hc, Option.bind_some, ha, Option.bind_some]; simp [hg, ht]
theorem sx_classE {Q : Option Value → Shared → Prop} (T : L2.ExcC K D) (X : K.In s.heap) (I : InstAt s.heap x ox D od) (h : Q (some (.ref D)) { s with toks := s.toks + 1 }) : wpAny (model prog w) A (getAttr? (.ref x) "__class__") Q E s := by
  obtain ⟨hga, hgt, hsub, hdct, ha, hn, htk, hm⟩ := T
  have hf : findObj K D od "__class__" = some (.bind (.builtin "getset_descriptor.__get__") (.builtin "object.__class__")) := sx_findObj (by obtain ⟨cd, hc, _⟩ := any_some hdct; rw [hc]; rfl) ha hn htk
  obtain ⟨hp, g, d, t, os⟩ := s
  have l0 := I.type (M := model prog w)
  have l1 := looks_findIn (M := model prog w) X hga
  have l2 := looks_findIn (M := model prog w) X hgt
  have l3 := looks_find (M := model prog w) X I hf
  have sub : Looks (model prog w) hp (isInstance (.ref x) (.type "BaseException")) true := l0.andThen (looks_subIn X hsub)
  have e2 : (Value.builtin "BaseException.__getattribute__" == Value.builtin "object.__getattribute__") = false := by decide +kernel
  have e1 : (onTheHeap (Value.ref D) && Value.builtin "BaseException.__getattribute__" == Value.builtin "object.__getattribute__") = false := by rw [e2]; rfl
  unfold getAttr? getAttrBy? getAttrBy; refine wpAny_bind (wpAny_mkText (wpAny_bind (wpAny_attempt (wpAny_holding (wpAny_bind (l0.at (wpAny_bind (l1.at ?_))))))))
  show wpAny _ _ (if (onTheHeap (Value.ref D) && Value.builtin "BaseException.__getattribute__" == Value.builtin "object.__getattribute__") = true then _ else _) _ _ _; rw [e1, if_neg Bool.false_ne_true]
  unfold getAttrByItsOwn hookBefore; refine wpAny_bind ?_
  rw [if_pos (show onTheHeap (Value.ref D) = true from rfl)]; refine l2.at ?_
  refine wpAny_bind (wpAny_attempt (wpAny_holding ?_)); unfold callGetattribute
  rw [show (false && onTheHeap (Value.builtin "BaseException.__getattribute__")) = false from rfl, if_neg Bool.false_ne_true]
  unfold boundAndCalled
  rw [PySem.F.excAttr_ValueError.ga.bind (.ref x)]; refine wpAny_bind (wpAny_pure ?_)
  show wpAny _ _ (call (.builtin "BaseException.__getattribute__") [.ref x, .str "__class__" t]) _ _ _; refine wpAny_call (codeAny_call_builtin PySem.F.excAttr_ValueError.ga.plain PySem.F.entry_bexc_ga ?_)
  refine @check_slot (model prog w) _ _ ⟨hp, g, d, t + 1, os⟩ "BaseException.__getattribute__" "BaseException" "__getattribute__" (.ref x) [.str "__class__" t] [] _ (by decide +kernel) (by decide +kernel) sub (PySem.F.args_bexc_ga (.ref x) (.str "__class__" t)) ?_; unfold Builtin.«object.__getattribute__»
  refine wpAny_bind (wpAny_of_eq (a := ((Value.ref x : Value), [Value.str "__class__" t])) (by first | rfl | (simp only [slotArgs]; rfl)) ?_); refine wpAny_bind (wpAny_pure (wpAny_bind (l0.at (wpAny_bind (l3.at ?_)))))
  show wpAny _ _ (holding [Value.builtin "object.__class__"] (call (.builtin "getset_descriptor.__get__") [.builtin "object.__class__", .ref x, .ref D]) >>= ret) _ _ _; refine wpAny_bind (wpAny_holding (wpAny_call (class_get (s := ⟨hp, g, d, t + 1, os⟩) (ox := ox) (od := od) X I hm ?_)))
  refine wpAny_pure ?_
  show wpAny _ _ (handedOut (.ref D)) _ _ _; rw [handedOut_of (v := .ref D) rfl]
  first
    | exact wpAny_pure <| wpAny_pure h
    | exact wpAny_pure h
    | exact wpAny_pure <| wpAny_bind <| wpAny_pure <| wpAny_pure h
theorem sx_kitx (T : L2.ExcC K D) : KitX K (.ref x) (.ref D) (fun h => InstAt h x ox D od) where
  ty := fun _ _ _ I => I.type
  it := fun _ _ X _ => by
    obtain ⟨cdD, hcD, _⟩ := any_some T.hd
    unfold clsIn at hcD
    split at hcD
    · rename_i c' d' cd' sl' ho
      intro A' Q' E' s' k q
      unfold isType loadHead; exact wpAny_bind (wpAny_loadPart (k _ _ (X _ _ ho)) (wpAny_pure q))
    · cases hcD
  ne := fun hp tp dd its n sl X htp => by
    obtain ⟨cdD, hcD, _⟩ := any_some T.hd
    refine Bool.eq_false_iff.mpr fun q => ?_; have e : D = tp := Value.ref.inj (beq_iff_eq.mp q)
    subst e
    unfold clsIn at hcD
    split at hcD
    · rename_i c' d' cd' sl' ho
      have z := (X _ _ ho).symm.trans htp; cases z
    · cases hcD
  ca := fun X I k => sx_classE T X I k
end
end PySem.W
namespace L2
open PyProof.Rows PySem.Spec PySem
/-! ### a caught exception, tracked -/
/-- at a: an exception of the class cls, its dict at d -/
def excE (a : Addr) (cls : Value) (d : Option Addr) : HO := .ext fun h => ∃ oe vs, h.get? a = some oe ∧ Zc cls d oe ∧ oe.data = .fields vs
theorem excE_ok {P : Program} {w : World} {H : Hp} {h : Heap} {a : Addr} {cls : Value} {d : Option Addr} {oe : Obj} {vs : Array Value} (he : h.get? a = some oe) (hz : Zc cls d oe) (hd : oe.data = .fields vs) : ObjOk P w H h a (excE a cls d) :=
  ⟨⟨oe, vs, he, hz, hd⟩, ⟨_, he⟩, fun h1 h2 z k => by
    obtain ⟨o, v, q1, q2, q3⟩ := z
    exact ⟨o, v, k _ q1, q2, q3⟩⟩
theorem excE_at {P : Program} {w : World} {H : Hp} {h : Heap} {a : Addr} {cls : Value} {d : Option Addr} (hok : HOk P w H h) (he : H a = some (excE a cls d)) : ∃ oe vs, h.get? a = some oe ∧ Zc cls d oe ∧ oe.data = .fields vs := by
  have x : ObjOk P w H h a (.ext fun h => ∃ oe vs, h.get? a = some oe ∧ Zc cls d oe ∧ oe.data = .fields vs) := hok a _ he
  exact x.1
theorem Inv.track {X : Cx} {pins : List (Addr × Obj)} {σ : St} {H : Hp} {s : Shared} {a : Addr} {o : HO} (I : Inv X pins σ H s) (na : H a = none) (ha0 : X.s_0.heap.get? a = none) (nL : a ≠ X.env.locals) (nC : ∀ x c, X.env.cells.lookup x = some c → c ≠ a) (nP : ∀ p ∈ X.pn ++ pins, p.1 ≠ a)
    (new : ObjOk X.prog X.w (upd H a o) s.heap a o) : Inv X pins σ (upd H a o) s := by
  have n0 : ∀ b u, X.s_0.heap.get? b = some u → b ≠ a := fun b u e z => by rw [z, ha0] at e; cases e
  have nh : ∀ b u, H b = some u → b ≠ a := fun b u e z => by rw [z, na] at e; cases e
  refine ⟨I.ok, I.os, I.bare, ⟨I.base.keep, I.base.slot, fun b u e n hx => ?_, I.base.there, fun b xs e => ?_, fun b u v e => ?_, fun b ps e => ?_⟩, I.loc, I.cell, ?_, fun y c e => ?_, fun p hp => ?_, fun b u e => ?_, I.len⟩
  · rw [upd_ne (n0 b u e)]
    exact I.base.free b u e n hx
  · have q := I.base.tups b xs e; rw [upd_ne (nh b _ q)]
    exact q
  · have q := I.base.frzs b u v e
    rw [upd_ne (nh b _ q)]
    exact q
  · obtain ⟨m, q⟩ := I.base.tbls b ps e; exact ⟨m, by rw [upd_ne (nh b _ q)]; exact q⟩
  · rw [upd_ne (Ne.symm nL)]
    exact I.free
  · rw [upd_ne (nC y c e)]
    exact I.freeC y c e
  · obtain ⟨p1, p2, p3, p4, p5⟩ := I.pin p hp
    exact ⟨p1, by rw [upd_ne (nP p hp)]; exact p2, p3, p4, p5⟩
  · by_cases hb : b = a
    · subst hb
      rw [upd_same] at e
      cases e
      exact new
    · rw [upd_ne hb] at e
      exact (I.hok b u e).stay (fun _ _ _ q => q) (fun c q => by rw [upd_ne (nh c _ q)]; exact q) fun c xs q => by rw [upd_ne (nh c _ q)]; exact q
/-- the context of a suite that holds the exception at a, tracked -/
abbrev Cx.suiteT (X : Cx) (a : Addr) (pn : List (Addr × Obj)) : Cx := { X with A := X.A.mark (some (.ref a)), calm := false, pn := pn, xe := fun _ _ => False }
theorem Inv.suiteT {X : Cx} {pins : List (Addr × Obj)} {σ : St} {H : Hp} {s : Shared} (I : Inv X pins σ H s) (a : Addr) : Inv (X.suiteT a (X.pn ++ pins)) [] σ H s :=
  ⟨I.ok.suite a (X.pn ++ pins), I.os, I.bare, I.base, I.loc, I.cell, I.free, I.freeC, fun p hp => I.pin p (by rw [List.append_nil] at hp; exact hp), I.hok, I.len⟩
theorem Inv.unsuiteT {X : Cx} {pins pn' : List (Addr × Obj)} {σ : St} {H : Hp} {s : Shared} {a : Addr} (I : Inv (X.suiteT a (X.pn ++ pins)) pn' σ H s) (ok : X.Ok) : Inv X pins σ H s :=
  ⟨ok, I.os, I.bare, I.base, I.loc, I.cell, I.free, I.freeC, fun pq hq => I.pin pq (List.mem_append_left _ hq), I.hok, I.len⟩
abbrev Clause := Value × Option Nat × (Addr → TS)
def wAll (K : PySem.W.Frag) (Wout : WX) (D : Ends) : List Clause → WX
  | [] => Wout
  | (c, some i, ts) :: r => fun cls d σ H => ∃ b, PySem.W.exmOne K cls c = some b ∧
      (b = true → ∀ a, H a = none → ts a { nx := fun σ' H' => D.nx (σ'.set i none) H', rt := D.rt, bk := fun σ' H' => D.bk (σ'.set i none) H', ct := fun σ' H' => D.ct (σ'.set i none) H' } (σ.set i (some (.ref a))) (upd H a (excE a cls d))) ∧ (b = false → wAll K Wout D r cls d σ H)
  | (c, none, ts) :: r => fun cls d σ H => ∃ b, PySem.W.exmOne K cls c = some b ∧ (b = true → ∀ a, H a = none → ts a D σ (upd H a (excE a cls d))) ∧ (b = false → wAll K Wout D r cls d σ H)
inductive HdsA (X : Cx) : List ExceptHandler → List Clause → Prop
  | nil : HdsA X [] []
  | only {x : Str} {c : Value} {ts : Addr → TS} {b₀ : Stmt} {suite : List Stmt} {np pos' : Pos} {hds : List ExceptHandler} {l : List Clause} (hc : Names X x c)
      (hsu : ∀ (a : Addr) (pn : List (Addr × Obj)), PSs (X.suiteT a pn) (b₀ :: suite) (ts a)) (r : HdsA X hds l) :
      HdsA X (.ExceptHandler (some (.Name x np)) none (b₀ :: suite) pos' :: hds) ((c, none, ts) :: l)
  | as_ {x n : Str} {c : Value} {i : Nat} {ts : Addr → TS} {b₀ : Stmt} {suite : List Stmt} {np pos' : Pos} {hds : List ExceptHandler} {l : List Clause} (hc : Names X x c) (hi : X.N[i]? = some n) (hln : X.env.kindOf n = some .local)
      (hsu : ∀ (a : Addr) (pn : List (Addr × Obj)), PSs (X.suiteT a pn) (b₀ :: suite) (ts a)) (r : HdsA X hds l) :
      HdsA X (.ExceptHandler (some (.Name x np)) (some n) (b₀ :: suite) pos' :: hds) ((c, some i, ts) :: l)
section
variable {X : Cx} {body : List Stmt} {h₀ : ExceptHandler} {hds : List ExceptHandler} {l : List Clause} {pos : Pos} {tb : WX → TS} {Wout : WX}
theorem ps_try_all (hs : X.stack = X.env :: X.outer) (hf : X.env.frame = some X.env.locals) (hN : X.N.Nodup) (hex : X.ex = []) (tk : Takes X Wout)
    (hb : ∀ (W : WX) (pq : List (Addr × Obj)) (xe : Value → Shared → Prop), Takes (X.tr pq xe) W → PassesOwn (model X.prog X.w) X.A X.env xe → PSs (X.tr pq xe) body (tb W))
    (hh : HdsA X (h₀ :: hds) l) : PS X (.Try body (h₀ :: hds) [] [] pos) (fun D σ H => tb (wAll X.K Wout D l) D σ H) := by
  refine ⟨fun pins s σ H D I h => ?_⟩; have ok := I.ok; have hfr : X.A.frames = some (X.env :: X.outer) := by rw [ok.frames, hs]
  refine wpAny_Try_except ?_
  refine wpAny_mono ((hb (wAll X.K Wout D l) (X.pn ++ pins) (fun e s₁ => wpAny (model X.prog X.w) X.A (noteFrame e X.env) (fun _ s₂ => wpAny (model X.prog X.w) X.A (setFlight e none) (fun _ s₃ =>
    wpAny (model X.prog X.w) X.A (handleBy e X.env (h₀ :: hds)) (SP X pins D) X.xe s₃) X.xe s₂) X.xe s₁) (fun u s' xx => ?_) PassesOwn.looking).run [] s σ H D (I.toTry _) h) (fun f s1 hsp => ?_) (fun _ _ he => he)
  · -- the catch
    obtain ⟨a, B, sI, pins', σ', H', cls, d, rfl, J', nb, up, sky, na, os, ag, w⟩ := xx; have J : Inv X pins σ' H' sI := J'.ofTry ok; have sky' : Sky B (X.env :: X.outer) a (Zc cls d) X.env.locals s'.heap := by rw [← hs]; exact sky
    show wpAny (model X.prog X.w) X.A (noteFrame (.ref a) X.env) _ _ _; refine Sky.land Zc.steady hfr hf sky' fun h3 fl3 up3 => ?_
    have J3 : Inv X pins σ' H' { s' with heap := h3 } := J.landed nb fl3.1 (up.trans up3) os ag; obtain ⟨oe3, vs3, he3, hz3, hd3⟩ := fl3.there; have notFr : ∀ {h : Heap} {o : Obj} {vs : Array Value}, h.FunFrames B (X.env :: X.outer) → h.get? a = some o → o.data = .fields vs → a ∉ frs (X.env :: X.outer) := fun {h o vs} ff e dd hm => by
      obtain ⟨_, o', e', hnf⟩ := ff.mem hm; rw [e] at e'; cases e'
      exact hnf _ dd
    have nfr := notFr fl3.2.2.1 he3 hd3; have nL : a ≠ X.env.locals := fun z => nfr (List.mem_filterMap.mpr ⟨X.env, List.mem_cons_self, by rw [hf, z]⟩)
    have nF : a ∉ X.fs := fun (hm) => by
      obtain ⟨e, he, q⟩ := List.mem_filterMap.mp hm; exact nfr (List.mem_filterMap.mpr ⟨e, List.mem_cons_of_mem _ he, q⟩)
    have S3 := J3.suite he3 hd3 na nL nF; have baN : B.get? a = none := fl3.2.1
    have sIn : sI.heap.get? a = none := by
      cases q : sI.heap.get? a with
      | none => rfl
      | some o =>
        have z := nb a o q (by rw [hs]; exact nfr)
        rw [baN] at z
        cases z
    have ha0 : X.s_0.heap.get? a = none := by
      cases q : X.s_0.heap.get? a with
      | none => rfl
      | some o =>
        obtain ⟨o', q'⟩ := J.base.there a o q (by rw [hex]; simp)
        rw [sIn] at q'
        cases q'
    have nP : ∀ p ∈ X.pn ++ pins, p.1 ≠ a := fun p hp z => by
      obtain ⟨q, _⟩ := J.pin p hp
      rw [z, sIn] at q
      cases q
    have nC : ∀ x c, X.env.cells.lookup x = some c → c ≠ a := fun x c e z => by
      obtain ⟨v, o, q, _⟩ := J.cell x c e
      rw [z, sIn] at q
      cases q
    have LT : PySem.W.Looks (model X.prog X.w) h3 (typeOf (.ref a)) cls := fun A Q E s k q => wpAny_typeOf_ref (k _ _ he3) (by rw [hz3.1]; exact q); have testOf : ∀ {x : Str} {c : Value} {np : Pos}, Names X x c → ∀ {Q : Value → Shared → Prop} {E : Value → Shared → Prop}, Q c { s' with heap := h3 } → wpAny (model X.prog X.w) (X.A.mark (some (.ref a))) (eval (.Name x np) X.env) Q E { s' with heap := h3 } := by
      intro x c np hc Q E q; obtain ⟨hg, hdbg, hm | ⟨hm, hv, hnn⟩⟩ := hc
      · exact (ld_glob (X := X.suite a ((a, oe3) :: (X.pn ++ pins))) S3 hg hm q hdbg)
      · exact (ld_blt (X := X.suite a ((a, oe3) :: (X.pn ++ pins))) S3 hg hm hv q hnn hdbg)
    have go : ∀ {hds' : List ExceptHandler} {l' : List Clause}, HdsA X hds' l' → wAll X.K Wout D l' cls d σ' H' →
        (wpAny (model X.prog X.w) X.A (handleBy (.ref a) X.env hds') (SP X pins D) X.xe { s' with heap := h3 }) := by
      intro hds' l' hk
      induction hk with
      | nil =>
        intro w
        refine wpAny_handleBy_nil ?_
        obtain ⟨k1, k2, k3, oe, vs, T, oT, ts', he, hz, hd, h1, hr⟩ := id fl3; unfold PySem.passOn
        refine wpAny_bind (wpAny_field he hd h1 ?_); rw [if_neg (show ¬ ((Value.ref T == Value.none) = true) from by simp)]
        have fin : (wpAny (model X.prog X.w) X.A (setFlight (.ref a) X.env.frame) (fun _ s4 => wpAny (model X.prog X.w) X.A (throw (.ref a) : Sem Flow) (SP X pins D) X.xe s4) X.xe { s' with heap := h3 }) := by
          rw [hf]
          refine HandSPX.setFlight_upZ fl3 fun h4 hh4 up4 => wpAny_throw (tk _ _ ?_); exact ⟨a, B, sI, pins, σ', H', cls, d, rfl, J, nb, (up.trans up3).trans up4, .inr (.inr (by rw [hs]; exact hh4)), na, os, ag, w⟩
        first
          | exact wpAny_bind <| wpAny_pure <| wpAny_bind fin
          | exact wpAny_bind fin
      | @only x c ts b₀ suite np pos' hds2 l2 hc hsu r ih =>
        intro w
        obtain ⟨b, hb1, hyes, hno⟩ := w; refine wpAny_handleBy_cons (codeAny_handlers_test ?_) (by intro q; cases q)
        have LM := PySem.W.exm_one (M := model X.prog X.w) (J3.kIn) LT hb1; refine testOf hc (LM.here ?_)
        cases b with
        | true =>
          refine codeAny_handlers_suite ?_; refine HandSPX.lands_againZ fl3 fun h4 fl4 up4 => ?_
          have J4 : Inv X pins σ' H' { s' with heap := h4 } := J.landed nb fl4.1 ((up.trans up3).trans up4) os ag; obtain ⟨oe4, vs4, he4, hz4, hd4⟩ := fl4.there
          have S4 := (J4.track na ha0 nL nC nP (excE_ok he4 hz4 hd4)).suiteT a
          refine wpAny_mono ((hsu a (X.pn ++ pins)).run [] _ _ _ _ S4 (hyes rfl a na)) (fun f s6 hsp => ?_) (fun _ _ z => False.elim z)
          cases f with
          | next =>
            obtain ⟨σ6, H6, S6, q6⟩ := hsp; exact ⟨_, _, S6.unsuiteT ok, q6⟩
          | brk =>
            obtain ⟨σ6, H6, S6, q6⟩ := hsp; exact ⟨_, _, S6.unsuiteT ok, q6⟩
          | cont =>
            obtain ⟨σ6, H6, S6, q6⟩ := hsp; exact ⟨_, _, S6.unsuiteT ok, q6⟩
          | ret u =>
            obtain ⟨v6, σ6, H6, S6, r6, q6⟩ := hsp; exact ⟨_, _, _, S6.unsuiteT ok, r6, q6⟩
        | false =>
          show wpAny _ X.A (handleBy (.ref a) X.env hds2) _ _ _; exact ih (hno rfl)
      | @as_ x n c i ts b₀ suite np pos' hds2 l2 hc hi hln hsu r ih =>
        intro w
        obtain ⟨b, hb1, hyes, hno⟩ := w; have hloc : Loc X.env.scope n := .inl hln
        refine wpAny_handleBy_cons (codeAny_handlers_test ?_) (by intro q; cases q); have LM := PySem.W.exm_one (M := model X.prog X.w) (J3.kIn) LT hb1
        refine testOf hc (LM.here ?_)
        cases b with
        | true =>
          refine codeAny_handlers_suite_as ?_; refine HandSPX.lands_againZ fl3 fun h4 fl4 up4 => ?_
          have J4 : Inv X pins σ' H' { s' with heap := h4 } := J.landed nb fl4.1 ((up.trans up3).trans up4) os ag; obtain ⟨oe4, vs4, he4, hz4, hd4⟩ := fl4.there
          have S4 := (J4.track na ha0 nL nC nP (excE_ok he4 hz4 hd4)).suiteT a
          refine store_ok (X := X.suiteT a (X.pn ++ pins)) (v := .ref a) S4 hN hi hloc rfl (fun s5 S5 => ?_) (.inr hln)
          refine wpAny_mono ((hsu a (X.pn ++ pins)).run [] s5 _ _ _ S5 (hyes rfl a na)) (fun f s6 hsp => ?_) (fun _ _ z => False.elim z)
          have end_ : ∀ {σ6 : St} {H6 : Hp} {Q : Shared → Prop}, Inv (X.suiteT a (X.pn ++ pins)) [] σ6 H6 s6 → (∀ s7, Inv X pins (σ6.set i none) H6 s7 → Q s7) →
              wpAny (model X.prog X.w) X.A (do bindName X.env n .none; unbindBehindTheSuite X.env n pos') (fun _ s7 => Q s7) X.xe s6 := fun {σ6 H6 Q} S6 hq => gone_ok (S6.unsuiteT ok) hN hi hln hq
          cases f with
          | next =>
            obtain ⟨σ6, H6, S6, q6⟩ := hsp; exact end_ S6 fun s7 J7 => ⟨_, _, J7, q6⟩
          | brk =>
            obtain ⟨σ6, H6, S6, q6⟩ := hsp; exact end_ S6 fun s7 J7 => ⟨_, _, J7, q6⟩
          | cont =>
            obtain ⟨σ6, H6, S6, q6⟩ := hsp; exact end_ S6 fun s7 J7 => ⟨_, _, J7, q6⟩
          | ret u =>
            obtain ⟨v6, σ6, H6, S6, r6, q6⟩ := hsp; exact end_ S6 fun s7 J7 => ⟨_, _, _, J7, r6, q6⟩
        | false =>
          show wpAny _ X.A (handleBy (.ref a) X.env hds2) _ _ _; exact ih (hno rfl)
    exact go hh w
  · cases f with
    | next =>
      obtain ⟨σ', H', J', q⟩ := hsp; exact wpAny_execs_nil ⟨σ', H', J'.ofTry ok, q⟩
    | brk =>
      obtain ⟨σ', H', J', q⟩ := hsp; exact ⟨σ', H', J'.ofTry ok, q⟩
    | cont =>
      obtain ⟨σ', H', J', q⟩ := hsp; exact ⟨σ', H', J'.ofTry ok, q⟩
    | ret u =>
      obtain ⟨v, σ', H', J', r, q⟩ := hsp; exact ⟨v, σ', H', J'.ofTry ok, r, q⟩
end
theorem takes_noX {X : Cx} : Takes X (fun _ _ _ _ => False) := fun _ _ ⟨_, _, _, _, _, _, _, _, _, _, _, _, _, _, _, _, w⟩ => w.elim
/-! ### in a suite, and wherever such an exception is held -/
/-- e.f -/
def tXfT (K : PySem.W.Frag) (f : Str) (te : TE) : TE := fun σ H Q => te σ H fun x H1 => ∃ (a C d : Addr) (fs : List (Str × V)) (v : V), x = .ref a ∧ H1 a = some (excE a (.ref C) (some d)) ∧ H1 d = some (.xd fs) ∧ XfC K C ∧ PySem.W.findIn K (.ref C) f = some none ∧ fs.lookup f = some v ∧ Q v H1
theorem pe_xfT {X : Cx} {e : Expr} {te : TE} {pos : Pos} {n : Str} (he : PE X e te) (hb : attributeBase e n X.env (eval e X.env) = eval e X.env := by rfl) : PE X (.Attribute e n pos) (tXfT X.K n te) := by
  refine ⟨fun pins s σ H Q I h => ?_⟩; refine attr_of hb (thn (he.run pins s σ H _ I h) fun u s1 hh => ?_)
  obtain ⟨x, H1, I1, rx, a, C, dd, fs, v, ex, ea, ed, T, hno, l, q⟩ := hh
  subst ex
  obtain rfl : u = Value.ref a := rx; obtain ⟨oe, vs, ha, hz, hd⟩ := excE_at I1.hok ea
  have hx : ObjOk X.prog X.w H1 s1.heap dd (.xd fs) := I1.hok dd _ ed
  obtain ⟨mA, hns, hr⟩ := hx
  obtain ⟨od, ho, hl⟩ := lookIn_ns hns; obtain ⟨u, hu, ru⟩ := RelO.some_of (v := v) (o := mA n) (by rw [← l]; exact hr n); have J : PySem.W.InstAt s1.heap a oe C (some od) := ⟨ha, hz.1, by unfold PySem.W.notCls; rw [hd] <;> rfl, by rw [hz.2]; exact ho⟩
  exact HandSPX.exc_get I1.kIn J T.ga T.gg T.exC (PySem.W.findObj_own T.hdC hno rfl (by rw [hl, hu])) (handed_of ru) (⟨v, H1, I1.tok _, ru, q⟩)
/-- isinstance(e, c) -/
def rIsT (K : PySem.W.Frag) : List V → Hp → VK → Prop := fun xs H Q => ∃ (a D : Addr) (d : Option Addr) (c : V) (cv : Value) (b : Bool), xs = [.ref a, c] ∧ H a = some (excE a (.ref D) d) ∧ (∀ dd, d = some dd → ∃ fs, H dd = some (.xd fs)) ∧ ExcC K D ∧ (∀ u, RelV c u → u = cv) ∧ PySem.W.kitOne K (.ref D) cv = some b ∧ Q (.bl b) H
theorem call_isT {X : Cx} : CallR X (.builtin "isinstance") (rIsT X.K) := by
  intro pins s σ H xs us Q I r h; obtain ⟨a, D, d, c, cv, b, rfl, ha, hd, C, hcv, e, q⟩ := h
  cases r with
  | cons rx rr =>
    cases rr with
    | cons rt rr =>
      cases rr
      cases rx
      have ec := hcv _ rt
      subst ec
      obtain ⟨oe, vs, hget, hz, hv⟩ := excE_at I.hok ha
      have J : ∃ od, PySem.W.InstAt s.heap a oe D od := by
        cases d with
        | none => exact ⟨none, hget, hz.1, by unfold PySem.W.notCls; rw [hv] <;> rfl, by rw [hz.2]; trivial⟩
        | some dd =>
          obtain ⟨fs, hx⟩ := hd dd rfl
          have hx' : ObjOk X.prog X.w H s.heap dd (.xd fs) := I.hok dd _ hx
          obtain ⟨mA, hns, hr⟩ := hx'
          obtain ⟨od, ho, hl⟩ := lookIn_ns hns; exact ⟨some od, hget, hz.1, by unfold PySem.W.notCls; rw [hv] <;> rfl, by rw [hz.2]; exact ho⟩
      obtain ⟨od, J⟩ := J
      exact PySem.W.kia_one (PySem.W.sx_kitx C) I.kIn J e (fun z => nomatch z) fun tk => ⟨.bl b, H, I.kept (t' := tk) fun _ _ z => z, rfl, q⟩
end L2
namespace L2
open PyProof.Rows PySem.Spec PySem
/-! ### defs that are called while an exception is handled -/
/-- such a def's body's context: not calm -/
def cxW (CX : CXT) (P : Program) (w : World) (K : PySem.W.Frag) (mg : Str → Option Value) (base : Heap) (N : List Str) (qual : Str) (scope : Scope) (f : Addr) (cd : Value) (A : Around) (outer : List Env) (s : Shared) (H : Hp) (E : XK) : Cx :=
  { cxOf CX P w K mg base N qual scope f cd A outer s H E with calm := false }
structure FnW (P : Program) (w : World) (K : PySem.W.Frag) (mg : Str → Option Value) (base : Heap) (CX : CXT) (k : Nat) (f : Addr) (fd : FuncData) (ps : List Str) (sp : Sp) : Prop where
  arity : ∀ vs H Q E, sp vs H Q E → vs.length = ps.length
  goes : ∀ (A : Around) (outer : List Env) (s : Shared) (H : Hp) (args : Args) (us : List Value) (vs : List V) (Q : VK) (E : XK), L2H.RoomH k A → Env0 P w K mg base A outer s H → BindsTo s fd args (ps.zip us) → Vals vs us → sp vs H Q E →
    (codeAny (model P w) A (.call (.ref f) args) (CR CX outer P w H s Q E) s)
theorem env0_unmark {P : Program} {w : World} {K : PySem.W.Frag} {mg : Str → Option Value} {base : Heap} {A : Around} {outer : List Env} {s : Shared} {H : Hp} (e : Env0 P w K mg base A outer s H) : Env0 P w K mg base { A with handled := none } outer s H :=
  ⟨e.frames, e.mod, e.bs, e.bsz, e.funs, e.frf, e.hok, e.bare⟩
theorem warm_start {CX : CXT} {P : Program} {w : World} {K : PySem.W.Frag} {mg : Str → Option Value} {base : Heap} {N ps : List Str} {qual : Str} {scope : Scope} {f : Addr} {cd : Value} {A : Around} {outer : List Env} {s s1 : Shared} {H : Hp} {E : XK} {us : List Value} {vs : List V}
    (S : FnScope N ps scope) (e0 : Env0 P w K mg base A outer s H) (hl : vs.length = ps.length) (r : Vals vs us)
    (x : InCallC s s.heap.objs.size (bindL (envOfC qual scope s.heap.objs.size f cd).kindOf (ps.zip us) (fun _ => none)) (cellsFrom (s.heap.objs.size + 1) scope.names []) (bindC (envOfC qual scope s.heap.objs.size f cd).kindOf (ps.zip us) (fun _ => none)) s1) :
    Inv (cxW CX P w K mg base N qual scope f cd A outer s H E) [] (L2.start N vs) H s1 := by
  have J := inv_start (CX := CX) (E := E) (qual := qual) (f := f) (cd := cd) (A := { A with handled := none }) S rfl (env0_unmark e0) hl r x
  obtain ⟨o, j1, j2, j3, j4, j5, j6, j7, j8, j9, j10⟩ := J
  exact ⟨⟨o.mod, o.kind, o.glob, o.blt, o.above, o.inj, o.has, o.cab, (fun z => nomatch z), Around.frames_deeper e0.frames, .inr ⟨rfl, rfl⟩, o.exf, o.bs, o.bsz, o.noex, o.exfs, o.funs, o.frf⟩, j1, j2, j3, j4, j5, j6, j7, j8, j9, j10⟩
theorem FunD.warm {P : Program} {w : World} {K : PySem.W.Frag} {mg : Str → Option Value} {base : Heap} {CX : CXT} {k : Nat} {f : Addr} {fd : FuncData} {name qual : Str} {params : Arguments} {body : List Stmt} {scope : Scope} {ds : List V} {ks : List (Str × V)} {N ps : List Str} {sp : Sp}
    (F : FunD K name qual params body scope ds ks f fd) (S : FnScope N ps scope) (len : ∀ vs H Q E, sp vs H Q E → vs.length = ps.length)
    (hbody : ∀ (cdv : Value) (A : Around) (outer : List Env) (s : Shared) (H : Hp) (vs : List V) (Q : VK) (E : XK), L2H.RoomH k (A.deeper (envOfC qual scope s.heap.objs.size f cdv)) → sp vs H Q E →
      ∃ t, PSs (cxW CX P w K mg base N qual scope f cdv A outer s H E) body t ∧ t { nx := fun _ H' => Q .non H', rt := Q } (L2.start N vs) H) : FnW P w K mg base CX (k + 1) f fd ps sp := by
  obtain ⟨⟨oc, od, dV, kV, doc, pm, an, cdv, ct, osl, rfl, lk, hcd, _⟩, _⟩ := F
  refine ⟨len, fun A outer s H args us vs Q E hr e0 hb r hsp => ?_⟩; have lv := len vs H Q E hsp
  have KX : K.In s.heap := e0.mod.kin.keeps fun b o e => (e0.bs b o e).1; have noL : s.heap.NoLimit := e0.mod.nolimit.keeps fun b o e => (e0.bs b o e).1
  have kinds : ∀ y ∈ ps.zip us, scope.names.lookup y.1 = some .local ∨ (scope.names.lookup y.1 = some .cell ∧ ((cellsFrom (s.heap.objs.size + 1) scope.names []).lookup y.1).isSome = true) := fun ⟨n, v⟩ hy => (S.par n (List.of_mem_zip hy).1).imp id fun q => ⟨q, PySem.W.cellsFrom_some _ _ _ (.inl q)⟩
  refine codeAny_call_function hr.depth (KX _ _ lk) rfl S.co S.gen rfl (PySem.W.codeRec_of KX hcd) (hb _ _ _ _ (wpAny_newFunctionEnv_cells S.kind kinds fun env he s1 x => ?_))
  subst he
  obtain ⟨t, ht, hq⟩ := hbody cdv A outer s H vs Q E (hr.deeper _) hsp
  refine ⟨noL.keeps x.toInCall.keep, codeAny_func (wpAny_mono (ht.run [] s1 (L2.start N vs) H _ (warm_start S e0 lv r x) hq) (fun fl s' hs => ?_) fun e s' hs => hs)⟩
  cases fl with
  | ret u =>
    obtain ⟨v, _, H', J, rv, q⟩ := hs
    exact ⟨v, H', J.os, J.bare, J.base, J.hok, rv, q⟩
  | next =>
    obtain ⟨_, H', J, q⟩ := hs
    exact ⟨V.non, H', J.os, J.bare, J.base, J.hok, rfl, q⟩
  | brk =>
    obtain ⟨_, _, _, q⟩ := hs
    exact q.elim
  | cont =>
    obtain ⟨_, _, _, q⟩ := hs
    exact q.elim
section
variable {X : Cx} {CX : CXT} {k : Nat} {f : Addr} {fd : FuncData} {ps : List Str} {sp : Sp} {x : Str} {q pos : Pos} {e : Expr} {es : List Expr} {t : TA} {E : XK}
theorem pe_callW (F : FnW X.prog X.w X.K X.mg X.base CX k f fd ps sp) (hr : L2H.RoomH k X.A) (hg : Gl X x) (hm : X.mg x = some (.ref f)) (hk : PySem.W.keepIn X.K (.ref f) = true) (hb : Binds X.K fd ps []) (hx : Passes CX X E) (ha : PA X (e :: es) t) (hdb : (x == ("__debug__" : Str)) = false := by decide)
    (he : starEach (e :: es) X.env = (false, eval e X.env) :: starEach es X.env := by rfl) (hpl : (backTo pos (starEach es X.env)).any (·.1) = false := by rfl) : PE X (.Call (.Name x q) (e :: es) [] pos) (fun σ H Q => t σ H fun vs H1 => sp vs H1 Q E) := by
  refine ⟨fun pins s σ H Q I h => wpAny_Call_Name_kw (ld_glob I hg hm (PySem.W.callWith_K (h₀ := X.base) I.ok.mod.kin hk (thn (ha.run pos pins s σ H _ I h) fun us s1 z => ?_) he hpl) hdb)⟩
  obtain ⟨vs, H1, I1, r, hq⟩ := z
  refine ⟨I1.kIn, wpAny_call (codeAny_mono (F.goes X.A X.stack s1 H1 ⟨us, []⟩ us vs Q E hr I1.env0 ?_ r hq) fun a s' ho => ?_)⟩
  · have b := hb s1 us I1.kIn (by rw [List.append_nil, ← r.length]; exact F.arity _ _ _ _ hq)
    rw [List.append_nil] at b
    exact b
  · cases a with
    | error e => exact hx pins σ H1 s1 e s' I1 ho
    | ok fl =>
      cases fl with
      | ret u => exact I1.after ho
      | next => exact ho.elim
      | brk => exact ho.elim
      | cont => exact ho.elim
end
theorem Room.warm {j k : Nat} {A : Around} {h : Option Value} (r : Room k A) (l : j ≤ k := by decide) : L2H.RoomH j (A.mark h) :=
  have q := L2H.roomH_of (r.mono l)
  ⟨q.dp, q.un⟩
theorem call_isTK {X : Cx} (K : PySem.W.Frag) (e : X.K = K) : CallR X (.builtin "isinstance") (rIsT K) := by
  subst e
  exact call_isT
theorem pe_xfTK {X : Cx} {o : Expr} {te : TE} {pos : Pos} {n : Str} (K : PySem.W.Frag) (e : X.K = K) (he : PE X o te) (hb : attributeBase o n X.env (eval o X.env) = eval o X.env := by rfl) : PE X (.Attribute o n pos) (tXfT K n te) := by
  subst e
  exact pe_xfT he hb
end L2
namespace L2
open PyProof.Rows PySem.Spec PySem
/-! ### rules whose reading names the written part K itself (wanted within comprehensions, where the context depends on what is bound) -/
section
variable {X : Cx}
theorem pg_tupK (K : PySem.W.Frag) (e : X.K = K) {es : List Expr} {k : Nat} {t : TGs} {n : Nat} {pos : Pos} (hc : X.calm = true) (h : PGs X es t) (hn : (assignEach es X.env).length = n := by rfl) (hst : (assignEach es X.env).findIdx? (·.1) = none := by rfl) : PG X (.Tuple es k pos) (gTup K n t) := by
  subst e
  exact pg_tup hc h hn hst
theorem ix_listK (K : PySem.W.Frag) (e : X.K = K) : IxR X (rIxL K) := by
  subst e
  exact ix_list
theorem ix_tupK (K : PySem.W.Frag) (e : X.K = K) : IxR X (rIxT K) := by
  subst e
  exact ix_tup
theorem op_inK (K : PySem.W.Frag) (e : X.K = K) : OpR X (compareOp .In) (rIn K false) := by
  subst e
  exact op_in_seq
theorem op_notInK (K : PySem.W.Frag) (e : X.K = K) : OpR X (compareOp .NotIn) (rIn K true) := by
  subst e
  exact op_notIn_seq
theorem op_eqDK (K : PySem.W.Frag) (e : X.K = K) (hu : X.A.units + 64 < cLine) : OpR X (compareOp .Eq) (rEqD K) := by
  subst e
  exact op_eqD hu
theorem op_neDK (K : PySem.W.Frag) (e : X.K = K) (hu : X.A.units + 64 < cLine) : OpR X (compareOp .NotEq) (rNeD K) := by
  subst e
  exact op_neD hu
theorem sl_listK (K : PySem.W.Frag) (e : X.K = K) : SlR X (rSlL K) := by
  subst e
  exact sl_list
end
/-! ### a dict comprehension over a list that stays -/
theorem dc_list {K : PySem.W.Frag} {a : Addr} {xs : List V} {g : TG} {tt : TT} {tk tv : TE} {vs : List Nat} {σ : St} {H1 : Hp} {D : Addr} {Qd : Hp → Prop} (Pv : Nat → Hp → Prop) (h0 : Pv 0 (upd H1 D (.dK []))) (hl : ∀ i H, i ≤ xs.length → Pv i H → SqL K H a xs)
    (step : ∀ i x H, xs[i]? = some x → Pv i H → g x (wipe σ vs) H fun σ2 H2 => wipe σ2 vs = wipe σ vs ∧ tt σ2 H2 fun b H3 => if b = true then tk σ2 H3 fun y H4 => tv σ2 H4 fun z H5 => ∃ kvs k, y = kV k ∧ H5 D = some (.dK kvs) ∧ kvs.length < sizeLine ∧ Pv (i + 1) (upd H5 D (.dK (putK kvs k z))) else Pv (i + 1) H3)
    (hd : ∀ H, Pv xs.length H → Qd H) : ∃ W : Nat → Nat → Hp → Prop, (∃ m, W 0 m (upd H1 D (.dK []))) ∧ ∀ i m H, W i m H → ((Itl K a).stop i H ∧ Qd H) ∨ ((Itl K a).go i H ∧ ∃ Nx : Hp → Prop, (∀ H', Nx H' → ∃ m', m' < m ∧ W (i + 1) m' H') ∧ ∀ x H', (Itl K a).yld i H x H' → g x (wipe σ vs) H' fun σ2 H2 => wipe σ2 vs = wipe σ vs ∧ tt σ2 H2 fun b H3 =>
        if b = true then (tk σ2 H3 fun y H4 => tv σ2 H4 fun z H5 => ∃ kvs k, y = kV k ∧ H5 D = some (.dK kvs) ∧ kvs.length < sizeLine ∧ Nx (upd H5 D (.dK (putK kvs k z)))) else Nx H3) := by
  refine ⟨fun i m H => m = xs.length - i ∧ i ≤ xs.length ∧ Pv i H, ⟨xs.length, (Nat.sub_zero _).symm, Nat.zero_le _, h0⟩, fun i m H ⟨em, hi, p⟩ => ?_⟩
  have q := hl i H hi p
  rcases Nat.lt_or_ge i xs.length with lt | ge
  · refine .inr ⟨⟨xs, xs[i], q, List.getElem?_eq_getElem lt⟩, Pv (i + 1), fun H' p' => ⟨xs.length - (i + 1), by omega, rfl, lt, p'⟩, fun x H' yl => ?_⟩
    obtain ⟨e, y⟩ := yl
    subst e
    exact step i x _ (y xs q) p
  · have e : i = xs.length := Nat.le_antisymm hi ge
    subst e; exact .inl ⟨⟨xs, q, Nat.le_refl _⟩, hd H p⟩
theorem Same.step {H H1 : Hp} {p : Addr} {o : HO} (s : Same H H1) (h : H1 p = none) : Same H (upd H1 p o) := fun a u e => same_new h a u (s a u e)
theorem Same.back {H H1 : Hp} {p : Addr} (s : Same H H1) (h : H1 p = none) : H p = none := s.free h
end L2
namespace L2
open PyProof.Rows PySem.Spec PySem
/-! ### C(..) of a plain class whose __init__ may raise: what is raised is wished for at the caller's slots -/
def tMakeS (C : Addr) (sp : Sp) (dvs : List V) (E : St → XK) (t : TA) : TE := fun σ H Q => t σ H fun vs H1 => ∀ x dx, H1 x = none → H1 dx = none → dx ≠ x → sp (.ref x :: (vs ++ dvs)) (upd (upd H1 dx (.own x)) x (.ins C dx [])) (fun v H2 => v = .non ∧ Q (.ref x) H2) (E σ)
section
variable {X : Cx} {CX : CXT} {k : Nat} {f C : Addr} {fd : FuncData} {ps : List Str} {sp : Sp} {dvs : List V} {ds : List Value} {E : St → XK} {x : Str} {p pos : Pos} {e : Expr} {es : List Expr} {t : TA}
theorem mk_slots {pins : List (Addr × Obj)} {σ : St} {H : Hp} {s : Shared} {Q : VK} {us : List Value} {vs : List V} {XE0 : XK} (M : Mk X.K C f) (F : FnOk X.prog X.w X.K X.mg X.base CX k f fd ps sp) (hr : Room (k + 1) X.A) (hb : Binds X.K fd ps ds) (hd : Vals dvs ds) (hx : PassesAt CX X σ XE0)
    (I : Inv X pins σ H s) (rel : Vals vs us) (wish : ∀ o d, H o = none → H d = none → d ≠ o → sp (.ref o :: (vs ++ dvs)) (upd (upd H d (.own o)) o (.ins C d [])) (fun v H2 => v = .non ∧ Q (.ref o) H2) XE0) : wpAny (model X.prog X.w) X.A (call (.ref C) us) (EP X pins σ Q) X.xe s := by
  let d := s.heap.objs.size
  have w0 := wish (d + 1) d (I.hok.fresh (Nat.le_succ _)) (I.hok.fresh (Nat.le_refl _)) (Nat.ne_of_lt (Nat.lt_succ_self d))
  have J := Inv.made (C := C) I
  have rr : Vals (V.ref (d + 1) :: (vs ++ dvs)) (Value.ref (d + 1) :: (us ++ ds)) := .cons rfl (rel.append hd)
  have len : (Value.ref (d + 1) :: us ++ ds).length = ps.length := (rr.length.symm.trans (F.len _ _ _ _ w0))
  have body := F.run _ X.stack _ _ ⟨Value.ref (d + 1) :: us, []⟩ (Value.ref (d + 1) :: (us ++ ds)) _ _ XE0 (hr.make C us []) (J.env0.make C us []) (hb _ (Value.ref (d + 1) :: us) J.kIn len) rr w0
  refine wpAny_call (make_map (f := f) I.kIn M.makes M.init (beq_iff_eq.mp M.fn) (codeAny_mono body fun r s' out => ?_))
  rcases r with er | fl
  · exact hx pins _ _ er s' J out
  · cases fl with
    | ret u =>
      obtain ⟨v, H', J', rv, ev, q⟩ := J.after out
      subst ev
      exact ⟨rv, V.ref (d + 1), H', J', rfl, q⟩
    | next => exact out.elim
    | brk => exact out.elim
    | cont => exact out.elim
theorem pe_makeS (M : Mk X.K C f) (F : FnOk X.prog X.w X.K X.mg X.base CX k f fd ps sp) (hr : Room (k + 1) X.A) (hg : Gl X x) (hm : X.mg x = some (.ref C)) (hb : Binds X.K fd ps ds) (hd : Vals dvs ds) (hx : ∀ σ, PassesAt CX X σ (E σ)) (ha : PA X (e :: es) t) (hdb : (x == ("__debug__" : Str)) = false := by decide)
    (he : starEach (e :: es) X.env = (false, eval e X.env) :: starEach es X.env := by rfl) (hpl : (backTo pos (starEach es X.env)).any (·.1) = false := by rfl) : PE X (.Call (.Name x p) (e :: es) [] pos) (tMakeS C sp dvs E t) := by
  refine ⟨fun pins s σ H Q I h => wpAny_Call_Name_kw (ld_glob I hg hm (PySem.W.callWith_K (h₀ := X.base) I.ok.mod.kin M.kp (thn (ha.run pos pins s σ H _ I h) fun us s1 z => ?_) he hpl) hdb)⟩
  obtain ⟨vs, H1, I1, rel, q⟩ := z
  exact ⟨I1.kIn, mk_slots M F hr hb hd (hx σ) I1 rel q⟩
/-- a callee that is known to raise nothing here -/
theorem passF {X : Cx} : Passes (L2.CX X.prog X.w) X (fun _ _ _ => False) := fun pins σ H s e s' I c => passAt (takes_noX (X := X)) σ pins H s e s' I c
end
end L2
namespace L2
open PyProof.Rows PySem.Spec PySem
/-! ### min(xs, default=d), xs a list of ints -/
theorem ints_read {h : Heap} : ∀ {us : List Value} {ns : List Int}, Vals (ns.map V.int) us → ReadsAll h us (ns.map PyData.int) []
  | _, [], .nil => .nil
  | _, n :: ns, .cons r rs => by
    obtain ⟨t, rfl⟩ := r
    exact .cons (.int n t) (ints_read rs)
theorem min_fold : ∀ (ns : List Int) (n : Int), (ns.foldl min n = n ∨ ns.foldl min n ∈ ns) ∧ ns.foldl min n ≤ n ∧ ∀ y ∈ ns, ns.foldl min n ≤ y
  | [], n => ⟨.inl rfl, Int.le_refl _, fun _ h => by cases h⟩
  | k :: ns, n => by
    obtain ⟨h1, h2, h3⟩ := min_fold ns (min n k)
    rw [List.foldl_cons]
    have a1 : min n k ≤ n := Int.min_le_left n k
    have a2 : min n k ≤ k := Int.min_le_right n k
    refine ⟨?_, Int.le_trans h2 a1, fun y hy => ?_⟩
    · rcases h1 with e | e
      · rw [e]
        rcases Int.le_total n k with z | z
        · exact .inl (Int.min_eq_left z)
        · exact .inr (by rw [Int.min_eq_right z]; simp)
      · exact .inr (List.mem_cons_of_mem _ e)
    · rcases List.mem_cons.mp hy with e | e
      · rw [e]
        exact Int.le_trans h2 a2
      · exact h3 y e
def rMinD (K : PySem.W.Frag) : List V → List V → Hp → VK → Prop := fun vs zs H Q => ∃ (a : Addr) (ns : List Int) (d : V), vs = [.ref a] ∧ zs = [d] ∧ SqL K H a (ns.map V.int) ∧ (ns = [] → Q d H) ∧ ∀ m, m ∈ ns → (∀ y ∈ ns, m ≤ y) → Q (.int m) H
theorem crk_minD {X : Cx} (K : PySem.W.Frag) (eK : X.K = K) (hc : X.calm = true) (hu : X.A.units + 1 < cLine) : CallRK X (.builtin "min") ["default"] (rMinD K) := by
  subst eK
  intro pins s σ H vs zs us ws Q I r rz h; obtain ⟨a, ns, d, rfl, rfl, hs, q0, q1⟩ := h
  obtain ⟨its, rv, hl, _⟩ := I.list hs; rw [Vals.ref1 r]
  cases rz with
  | cons rd rn =>
    cases rn
    rename_i u
    have al : PySem.W.AlikeAll (ns.map PyData.int) := ⟨fun x hx y hy => by
      obtain ⟨i, _, rfl⟩ := List.mem_map.mp hx
      obtain ⟨j, _, rfl⟩ := List.mem_map.mp hy
      simp [PySem.W.alike], fun x hx => by
      obtain ⟨i, _, rfl⟩ := List.mem_map.mp hx
      intro z
      cases z⟩
    show wpAny _ _ (call (.builtin "min") [.ref a] [(Str.ofString "default", u)]) _ _ _
    refine PySem.W.min_list_default (I.ok.hd hc) hl.isList (ints_read rv) al (by rw [PySem.W.depth_ints]; exact hu) (fun e h' tk hk => ?_) fun y ys i v h' tk bs e hv hr hk => ?_
    · have e2 : ns = [] := List.map_eq_nil_iff.mp e
      exact ⟨d, H, I.kept hk, rd, q0 e2⟩
    · cases ns with
      | nil => cases e
      | cons n ns =>
        rw [List.map_cons] at e
        injection e with e1 e2
        subst e1 e2
        rw [PySem.W.minD_ints] at hr
        obtain ⟨m1, m2, m3⟩ := min_fold ns n
        cases hr with
        | int _ t => exact ⟨.int _, H, I.kept hk, ⟨t, rfl⟩, q1 _ (by rcases m1 with z | z <;> simp [z]) fun y hy => (List.mem_cons.mp hy).elim (fun z => by rw [z]; exact m2) (m3 y)⟩
end L2
namespace PySem.W
open PyProof.Rows PySem.Spec PySem
section
variable {prog : Program} {w : World} {A : Around} {E : Value → Shared → Prop} {s : Shared} {K : Frag} {x C f L : Addr} {h₀ : Heap} {m : Str → Option Value} {ox : Obj} {od : Option Obj} {b tb : Value}
/-- x.__ne__(b) by object's own, where the class has an __eq__ -/
theorem own_ne {Q : Option Value → Shared → Prop} (hu : A.units + 1 < cLine) (X : K.In s.heap) (I : InstAt s.heap x ox C od) (hne : findIn K (.ref C) "__ne__" = some (some (.builtin "object.__ne__"))) (hob : subIn K (.ref C) (.type "object") = some true)
    (hs : findIn K (.ref C) "__eq__" = some (some (.ref f))) (hf : isFn K (.ref f) = true) (h : wpAny (model prog w) A.in1 (call (.ref f) [.ref x, b]) (fun v s' => ∃ t, v = .bool t ∧ Q (some (.bool !t)) s') E s) : wpAny (model prog w) A (tryCompare (.ref x) "__ne__" b) Q E s := by
  have l0 := I.type (M := model prog w)
  have isO : Looks (model prog w) s.heap (isInstance (.ref x) (.type "object")) true := l0.andThen (looks_subIn X hob)
  have body : wpAny (model prog w) A.in1 (Builtin.«object.__ne__» ⟨[.ref x, b], []⟩) (fun fin s' => match fin with
      | .done (.ret (.bool t)) => Q (some (.bool t)) s'
      | _ => False) E s := by
    unfold Builtin.«object.__ne__»; refine wpAny_bind (wpAny_of_eq (a := ((Value.ref x : Value), [b])) (by first | rfl | (simp only [slotArgs]; rfl)) ?_)
    refine wpAny_bind (wpAny_cRoomFor (by exact hu) ?_)
    refine wpAny_bind (ifBound_K X I hs hf (wpAny_mono h (fun v s' hv => ?_) fun _ _ e => e)); obtain ⟨t, rfl, q⟩ := hv
    exact wpAny_bind (wpAny_truthy_bool (wpAny_pure q))
  have ask : wpAny (model prog w) A (callSpecialIfBound? (.ref x) "__ne__" [b]) (fun r s' => ∃ t, r = some (.bool t) ∧ Q (some (.bool t)) s') E s := by
    simp only [callSpecialIfBound?, bindSpecialIfBound?]; refine wpAny_holding (wpAny_bind (wpAny_bind (wpAny_bind (l0.here ((looks_findIn X hne).here ?_)))))
    simp only [PySem.F.cmp_object.ne.bind]
    refine wpAny_bind (wpAny_askSetting (wpAny_ite ?_)); have fin : wpAny (model prog w) A (call (.builtin "object.__ne__") ([.ref x] ++ [b]) >>= fun v => pure (some v)) (fun r s' => ∃ t, r = some (.bool t) ∧ Q (some (.bool t)) s') E s := by
      refine wpAny_bind (wpAny_call (codeAny_call_builtin PySem.F.cmp_object.ne.plain PySem.F.cmpEntry_ne (check_slot PySem.F.cmpKind_ne PySem.F.cmpSplit_ne isO (PySem.F.cmpArgs_ne _ _) (wpAny_mono body (fun fn s' q => ?_) fun _ _ e => e))))
      cases fn with
      | done fl =>
        cases fl with
        | ret v =>
          cases v with
          | bool t => exact wpAny_pure ⟨t, rfl, q⟩
          | _ => exact q.elim
        | _ => exact q.elim
      | again _ => exact q.elim
    split
    · exact wpAny_bind <| wpAny_pure <| wpAny_pure fin
    · exact wpAny_tryCatch <| wpAny_bind <| wpAny_pure <| wpAny_pure fin
  unfold tryCompare
  refine wpAny_bind (wpAny_mono ask (fun r s' z => ?_) fun _ _ e => e)
  obtain ⟨t, rfl, q⟩ := z
  exact wpAny_pure q
/-- x != b by that road -/
theorem rich_ne {Q : Value → Shared → Prop} (hu : A.units + 1 < cLine) (F : Fr h₀ L s.heap m) (X₀ : K.In h₀) (I : InstAt s.heap x ox C od) (hb : Looks (model prog w) s.heap (typeOf b) tb) (hn : notFirst K C tb = true)
    (hne : findIn K (.ref C) "__ne__" = some (some (.builtin "object.__ne__"))) (hob : subIn K (.ref C) (.type "object") = some true) (hs : findIn K (.ref C) "__eq__" = some (some (.ref f))) (hf : isFn K (.ref f) = true)
    (h : wpAny (model prog w) A.in1 (call (.ref f) [.ref x, b]) (fun v s' => ∃ t, v = .bool t ∧ Q (.bool !t) s') E s) : wpAny (model prog w) A (richCompare .NotEq (.ref x) b) Q E s := by
  have X := X₀.keeps F.keep
  have one : wpAny (model prog w) A (tryCompare (.ref x) "__ne__" b) (fun r s' => ∃ t, r = some (.bool t) ∧ Q (.bool t) s') E s :=
    own_ne hu X I hne hob hs hf (wpAny_mono h (fun v s' z => by
      obtain ⟨t, e, q⟩ := z
      exact ⟨t, e, !t, rfl, q⟩) fun _ _ e => e)
  unfold richCompare
  simp only [cmpInfo_NotEq, oneThing_ref]
  refine wpAny_holding (wpAny_bind (wpAny_cRoomFor (Nat.lt_of_succ_lt hu) (wpAny_bind (I.type.here (wpAny_bind (hb.here ?_))))))
  split
  · rename_i q
    have e : (subIn K tb (.ref C) = some false) := by
      rcases (Bool.or_eq_true_iff.mp hn) with e | e
      · rw [beq_iff_eq.mp e] at q
        simp at q
      · exact beq_iff_eq.mp e
    refine wpAny_bind ((looks_subIn X e).here ?_); simp only [Bool.false_eq_true, if_false]
    refine wpAny_bind (wpAny_mono one (fun r s' z => ?_) fun _ _ e => e); obtain ⟨t, rfl, hq⟩ := z
    exact wpAny_pure hq
  · refine wpAny_bind (wpAny_pure ?_); simp only [Bool.false_eq_true, if_false]
    refine wpAny_bind (wpAny_mono one (fun r s' z => ?_) fun _ _ e => e); obtain ⟨t, rfl, hq⟩ := z
    exact wpAny_pure hq
end
end PySem.W
namespace L2
open PyProof.Rows PySem.Spec PySem
/-! ### x == y, x != y, x an instance of a plain class with its own __eq__, y of any known type: what __eq__ answers -/
structure EqC (K : PySem.W.Frag) (C f : Addr) : Prop where
  eq : PySem.W.findIn K (.ref C) "__eq__" = some (some (.ref f))
  fn : (PySem.W.isFn K (.ref f)) = true
  ne : PySem.W.findIn K (.ref C) "__ne__" = some (some (.builtin "object.__ne__"))
  ob : PySem.W.subIn K (.ref C) (.type "object") = some true
def rEqI (K : PySem.W.Frag) (C : Addr) (sp : Sp) : R2 := fun x y H Q => ∃ (a dx : Addr) (fs : List (Str × V)) (t : Value), x = .ref a ∧ H a = some (.ins C dx fs) ∧ TyX K H y t ∧ PySem.W.notFirst K C t = true ∧ sp [.ref a, y] H (fun v H' => ∃ b, v = .bl b ∧ Q (.bl b) H') E0
def rNeI (K : PySem.W.Frag) (C : Addr) (sp : Sp) : R2 := fun x y H Q => ∃ (a dx : Addr) (fs : List (Str × V)) (t : Value), x = .ref a ∧ H a = some (.ins C dx fs) ∧ TyX K H y t ∧ PySem.W.notFirst K C t = true ∧ sp [.ref a, y] H (fun v H' => ∃ b, v = .bl b ∧ Q (.bl !b) H') E0
section
variable {X : Cx} {n : Nat} {C f : Addr} {fd : FuncData} {ps : List Str} {sp : Sp}
theorem run_own {A : Around} {pins : List (Addr × Obj)} {σ : St} {H : Hp} {s : Shared} {a : Addr} {y : V} {u : Value} {R : Value → Shared → Prop} {Q : VK} (F : FnOk X.prog X.w X.K X.mg X.base CX0 n f fd ps sp) (hb : Binds X.K fd ps []) (hr : Room n A) (fr : A.frames = X.A.frames)
    (I : Inv X pins σ H s) (ry : RelV y u) (h : sp [.ref a, y] H Q E0) (out : ∀ v H' w s', Inv X pins σ H' s' → RelV v w → Q v H' → R w s') : wpAny (model X.prog X.w) A (call (.ref f) [.ref a, u]) R X.xe s := by
  have ev := I.env0
  have e0 : Env0 X.prog X.w X.K X.mg X.base A X.stack s H := ⟨fr.trans ev.frames, ev.mod, ev.bs, ev.bsz, ev.funs, ev.frf, ev.hok, ev.bare⟩
  have rel : Vals [V.ref a, y] [Value.ref a, u] := .cons rfl (.cons ry .nil)
  have hl := F.len _ _ _ _ h
  have bt := hb s [.ref a, u] I.kIn (by simpa using hl)
  rw [List.append_nil] at bt
  refine wpAny_call (codeAny_mono (F.run A X.stack s H ⟨[.ref a, u], []⟩ [.ref a, u] [.ref a, y] Q E0 hr e0 bt rel h) fun r s' o => ?_)
  cases r with
  | error _ => exact o.elim
  | ok fl =>
    cases fl with
    | ret w =>
      obtain ⟨v, H', I', rv, q⟩ := I.after o
      exact out v H' w s' I' rv q
    | next => exact o.elim
    | brk => exact o.elim
    | cont => exact o.elim
theorem op_eqI (K : PySem.W.Frag) (eK : X.K = K) (EC : EqC K C f) (F : FnOk X.prog X.w X.K X.mg X.base CX0 n f fd ps sp) (hb : Binds X.K fd ps []) (hr : Room n X.A) : OpR X (compareOp .Eq) (rEqI K C sp) := by
  subst eK
  intro pins s σ H x y v u Q I rx ry h; obtain ⟨a, dx, fs, t, rfl, ha, ty, hn, q⟩ := h
  cases rx
  obtain ⟨mA, J, _⟩ := ins_get I.hok ha; obtain ⟨od, J, _⟩ := J.look
  obtain ⟨m, hF⟩ := I.fr
  obtain ⟨P, Z, p, _⟩ := kit_of I ry ty
  refine PySem.W.cmp_K (op := .Eq) hr.units0 hF I.ok.mod.kin J (Z.ty _ _ I.kIn p) hn EC.eq EC.fn ?_
  refine run_own F hb hr rfl I ry q fun v H' w s' I' rv z => ?_
  obtain ⟨b, rfl, q2⟩ := z
  cases rv
  exact ⟨.bl b, H', I', rfl, q2⟩
theorem op_neI (K : PySem.W.Frag) (eK : X.K = K) (EC : EqC K C f) (F : FnOk X.prog X.w X.K X.mg X.base CX0 n f fd ps sp) (hb : Binds X.K fd ps []) (hr : Room (n + 1) X.A) : OpR X (compareOp .NotEq) (rNeI K C sp) := by
  subst eK
  intro pins s σ H x y v u Q I rx ry h; obtain ⟨a, dx, fs, t, rfl, ha, ty, hn, q⟩ := h
  cases rx
  obtain ⟨mA, J, _⟩ := ins_get I.hok ha; obtain ⟨od, J, _⟩ := J.look
  obtain ⟨m, hF⟩ := I.fr
  obtain ⟨P, Z, p, _⟩ := kit_of I ry ty
  refine PySem.W.rich_ne (by have := hr.units; omega) hF I.ok.mod.kin J (Z.ty _ _ I.kIn p) hn EC.ne EC.ob EC.eq EC.fn ?_
  refine run_own (A := X.A.in1) F hb hr.in1 rfl I ry q fun v H' w s' I' rv z => ?_
  obtain ⟨b, rfl, q2⟩ := z
  cases rv
  exact ⟨b, rfl, .bl !b, H', I', rfl, q2⟩
end
end L2
namespace L2
open PyProof.Rows PySem.Spec PySem
/-! ### text * 0, text * 1 -/
def rTimes01 : R2 := fun x y H Q => ∃ (z : Str) (b : Bool), x = .str z ∧ y = .int (if b then 1 else 0) ∧ Q (.str (if b then z else Str.empty)) H
theorem op_times01 {X : Cx} : OpR X (binaryOp .Mult) rTimes01 := by
  intro pins s σ H x y v u Q I rx ry h; obtain ⟨z, b, rfl, rfl, q⟩ := h
  obtain ⟨t, rfl⟩ := rx
  obtain ⟨t', rfl⟩ := ry
  cases b with
  | false => exact P.mul_str_none (by decide) (by decide) ⟨.str Str.empty, H, I.tok _, ⟨_, rfl⟩, q⟩
  | true =>
    refine P.mul_str (n := 1) (by decide) (fun _ z => by cases z) (fun _ z => by cases z) ?_
    rw [if_neg (show ¬ (1 : Int) < 1 by decide), if_pos (show ((1 : Int) == 1 || z.length == 0) = true by rfl)]
    exact ⟨L2.V.str z, H, I, ⟨t, rfl⟩, q⟩
end L2
namespace LamX
open L2 PyProof.Rows PySem.Spec PySem
/-! ### lambdas that are kept in a list and called later, where they were made -/
def LamO (cells : List (Str × Addr)) (q : Str) (params : Arguments) (body : Expr) (scope : Scope) (c' f : Addr) : HO :=
  .ext fun h => ∃ pm ctv, h.get? f = some (PySem.W.kla_obj "<lambda>" q params body scope (cloFrom cells scope.names []) pm c' ctv)
section
variable {pins : List (Addr × Obj)} {X : Cx} {s : Shared} {H : Hp} {σ : L2.St}
theorem lam_make3 {T : List (Addr × Str)} {c P : Addr} {params : Arguments} {body : Expr} {scope : Scope} {pos : Pos} {E : Value → Shared → Prop} {Q : Value → Shared → Prop} (I : Inv X pins σ H s) (TB : TabB X.base X.mg c P) (hcode : X.env.code = .ref c)
    (hm : (P, X.env.qual ++ "<lambda>") ∈ T) (hu : ∀ tq ∈ T, tq.1 = P → tq.2 = X.env.qual ++ "<lambda>") (hT : Tabs T H) (hdef : defaultsOf params X.env = ([], [])) (hfree : ∀ nk ∈ scope.names, nk.2 = .free → ∃ c, X.env.cells.lookup nk.1 = some c)
    (h : ∀ (f c' : Addr) (H1 : Hp) (s' : Shared), Inv X pins σ (upd H1 f (LamO X.env.cells (X.env.qual ++ "<lambda>") params body scope c' f)) s' → ExtN H H1 → Tabs T H1 → H1 f = none → H1 c' = some (CodeO c' (X.env.qual ++ "<lambda>")) → Q (.ref f) s') :
    (wpAny (model X.prog X.w) X.A (eval (.Lambda params body scope pos) X.env) Q E s) := by
  obtain ⟨ps, hP, ht, ha⟩ := hT _ hm; refine PySem.W.kla_eval hdef ?_
  have bP : s.heap.BuiltinsAt X.mg P := TB.bm.keeps I.bk; have hP' : s.heap.get? P = some { cls := .none, data := .fields ps } := I.hok P _ hP
  have track : ∀ {H1 : Hp} {h' : Heap} {tk : Tok} {c' : Addr} {ctv : Value}, Inv X pins σ H1 { s with heap := h', toks := tk } → Inv X pins σ (upd H1 h'.objs.size (LamO X.env.cells (X.env.qual ++ "<lambda>") params body scope c' h'.objs.size)) { s with heap := h'.push (PySem.W.kla_obj "<lambda>" (X.env.qual ++ "<lambda>") params body scope (cloFrom X.env.cells scope.names []) ((X.mg "__name__").getD .none) c' ctv), toks := tk } := fun {H1 h' tk c' ctv} J => by
    have e0 := Heap.get?_push_size h' (o := PySem.W.kla_obj "<lambda>" (X.env.qual ++ "<lambda>") params body scope (cloFrom X.env.cells scope.names []) ((X.mg "__name__").getD .none) c' ctv) rfl
    exact J.laid (a := h'.objs.size) (t' := tk) (fun b u q => Heap.get?_push_of_some _ q) (Nat.le_refl _) ⟨⟨_, _, e0⟩, ⟨_, e0⟩, fun h1 h2 ⟨pm, ct, e⟩ st => ⟨pm, ct, st _ e⟩⟩
  cases hc : (codeAmong pos ps.toList) with
  | none =>
    refine PySem.W.kla_makeFunction (mg := X.mg) (c := c) (P := P) (ps := ps) (closure_ok hfree) I.ok.glob (I.mod.glob.keeps I.bk) hcode (TB.code.keeps I.bk) hP' ht hc TB.gP bP fun c' ctv h' tk hx hge hlt hrec htb => ?_; obtain ⟨c2, oc, vs, t, e2, hoc, hd, hv⟩ := hrec
    cases e2
    have hsz : s.heap.objs.size ≤ h'.objs.size := Nat.le_trans hge (Nat.le_of_lt hlt); have nC : H c' = none := I.hok.fresh hge
    have I1 := inv_table (t' := tk) (more := #[rawInt pos.line, rawInt pos.col, .ref c']) (h' := h') I hP
      (fun b o hb e => hx b o hb e) htb hge ⟨oc, vs, t, hoc, hd, hv⟩
    have hE : (ExtN H (upd (upd H P (.tbl (ps ++ #[rawInt pos.line, rawInt pos.col, .ref c']))) c' (CodeO c' (X.env.qual ++ "<lambda>")))) := fun b o e n => by
      rw [upd_ne (ne_of_none e nC), upd_ne (fun z => n ps (Option.some.inj (e.symm.trans (by rw [z]; exact hP))))]; exact e
    have eL : (ps ++ #[rawInt pos.line, rawInt pos.col, .ref c']).toList = ps.toList ++ [rawInt pos.line, rawInt pos.col, .ref c'] := (by simp)
    refine h h'.objs.size c' _ _ (track I1) hE (fun p hp => ?_) ?_ upd_same
    · by_cases hb : p.1 = P
      · rw [hu p hp hb, hb]; refine ⟨_, by rw [upd_ne (ne_of_none hP nC), upd_same], by rw [eL]; exact PySem.TriplesOk_snoc _ _ _ _ ht, fun p' cv hcv => ?_⟩
        rw [eL] at hcv; rcases among_app _ ht hcv with z | z
        · obtain ⟨c0, e1, e2⟩ := ha p' cv z; exact ⟨c0, e1, hE _ _ e2 codeO_ne⟩
        · exact ⟨c', z, upd_same⟩
      · obtain ⟨ps', a1, a2, a3⟩ := hT p hp; refine ⟨ps', by rw [upd_ne (ne_of_none a1 nC), upd_ne hb]; exact a1, a2, fun p' cv hcv => ?_⟩
        obtain ⟨c0, e1, e2⟩ := a3 p' cv hcv; exact ⟨c0, e1, hE _ _ e2 codeO_ne⟩
    · have n1 : h'.objs.size ≠ c' := Nat.ne_of_gt hlt; have n2 : h'.objs.size ≠ P := Nat.ne_of_gt (Nat.lt_of_lt_of_le (Heap.lt_size hP') hsz)
      rw [upd_ne n1, upd_ne n2]
      exact I.hok.fresh hsz
  | some cv =>
    obtain ⟨c', e, hco⟩ := ha pos cv hc; subst e
    refine PySem.W.kla_makeFunctionHit (mg := X.mg) (c := c) (P := P) (ps := ps) (closure_ok hfree) I.ok.glob (I.mod.glob.keeps I.bk) hcode (TB.code.keeps I.bk) hP' ht hc bP fun ctv h' tk hx hsz => ?_; have I1 : Inv X pins σ H { s with heap := h', toks := tk } := I.kept hx
    exact h h'.objs.size c' H _ (track I1) (ExtN.refl H) hT (I.hok.fresh hsz) hco
end
def tLamV (T : List (Addr × Str)) (ce : List (Str × Addr)) (q : Str) (params : Arguments) (body : Expr) (scope : Scope) : TE := fun _ H Q =>
  Tabs T H ∧ ∀ f c' H1, ExtN H H1 → Tabs T H1 → H1 f = none → H1 c' = some (CodeO c' q) → Q (.ref f) (upd H1 f (LamO ce q params body scope c' f))
section
variable {X : Cx}
/-- lambda: body, as a value -/
theorem pe_lamV {T : List (Addr × Str)} {ce : List (Str × Addr)} {q : Str} {c P : Addr} {params : Arguments} {body : Expr} {scope : Scope} {lpos : Pos} (eC : X.env.cells = ce) (eQ : X.env.qual ++ "<lambda>" = q) (TB : TabB X.base X.mg c P) (hcode : X.env.code = .ref c) (hmT : (P, q) ∈ T) (hu : ∀ p ∈ T, p.1 = P → p.2 = q)
    (L : LamS X.env.scope scope) (hdef : defaultsOf params X.env = ([], [])) : PE X (.Lambda params body scope lpos) (tLamV T ce q params body scope) := by
  refine ⟨fun pins s σ H Q I h => ?_⟩; obtain ⟨hT, h⟩ := h
  subst eC eQ
  exact lam_make3 I TB hcode hmT hu hT hdef (L.has I.ok) fun f c' H1 s' I1 eN T1 hf hc => ⟨.ref f, _, I1, rfl, h f c' H1 eN T1 hf hc⟩
/-- x(), where the lambda was made; ι: which of them it is -/
theorem pe_lamS {ι : Type} {params : ι → Arguments} {body : ι → Expr} {scope : ι → Scope} {ce : List (Str × Addr)} {q a : Str} {i k : Nat} {W : WX} {tb : ι → XK → TE} {p1 p2 : Pos} (eC : X.env.cells = ce) (eQ : X.env.qual ++ "<lambda>" = q) (L : ∀ j, LamS X.env.scope (scope j)) (tk : Takes X W) (hr : Room (k + 1) X.A)
    (hbind : ∀ (j : ι) (q : Str) (cl : List (Str × Addr)) (pm cv ctv : Value), bindArgs (PySem.W.kla_fn "<lambda>" q (params j) (body j) (scope j) cl pm cv ctv) ⟨[], []⟩ = pure [])
    (hbody : ∀ (j : ι) (A : Around) (outer : List Env) (s : Shared) (H : Hp) (E : XK) (f c' : Addr), Room k (A.deeper (lamEnv X (scope j) s.heap.objs.size f c')) → PE (lamCx X A outer s H E (scope j) f c') (body j) (tb j E))
    (hN : X.N[i]? = some a) (hv : Vis X.env.scope a) (hd : (a == ("__debug__" : Str)) = false := by decide) (hcd : (a == ("__classdict__" : Str)) = false := by decide) :
    PE X (.Call (.Name a p1) [] [] p2) (fun σ H Q => ∃ j f c', σ[i]? = some (some (.ref f)) ∧ H f = some (LamO ce q (params j) (body j) (scope j) c' f) ∧ H c' = some (CodeO c' q) ∧ tb j (fun cls d H => W cls d σ H) σ H Q) := by
  subst eC eQ
  refine ⟨fun pins s σ H Q I h => ?_⟩; obtain ⟨j, f, c', hs, hf, hc, ht⟩ := h
  refine wpAny_Call_Name_kw (thn ((pe_var (pos := p1) (i := i) hN hv hd hcd).run pins s σ H (fun v H1 => v = .ref f ∧ H1 = H) I ⟨.ref f, hs, rfl, rfl⟩) fun u s1 ⟨v, H1, I1, r1, q1⟩ => ?_)
  obtain ⟨ev, eH⟩ := q1
  subst ev
  rw [eH] at I1
  obtain rfl : u = Value.ref f := r1; obtain ⟨⟨pm, ctv, of1⟩, _, _⟩ := I1.hok f _ hf
  refine PySem.W.callWith_F0 ⟨_, _, _, _, of1⟩ ?_; obtain ⟨⟨oc, vs, t, hoc, hdc, hvc⟩, _, _⟩ := I1.hok c' _ hc
  have rc : codeAny (model X.prog X.w) X.A (.call (.ref f) ⟨[], []⟩) (CR (L2.CX X.prog X.w) X.stack X.prog X.w H s1 Q (fun cls d H => W cls d σ H)) s1 := by
    refine PySem.W.kla_callFunE hr.depth of1 rfl (L j).co (L j).gen rfl ⟨c', oc, vs, t, rfl, hoc, hdc, hvc⟩ ?_
    rw [hbind]
    refine wpAny_pure (wpAny_newFunctionEnv (fun y hy => ((L j).own y hy).2) (fun y hy => absurd hy (by simp)) (fun h₁ hns hsb => ⟨I1.nolimit.fresh _ hsb, ?_⟩) (L j).kind)
    show codeAny _ _ (.expr (body j) (lamEnv X (scope j) s1.heap.objs.size f c')) _ _
    have kp : ∀ b o, s1.heap.get? b = some o → h₁.get? b = some o := fun b o e => hsb.extBut b o (Nat.ne_of_lt (Heap.lt_size e)) (Heap.get?_push_of_some _ e); have J : Inv (lamCx X X.A X.stack s1 H (fun cls d H => W cls d σ H) (scope j) f c') [] σ H { s1 with heap := h₁, toks := s1.toks + ([] : List (Str × Value)).length } :=
      lam_start2 I1 (L j) I1.env0 hr.hd Un.refl hns kp
    refine PySem.W.kla_codeExpr (wpAny_mono ((hbody j _ _ s1 H _ f c' (hr.deeper _)).run [] _ _ H Q J ht) (fun v s' hq => ?_) fun e s' hq => hq)
    obtain ⟨w', H', J', rv, q⟩ := hq; exact ⟨w', H', J'.os, J'.bare, J'.base, J'.hok, rv, q⟩
  refine wpAny_call (codeAny_mono rc fun r s' hq => ?_); cases r with
  | error e => exact tk e s' (XE.of_call I1 (fun cls d H' h => h) hq)
  | ok fl =>
    cases fl with
    | ret u => exact I1.after hq
    | next => exact False.elim hq
    | brk => exact False.elim hq
    | cont => exact False.elim hq
end
/-- a def whose code object is told -/
theorem okC {P : Program} {w : World} {K : PySem.W.Frag} {mg : Str → Option Value} {base : Heap} {x qual : Str} {params : Arguments} {body : List Stmt} {scope : Scope} {dvs : List V} {kws : List (Str × V)} {f : Addr} {fd : FuncData}
    {CX : CXT} {N ps : List Str} {k : Nat} {sp : Sp} (F : FunD K x qual params body scope dvs kws f fd) (S : FnScope N ps scope) (len : ∀ vs H Q E, sp vs H Q E → vs.length = ps.length)
    (hbody : ∀ (A : Around) (outer : List Env) (s : Shared) (H : Hp) (vs : List V) (Q : VK) (E : XK), Room k (A.deeper (envOfC qual scope s.heap.objs.size f fd.code)) → sp vs H Q E →
      ∃ t, PSs (cxOf CX P w K mg base N qual scope f fd.code A outer s H E) body t ∧ t { nx := fun _ H' => Q .non H', rt := Q } (start N vs) H) : FnOk P w K mg base CX (k + 1) f fd ps sp := by
  obtain ⟨oc, od, dV, kV, doc, pm, an, cdv, ct, osl, rfl, lk, hcd, _, _⟩ := F.ex; exact fn_of lk hcd S len fun A outer s H vs Q E hr hsp => hbody A outer s H vs Q E hr hsp
end LamX
namespace L2
open PyProof.Rows PySem.Spec PySem
/-- a try with clauses, its reading by a name (wanted in loops) -/
def tTry (K : PySem.W.Frag) (Wout : WX) (l : List Clause) (tb : WX → TS) : TS := fun D σ H => tb (wAll K Wout D l) D σ H
theorem ps_try_allD {X : Cx} {body : List Stmt} {h₀ : ExceptHandler} {hds : List ExceptHandler} {l : List Clause} {pos : Pos} {tb : WX → TS} {Wout : WX} (K : PySem.W.Frag) (eK : X.K = K) (hs : X.stack = X.env :: X.outer) (hf : X.env.frame = some X.env.locals) (hN : X.N.Nodup) (hex : X.ex = []) (tk : Takes X Wout)
    (hb : ∀ (W : WX) (pq : List (Addr × Obj)) (xe : Value → Shared → Prop), Takes (X.tr pq xe) W → PassesOwn (model X.prog X.w) X.A X.env xe → PSs (X.tr pq xe) body (tb W))
    (hh : HdsA X (h₀ :: hds) l) : PS X (.Try body (h₀ :: hds) [] [] pos) (tTry K Wout l tb) := by
  subst eK
  exact ps_try_all hs hf hN hex tk hb hh
theorem pe_bmK {X : Cx} {name : Str} {T id : String} {o e : Expr} {es : List Expr} {to : TE} {t : TA} {r : V → List V → Hp → VK → Prop} {apos cpos : Pos} (K : PySem.W.Frag) (eK : X.K = K) (pa : PlainAttrs T) (slot : Slot T name id) (hty : typeOf (.builtin id) = pure (.type "method_descriptor")) (hm : MtR X id r) (ho : PE X o to) (ha : PA X (e :: es) t)
    (hbase : (attributeBase o name X.env (eval o X.env)) = (eval o X.env) := by rfl)
    (hfew : ((backTo cpos (starEach (e :: es) X.env)).all (fun z => !z.1) && (backToKw cpos (keywordEach [] X.env)).all (fun z => z.1.isSome)
      && (decide ((e :: es).length + ([] : List Keyword).length + (if ([] : List Keyword).isEmpty then 0 else 1) < 30))) = true := by rfl)
    (hline : (apos.endLine == cpos.line) = true := by rfl) (hs : starEach (e :: es) X.env = (false, eval e X.env) :: starEach es X.env := by rfl) (hplain : ((backTo cpos (starEach es X.env)).any fun z => z.1) = false := by rfl) :
    PE X (.Call (.Attribute o name apos) (e :: es) [] cpos) (tBM K T r to t) := by
  subst eK
  exact pe_bm pa slot hty hm ho ha hbase hfew hline hs hplain
end L2
namespace L2
open PyProof.Rows PySem.Spec PySem
/-! ### a text times a number from 2 on -/
def repS (z : Str) (n : Nat) : Str := ⟨(List.replicate n z.cps).foldl (· ++ ·) #[]⟩
def rTimesN : R2 := fun x y H Q => ∃ (z : Str) (n : Nat), x = .str z ∧ y = .int (n : Nat) ∧ 2 ≤ n ∧ n ≤ 1000000 ∧ 0 < z.length ∧ z.length ≤ 1000 ∧ z.length * n ≤ 900000 ∧ (repS z n).length ≤ sizeLine ∧ Q (.str (repS z n)) H
theorem op_timesN {X : Cx} : OpR X (binaryOp .Mult) rTimesN := by
  intro pins s σ H x y v u Q I rx ry h; obtain ⟨z, n, rfl, rfl, n2, nx, z0, z1, zn, zl, q⟩ := h
  obtain ⟨t, rfl⟩ := rx
  obtain ⟨t', rfl⟩ := ry
  refine P.mul_str (n := (n : Int)) ?_ (fun _ _ => ?_) (fun _ _ => ?_) ?_
  · rw [decide_eq_false (show ¬ (n : Int) < -(2 ^ 63 : Int) by omega), decide_eq_false (show ¬ (n : Int) ≥ 2 ^ 63 by omega)]
    rfl
  · have h1 : (1000 : Int) ≤ (2 ^ 63 - 1) / (n : Int) := Int.le_ediv_of_mul_le (by omega) (by omega)
    omega
  · have e : (n : Int).toNat = n := rfl
    rw [e]
    show decide (z.length * n > _) = false
    exact decide_eq_false (by
      have k : (900000 : Nat) ≤ sizeLine := by decide
      exact Nat.not_lt.mpr (Nat.le_trans zn k))
  · have e1 : ((n : Int) == 1 || z.length == 0) = false := by
      rw [show ((n : Int) == 1) = false by simpa using (show ¬ (n : Int) = 1 by omega), show (z.length == 0) = false by simpa using (show ¬ z.length = 0 by omega)]
      rfl
    rw [if_neg (show ¬ (n : Int) < 1 by omega), e1, if_neg (by decide)]
    exact ⟨zl, .str _, H, I.tok _, ⟨_, rfl⟩, q⟩
end L2
namespace Hx
open PySem PySem.Spec PyProof.Rows L2 He
/-! ### written tuples; the code object and the table of one def -/
def tupB (x : Str) (vs : List V) (K : PySem.W.Frag) : Bool := eqO (PySem.W.nsIn K mainGlobals x) (some (some (.ref (ga K x)))) && (match K.lookup (ga K x) with
  | some ⟨.type t, _, .seq its _, _⟩ => decide (t = "tuple") && (decide (its.size ≤ 1000) && relAll vs its.toList)
  | _ => false)
theorem tupB_ok {x : Str} {vs : List V} {K : PySem.W.Frag} {h : Heap} {mg : Str → Option Value} (X : K.In h) (G : h.Ns mainGlobals mg) (b : tupB x vs K = true) : (∃ u, mg x = some u ∧ RelV (.ref (ga K x)) u) ∧ ∀ H, SqT K H (ga K x) vs := by
  obtain ⟨b1, b2⟩ := ba (show (eqO (PySem.W.nsIn K mainGlobals x) (some (some (.ref (ga K x)))) && _) = true from b)
  refine ⟨⟨_, PySem.W.mg_of X G (eqO_ok b1), rfl⟩, fun H => ?_⟩
  split at b2
  · rename_i t dd its n sl e
    obtain ⟨c1, c2⟩ := ba b2
    obtain ⟨c2, c3⟩ := ba c2
    have e1 := of_decide_eq_true c1
    subst e1
    exact .inr ⟨_, its, n, e, rfl, rfl, Nat.le_trans (of_decide_eq_true c2) (by decide), relAll_ok c3⟩
  · cases b2
theorem intG {x : Str} {i : Int} {K : PySem.W.Frag} {h : Heap} {mg : Str → Option Value} (X : K.In h) (G : h.Ns mainGlobals mg) (c : (Fa.int x i).ok K = true) : ∃ u, mg x = some u ∧ RelV (.int i) u := by
  obtain ⟨t, e⟩ := int_ok X G c
  exact ⟨_, e, t, rfl⟩
def cAd (K : PySem.W.Frag) (p : Str × Option Str) : Addr := match K.lookup (fAd K p) with
  | some ⟨_, _, .func fdt, _⟩ => (match fdt.code with
    | .ref c => c
    | _ => 0)
  | _ => 0
def tAd (K : PySem.W.Frag) (p : Str × Option Str) : Addr := match K.lookup (cAd K p) with
  | some ⟨_, _, .fields us, _⟩ => (match (us[11]? : Option Value) with
    | some (.ref P) => P
    | _ => 0)
  | _ => 0
def refB (v : Value) (c : Addr) : Bool := match v with
  | .ref a => decide (a = c)
  | _ => false
def tabB (K : PySem.W.Frag) (p : Str × Option Str) (P : Addr) : Bool := PySem.W.codeHdIn K (cAd K p) P && ((match K.lookup (fAd K p) with
  | some ⟨_, _, .func fd, _⟩ => refB fd.code (cAd K p)
  | _ => false) && (K.lookup P).isNone)
theorem tabB_ok {K : PySem.W.Frag} {p : Str × Option Str} {P : Addr} {h : Heap} (X : K.In h) (b : tabB K p P = true) : PySem.W.CodeHd h (cAd K p) P ∧ K.lookup P = none ∧
    ∀ {x qual : Str} {params : Arguments} {body : List Stmt} {scope : Scope} {dvs : List V} {kws : List (Str × V)} {fd : FuncData}, FunD K x qual params body scope dvs kws (fAd K p) fd → fd.code = .ref (cAd K p) := by
  obtain ⟨b1, b2⟩ := ba b
  obtain ⟨b2, b3⟩ := ba b2
  refine ⟨PySem.W.codeHd_of_K X b1, Option.isNone_iff_eq_none.mp b3, fun F => ?_⟩
  obtain ⟨oc, od, dV, kV, doc, pm, an, cdv, ct, osl, e, lk, _⟩ := F.ex
  rw [lk] at b2
  have b4 : refB _ (cAd K p) = true := b2
  unfold refB at b4
  split at b4
  · rename_i a e2
    rw [e2, of_decide_eq_true b4]
  · cases b4
def isTab (o : Option Obj) : Bool := match o with
  | some ⟨.none, none, .fields vs, sl⟩ => vs.isEmpty && sl.isEmpty
  | _ => false
theorem isTab_ok {o : Option Obj} (h : isTab o = true) : o = some { cls := .none, data := .fields #[] } := by
  unfold isTab at h
  split at h
  · rename_i vs sl
    obtain ⟨h1, h2⟩ := ba h
    have e1 : vs = #[] := by simpa using h1
    have e2 : sl = #[] := by simpa using h2
    rw [e1, e2]
  · cases h
/-! ### the Hook that tells one table apart -/
abbrev AlT : Type := Bool × AlX
def obsTG (n : Nat) (p : Str × Option Str) (fa : List Fa) (fb : List (PySem.W.Frag → Bool)) (fn : List DefE) (g : Addr → Option Obj) : AlT :=
  let as := asX g n
  let P := tAd (frG g as) p
  let K := frG g (as.filter fun a => a != P)
  (isTab (g P) && tabB K p P, obsX fa fb fn K)
def SaysT (p : Str × Option Str) (fa : List Fa) (fb : List (PySem.W.Frag → Bool)) (fn : List DefE) (K : PySem.W.Frag) (P : Addr) (h : Heap) : Prop :=
  K.In h ∧ h.get? P = some { cls := .none, data := .fields #[] } ∧ tabB K p P = true ∧ SaysX fa fb fn K
def hookT (n : Nat) (p : Str × Option Str) (fa : List Fa) (fb : List (PySem.W.Frag → Bool)) (fn : List DefE) : PySem.W.Hook where
  α := AlT
  obs := fun s => obsTG n p fa fb fn s.heap.get?
  val := fun _ => (true, valX fn)
  says := fun _ h => ∃ K P, SaysT p fa fb fn K P h
  of := fun _ s e => by
    have e1 := congrArg (fun z : AlT => z.1) e
    have e2 := congrArg (fun z : AlT => z.2) e
    obtain ⟨a, b⟩ := ba (show (isTab (s.heap.get? (tAd (frG s.heap.get? (asX s.heap.get? n)) p)) && tabB (frG s.heap.get? ((asX s.heap.get? n).filter fun a => a != tAd (frG s.heap.get? (asX s.heap.get? n)) p)) p (tAd (frG s.heap.get? (asX s.heap.get? n)) p)) = true from e1)
    exact ⟨_, _, frG_in, isTab_ok a, b, e2⟩
  keeps := fun _ _ _ ⟨K, P, hK, hP, b, c⟩ k => ⟨K, P, PySem.W.Frag.In.keeps hK k, k _ _ hP, b, c⟩
theorem obsTG_eq {n : Nat} {p : Str × Option Str} {fa : List Fa} {fb : List (PySem.W.Frag → Bool)} {fn : List DefE} {g : Addr → Option Obj} {s : Shared} (h : ∀ a, g a = s.heap.get? a) : obsTG n p fa fb fn g = (hookT n p fa fb fn).obs s := by
  have e : g = s.heap.get? := funext h; rw [e] <;> rfl
end Hx
namespace Pk
open L2 PyProof.Rows PySem.Spec PySem
/-! ### the reader's numbers, terms, sums, as plain functions -/
def okNum (w : Str) : Bool := Txt.isascii w && (Txt.isdigit w && (decide (w.length ≤ 30) && !(decide (1 < w.length) && decide (w.cps.toList[0]? = some 48))))
def numM (w : Str) : Option Nat := if okNum w = true then some (NumText.digitsVal w.cps.toList) else none
theorem ascii_digit : ∀ c : Nat, c < 128 → Unicode.isDigit c = true → 48 ≤ c ∧ c ≤ 57 := by decide +kernel
theorem okNum_parts {w : Str} (h : okNum w = true) : NumText.AllDigits w.cps.toList ∧ w.cps.toList ≠ [] ∧ w.length ≤ 30 := by
  unfold okNum at h
  simp only [Bool.and_eq_true] at h; obtain ⟨h1, h2, h3, _⟩ := h
  unfold Txt.isascii at h1
  unfold Txt.isdigit at h2
  simp only [Bool.and_eq_true] at h2
  refine ⟨fun c hc => ?_, fun e => ?_, of_decide_eq_true h3⟩
  · have a1 := Array.all_eq_true_iff_forall_mem.mp h1 c (Array.mem_toList_iff.mp hc)
    have a2 := Array.all_eq_true_iff_forall_mem.mp h2.2 c (Array.mem_toList_iff.mp hc)
    exact ascii_digit c (of_decide_eq_true a1) a2
  · have q := of_decide_eq_true h2.1
    have e2 : w.length = w.cps.toList.length := by simp [Str.length]
    rw [e2, e] at q
    cases q
theorem numM_int {w : Str} {n : Nat} (h : numM w = some n) : intText? w = some (n : Int) ∧ w.length ≤ 30 := by
  unfold numM at h
  by_cases k : okNum w = true
  · rw [if_pos k] at h
    cases h
    obtain ⟨a, b, c⟩ := okNum_parts k
    exact ⟨intText_digits a b (by omega), c⟩
  · rw [if_neg k] at h
    cases h
theorem digits_lt : ∀ (l : List Nat) (a : Nat), NumText.AllDigits l → l.foldl (fun acc c => acc * 10 + (c - 48)) a < (a + 1) * 10 ^ l.length
  | [], a, _ => by simp
  | c :: l, a, h => by
    have q := digits_lt l (a * 10 + (c - 48)) h.tail
    have d := h.head
    rw [List.foldl_cons, List.length_cons]; refine Nat.lt_of_lt_of_le q ?_
    have e : (a + 1) * 10 ^ (l.length + 1) = ((a + 1) * 10) * 10 ^ l.length := by rw [Nat.pow_succ, Nat.mul_assoc, Nat.mul_comm (10 ^ l.length) 10]
    rw [e]; exact Nat.mul_le_mul_right _ (by omega)
theorem numM_lt {w : Str} {n : Nat} (h : numM w = some n) : n < 10 ^ 30 := by
  unfold numM at h
  by_cases k : okNum w = true
  · rw [if_pos k] at h
    cases h
    obtain ⟨a, b, c⟩ := okNum_parts k
    have q := digits_lt w.cps.toList 0 a
    have e2 : w.length = w.cps.toList.length := by simp [Str.length]
    rw [← e2, Nat.zero_add, Nat.one_mul] at q
    exact Nat.lt_of_lt_of_le q (Nat.pow_le_pow_right (by decide) c)
  · rw [if_neg k] at h
    cases h
def ATOMSL : List Str := ["k", "cap", "low", "left", "own", "right", "new", "more", "a", "b", "c"]
def FACTL : List Str := ["k", "cap", "low"]
abbrev Term := Int × Option Str
def termM (ws : List Str) : Option (Nat × Option Str) := match ws with
  | [w] => if w ∈ ATOMSL then some (1, some w) else (numM w).map fun n => (n, none)
  | [w, m, f] => if m = "*" ∧ f ∈ FACTL then (match numM w with
    | some n => if 2 ≤ n ∧ n ≤ 12 then some (n, some f) else none
    | none => none) else none
  | _ => none
theorem termM_lt {ws : List Str} {n : Nat} {f : Option Str} (h : termM ws = some (n, f)) : n < 10 ^ 30 := by
  unfold termM at h
  split at h
  · split at h
    · cases h
      decide
    · rename_i w _
      cases e : numM w with
      | none => (rw [e] at h; cases h)
      | some m =>
        rw [e] at h
        cases h
        exact numM_lt e
  · split at h
    · split at h
      · split at h
        · rename_i q
          cases h
          exact Nat.lt_of_le_of_lt q.2 (by decide)
        · cases h
      · cases h
    · cases h
  · cases h
theorem termM_1 (w : Str) : termM [w] = if w ∈ ATOMSL then some (1, some w) else (numM w).map fun n => (n, none) := rfl
theorem termM_3 (w m f : Str) : termM [w, m, f] = if m = "*" ∧ f ∈ FACTL then (match numM w with
    | some n => if 2 ≤ n ∧ n ≤ 12 then some (n, some f) else none
    | none => none) else none := rfl
theorem termM_x {ws : List Str} (h1 : ws.length ≠ 1) (h3 : ws.length ≠ 3) : termM ws = none := by
  rcases ws with _ | ⟨a, _ | ⟨b, _ | ⟨c, _ | ⟨d, r⟩⟩⟩⟩
  · rfl
  · exact absurd rfl h1
  · rfl
  · exact absurd rfl h3
  · rfl
def sumGo : List Str → List Term → List Str → Int → Option (List Term)
  | [], found, _, _ => some found
  | w :: ws, found, term, sign => if w = "+" ∨ w = "-" then (match termM term with
    | none => none
    | some (n, f) => sumGo ws (found ++ [(sign * n, f)]) [] (if w = "+" then 1 else -1)) else sumGo ws found (term ++ [w]) sign
def namesT (ts : List Term) : List Str := ts.filterMap (·.2)
def sumOk (ts : List Term) : Bool := decide (ts.length ≤ 4) && decide ((namesT ts).Nodup)
def sumM (ws : List Str) : Option (List Term) := match sumGo (ws ++ [("+" : Str)]) [] [] 1 with
  | none => none
  | some ts => if sumOk ts = true then some ts else none
def divM (ws : List Str) (most : Nat) : Option (List Term × Option Nat) :=
  if 2 < ws.length ∧ ws[ws.length - 2]? = some ("//" : Str) then (match sumM (ws.take (ws.length - 2)), numM (ws.getD (ws.length - 1) "") with
    | some ts, some m => if 2 ≤ m ∧ m ≤ most then some (ts, some m) else none
    | _, _ => none) else (sumM ws).map fun ts => (ts, none)
def addS (ks : List Str) (s : Str) : List Str := if s ∈ ks then ks else ks ++ [s]
theorem addS_len : ∀ (ns ks : List Str), (ns.foldl addS ks).length ≤ ks.length + ns.length ∧ ((ns.foldl addS ks).length = ks.length + ns.length ↔ (ns.Nodup ∧ ∀ s ∈ ns, s ∉ ks))
  | [], ks => by simp
  | n :: ns, ks => by
    obtain ⟨h1, h2⟩ := addS_len ns (addS ks n)
    rw [List.foldl_cons, List.length_cons]; by_cases hn : n ∈ ks
    · have e : addS ks n = ks := if_pos hn
      rw [e] at h1 h2 ⊢
      refine ⟨by omega, ⟨fun z => by omega, fun z => absurd hn (z.2 n (by simp))⟩⟩
    · have e : addS ks n = ks ++ [n] := if_neg hn
      rw [e] at h1 h2 ⊢
      rw [List.length_append, List.length_singleton] at h1 h2
      refine ⟨by omega, ?_⟩
      have a : (ns.foldl addS (ks ++ [n])).length = ks.length + (ns.length + 1) ↔ (ns.foldl addS (ks ++ [n])).length = ks.length + 1 + ns.length := by omega
      rw [a, h2, List.nodup_cons]
      constructor
      · rintro ⟨z1, z2⟩
        refine ⟨⟨fun y => z2 n y (by simp), z1⟩, fun s hs hk => ?_⟩
        rcases List.mem_cons.mp hs with y | y
        · rw [y] at hk
          exact hn hk
        · exact z2 s y (List.mem_append_left _ hk)
      · rintro ⟨⟨z1, z2⟩, z3⟩
        refine ⟨z2, fun s hs hk => ?_⟩
        rcases List.mem_append.mp hk with y | y
        · exact z3 s (List.mem_cons_of_mem _ hs) y
        · rw [List.mem_singleton.mp y] at hs
          exact z1 hs
theorem nodup_len (ns : List Str) : (ns.foldl addS []).length = ns.length ↔ ns.Nodup := by
  have q := (addS_len ns []).2
  rw [List.length_nil, Nat.zero_add] at q
  rw [q]
  exact ⟨fun z => z.1, fun z => ⟨z, fun _ _ h => by cases h⟩⟩
def kOnly (ts : List Term) : Bool := ts.all fun t => decide (t.2 = none) || decide (t.2 = some ("k" : Str))
def shareM (s : Str) : Option (List Term × Option Nat) := match divM (Txt.split s " ") 6 with
  | none => none
  | some (ts, m) => if kOnly ts = true then some (ts, m) else none
/-! ### a share as numbers -/
def slopeT (ts : List Term) : Int := (ts.filterMap fun t => if t.2 = some ("k" : Str) then some t.1 else none).sum
def constT (ts : List Term) : Int := (ts.filterMap fun t => if t.2 = none then some t.1 else none).sum
structure Line where
  s : Int
  c : Int
  d : Nat
def lineM (p : List Term × Option Nat) : Line := ⟨slopeT p.1, constT p.1, p.2.getD 1⟩
def Line.at_ (l : Line) (k : Int) : Int := (l.s * k + l.c) / (l.d : Int)
/-! ### how long the parts of a text are -/
theorem spl_few (S : List Nat) : ∀ (l : List Nat) (k : Nat) (acc : List Nat), (TL.spl S k acc l).length ≤ l.length + 1 ∧ ∀ p ∈ TL.spl S k acc l, p.length ≤ acc.length + l.length
  | [], k, acc => by
    rw [TL.spl_nil]
    exact ⟨Nat.le_refl _, fun p hp => by rw [List.mem_singleton.mp hp]; exact Nat.le_refl _⟩
  | c :: r, 0, acc => by
    by_cases h : TL.pre S (c :: r) = true
    · rw [TL.spl_hit h]
      obtain ⟨h1, h2⟩ := spl_few S r (S.length - 1) []
      refine ⟨Nat.succ_le_succ h1, fun p hp => ?_⟩; rcases List.mem_cons.mp hp with e | e
      · rw [e]
        exact Nat.le_add_right _ _
      · have q := h2 p e
        rw [List.length_nil, Nat.zero_add] at q
        rw [List.length_cons]
        omega
    · rw [TL.spl_miss (by simpa using h)]
      obtain ⟨h1, h2⟩ := spl_few S r 0 (acc ++ [c])
      refine ⟨Nat.le_succ_of_le h1, fun p hp => ?_⟩
      have q := h2 p hp
      rw [List.length_append, List.length_singleton] at q
      rw [List.length_cons]
      omega
  | c :: r, k + 1, acc => by
    obtain ⟨h1, h2⟩ := spl_few S r k acc
    refine ⟨Nat.le_succ_of_le h1, fun p hp => ?_⟩
    have q := h2 p hp
    rw [List.length_cons]
    omega
theorem split_few (s : Str) : (Txt.split s " ").length ≤ s.length + 1 ∧ ∀ w ∈ Txt.split s " ", w.length ≤ s.length := by
  have e := TL.split_spl s " " (by decide) (TL.kind_ok (by decide +kernel))
  obtain ⟨h1, h2⟩ := spl_few (TL.tl " ") (TL.tl s) 0 []
  rw [← e] at h1 h2
  rw [List.length_map] at h1
  rw [TL.len_tl s]
  refine ⟨h1, fun w hw => ?_⟩
  have q := h2 (TL.tl w) (List.mem_map_of_mem hw)
  rw [List.length_nil, Nat.zero_add] at q
  rw [TL.len_tl w]
  exact q
end Pk
namespace Pk
open L2 PyProof.Rows PySem.Spec PySem
/-! ### shares written from numbers are read back -/
inductive It where
  | num (n : Nat)
  | fac (f : Nat)
def numS (n : Nat) : Str := Str.ofString (toString (n : Int))
def itW : It → List Str
  | .num n => [numS n]
  | .fac f => if f ≤ 1 then ["k"] else [numS f, "*", "k"]
def itT : It → Nat × Option Str
  | .num n => (n, none)
  | .fac f => (f, some "k")
def itOk : It → Bool
  | .num n => decide (n < 12)
  | .fac f => decide (1 ≤ f) && decide (f ≤ 12)
theorem num_small : ∀ n, n < 13 → numM (numS n) = some n ∧ ¬ numS n ∈ ATOMSL ∧ numS n ≠ "+" ∧ numS n ≠ "-" ∧ numS n ≠ "//" ∧ ¬ 32 ∈ (numS n).cps.toList := by decide +kernel
theorem it_term {i : It} (h : itOk i = true) : termM (itW i) = some (itT i) := by
  cases i with
  | num n =>
    have h' : n < 12 := of_decide_eq_true h
    obtain ⟨a, b, _⟩ := num_small n (by omega)
    show termM [numS n] = _
    rw [termM_1, if_neg b, a]
    rfl
  | fac f =>
    obtain ⟨h1, h2⟩ := Bool.and_eq_true_iff.mp (show (decide (1 ≤ f) && decide (f ≤ 12)) = true from h)
    have h1 := of_decide_eq_true h1
    have h2 := of_decide_eq_true h2
    obtain ⟨a, b, _⟩ := num_small f (by omega)
    by_cases hf : f ≤ 1
    · have e : f = 1 := by omega
      subst e
      decide +kernel
    · show termM (if f ≤ 1 then ["k"] else [numS f, "*", "k"]) = _
      rw [if_neg hf, termM_3, a, if_pos ⟨rfl, by decide +kernel⟩]
      show (if 2 ≤ f ∧ f ≤ 12 then some (f, some ("k" : Str)) else none) = _
      rw [if_pos ⟨by omega, h2⟩]
      rfl
theorem it_plain {i : It} (h : itOk i = true) : ∀ w ∈ itW i, w ≠ "+" ∧ w ≠ "-" ∧ w ≠ "//" ∧ ¬ 32 ∈ w.cps.toList := by
  have k : ("k" : Str) ≠ "+" ∧ ("k" : Str) ≠ "-" ∧ ("k" : Str) ≠ "//" ∧ ¬ 32 ∈ ("k" : Str).cps.toList := by decide +kernel
  have s : ("*" : Str) ≠ "+" ∧ ("*" : Str) ≠ "-" ∧ ("*" : Str) ≠ "//" ∧ ¬ 32 ∈ ("*" : Str).cps.toList := by decide +kernel
  intro w hw
  cases i with
  | num n =>
    have h' : n < 12 := of_decide_eq_true h
    obtain ⟨_, _, q⟩ := num_small n (by omega)
    rw [List.mem_singleton.mp (show w ∈ [numS n] from hw)]
    exact q
  | fac f =>
    obtain ⟨h1, h2⟩ := Bool.and_eq_true_iff.mp (show (decide (1 ≤ f) && decide (f ≤ 12)) = true from h)
    have h2 := of_decide_eq_true h2
    obtain ⟨_, _, q⟩ := num_small f (by omega)
    by_cases hf : f ≤ 1
    · have e : itW (.fac f) = [("k" : Str)] := if_pos hf
      rw [e] at hw
      rw [List.mem_singleton.mp hw]
      exact k
    · have e : itW (.fac f) = [numS f, ("*" : Str), ("k" : Str)] := if_neg hf
      rw [e] at hw
      simp only [List.mem_cons, List.not_mem_nil, or_false] at hw
      rcases hw with e | e | e <;> rw [e]
      · exact q
      · exact s
      · exact k
theorem sumGo_take : ∀ (us : List Str) (W : List Str) (found : List Term) (term : List Str) (sign : Int), (∀ w ∈ us, w ≠ "+" ∧ w ≠ "-") → sumGo (us ++ W) found term sign = sumGo W found (term ++ us) sign
  | [], W, found, term, sign, _ => by rw [List.nil_append, List.append_nil]
  | u :: us, W, found, term, sign, h => by
    obtain ⟨a, b⟩ := h u (by simp)
    rw [List.cons_append, sumGo, if_neg (fun z => z.elim a b), sumGo_take us W found (term ++ [u]) sign fun w hw => h w (List.mem_cons_of_mem _ hw), List.append_assoc]
    rfl
theorem sumGo_it {i : It} (h : itOk i = true) {sw : Str} (hs : sw = "+" ∨ sw = "-") (W : List Str) (found : List Term) (sign : Int) : sumGo (itW i ++ (sw :: W)) found [] sign = sumGo W (found ++ [(sign * ((itT i).1 : Nat), (itT i).2)]) [] (if sw = "+" then 1 else -1) := by
  rw [sumGo_take _ _ _ _ _ fun w hw => ⟨(it_plain h w hw).1, (it_plain h w hw).2.1⟩, List.nil_append, sumGo, if_pos hs, it_term h]
/-- sign words: false +, true - -/
def sgW (s : Bool) : Str := if s then "-" else "+"
def sgZ (s : Bool) : Int := if s then -1 else 1
def restW : List (Bool × It) → List Str
  | [] => []
  | p :: r => sgW p.1 :: (itW p.2 ++ restW r)
def termsOf (s : Bool) (i : It) : List (Bool × It) → List Term
  | [] => [(sgZ s * ((itT i).1 : Nat), (itT i).2)]
  | p :: r => (sgZ s * ((itT i).1 : Nat), (itT i).2) :: termsOf p.1 p.2 r
theorem sgW_ok (s : Bool) : (sgW s = "+" ∨ sgW s = "-") ∧ (if sgW s = "+" then (1 : Int) else -1) = sgZ s := by
  cases s <;> decide +kernel
theorem sumGo_all : ∀ (r : List (Bool × It)) (s : Bool) (i : It) (found : List Term), itOk i = true → (∀ p ∈ r, itOk p.2 = true) → sumGo (itW i ++ restW r ++ [("+" : Str)]) found [] (sgZ s) = some (found ++ termsOf s i r)
  | [], s, i, found, h, _ => by
    rw [restW, List.append_nil, sumGo_it h (.inl rfl), sumGo]
    rfl
  | p :: r, s, i, found, h, hr => by
    obtain ⟨a, b⟩ := sgW_ok p.1
    have e : itW i ++ restW (p :: r) ++ [("+" : Str)] = itW i ++ (sgW p.1 :: (itW p.2 ++ restW r ++ [("+" : Str)])) := by
      rw [restW, List.append_assoc]
      rfl
    rw [e, sumGo_it h a, b, sumGo_all r p.1 p.2 _ (hr p (by simp)) fun q hq => hr q (List.mem_cons_of_mem _ hq), List.append_assoc]
    rfl
theorem sumM_all {r : List (Bool × It)} {i : It} (h : itOk i = true) (hr : ∀ p ∈ r, itOk p.2 = true) (ok : sumOk (termsOf false i r) = true) : sumM (itW i ++ restW r) = some (termsOf false i r) := by
  unfold sumM
  have q := sumGo_all r false i [] h hr
  rw [show sgZ false = 1 from rfl, List.nil_append] at q
  rw [q]
  exact if_pos ok
end Pk
namespace Pk
open L2 PyProof.Rows PySem.Spec PySem
def top (i : Nat) : Stmt := PySem.Challenge.pw_pagecode_k40_whole_rules_in_use.main.body.getD i (.Pass ⟨0, 0, 0, 0⟩)
abbrev sBag : Stmt := top 28
abbrev sDraw : Stmt := top 29
/-! ### the bag -/
def bagD (c : Addr) (i : Nat) (dg n f : Int) : List (Key × V) := [(.inr "cells", .ref c), (.inr "at", .int i), (.inr "digits", .int dg), (.inr "count", .int n), (.inr "fold", .int f)]
theorem bag_cells {c i dg n f} : valV (bagD c i dg n f) (.inr "cells") = some (.ref c) := by rfl
theorem bag_at {c i dg n f} : valV (bagD c i dg n f) (.inr "at") = some (.int (i : Nat)) := by rfl
theorem bag_digits {c i dg n f} : valV (bagD c i dg n f) (.inr "digits") = some (.int dg) := by rfl
theorem bag_count {c i dg n f} : valV (bagD c i dg n f) (.inr "count") = some (.int n) := by rfl
theorem bag_fold {c i dg n f} : valV (bagD c i dg n f) (.inr "fold") = some (.int f) := by rfl
theorem bag_put_at {c i dg n f} : putK (bagD c i dg n f) (.inr "at") (.int (i + 1)) = bagD c (i + 1) dg n f := by rfl
theorem bag_put_digits {c i dg n f} {z : Int} : putK (bagD c i dg n f) (.inr "digits") (.int z) = bagD c i z n f := by rfl
theorem bag_put_count {c i dg n f} {z : Int} : putK (bagD c i dg n f) (.inr "count") (.int z) = bagD c i dg z f := by rfl
theorem bag_put_fold {c i dg n f} {z : Int} : putK (bagD c i dg n f) (.inr "fold") (.int z) = bagD c i dg n z := by rfl
end Pk
namespace Pk
open L2 PyProof.Rows PySem.Spec PySem
def BagO (c : Addr) (m : Nat) (n : Int) (o : HO) : Prop := ∃ i dg f, o = .dK (bagD c i dg n f) ∧ i ≤ m ∧ 0 ≤ dg ∧ 0 ≤ f ∧ f < 2147483648 ∧ 0 ≤ n
theorem dgS {H : Hp} {a : Addr} {kvs : List (Key × V)} {x : Str} {r : Option V} (e : H a = some (.dK kvs)) (h : valV kvs (.inr x) = r) : DGet H a (.str x) r := .inl ⟨kvs, .inr x, .inl e, rfl, h.symm⟩
theorem bag_len {c i dg n f} : (bagD c i dg n f).length < sizeLine := by show 5 < sizeLine; decide
def spDraw : Sp := fun vs H Q _ => ∃ (b c : Addr) (ns : List Int) (lim n : Int) (o : HO), vs = [.ref b, .int lim] ∧ 1 ≤ lim ∧ lim ≤ 10 ^ 50 ∧ H b = some o ∧ BagO c ns.length n o ∧ n ≤ 1000000 ∧ H c = some (.lst (ns.map V.int)) ∧
  ∀ (r : Int) (o' : HO), 0 ≤ r → r < lim → BagO c ns.length (n + 1) o' → Q (.int r) (upd H b o')
def spBag (K : PySem.W.Frag) : Sp := fun vs H Q _ => ∃ (a : Addr) (ns : List Int), vs = [.ref a] ∧ SqL K H a (ns.map V.int) ∧ ns.length ≤ 63 ∧
  ∀ (b c : Addr) (o : HO), H b = none → H c = none → c ≠ b → BagO c ns.length 0 o → Q (.ref b) (upd (upd (upd H b (.dK [])) c (.lst (ns.map V.int))) b o)
section
variable {K : PySem.W.Frag} {P : Program} {w : World} {base : Heap} {mg : Str → Option Value}
theorem sc_law_draw : FnScope ["_law_bag_here", "_law_limit", "_law_cell", "_law_digit", "_law_base"] ["_law_bag_here", "_law_limit"] (defScope sDraw) := ⟨rfl, rfl, rfl, by decide +kernel, rfl, by decide +kernel, by decide +kernel⟩
theorem ok_draw {f : Addr} {fd : FuncData} (F : FunD K "_law_draw" "_law_draw" (defArgs sDraw) (defBody sDraw) (defScope sDraw) [] [] f fd) (mInt : mg "int" = none) (mLen : mg "len" = none) : FnOk P w K mg base CX0 1 f fd ["_law_bag_here", "_law_limit"] spDraw := by
  refine F.ok sc_law_draw (fun vs H Q E h => ?_) (fun cdv A outer s H vs Q E hr h => ?_)
  · obtain ⟨b, c, ns, lim, n, o, rfl, _⟩ := h
    rfl
  · obtain ⟨b, c, ns, lim, n, o, rfl, l1, l2, hb, ⟨i, dg, f0, rfl, hi, hdg, hf1, hf2, hn0⟩, hn, hc, k⟩ := h
    have hu := hu_of hr
    refine ⟨_, PSs.nox (pss_cons (by exact (ps_dput hu (pv 0) pe_str (pe_op op_add (pe_dget hu (pv 0) pe_str (fun _ _ => rfl)) pe_int) rfl)) (C8.pss_cut (by exact (ps_if (PW.pt (pw_and (pt_cmpR op_eq (pe_dget hu (pv 0) pe_str (fun _ _ => rfl)) pe_int (nomark _)) (pw_and1 (pt_cmpR op_lt (pe_dget hu (pv 0) pe_str (fun _ _ => rfl)) (pe_callB call_len_seq (by rfl) mLen PySem.boot_len (pa_cons (pe_dget hu (pv 0) pe_str (fun _ _ => rfl)) pa_nil)) (nomark _))))) (pss_cons (by exact (ps_set (i := 2) sc_law_draw.nd rfl (Or.inl rfl) (pe_ix (ix_listK K rfl) (pe_dget hu (pv 0) pe_str (fun _ _ => rfl)) (pe_dget hu (pv 0) pe_str (fun _ _ => rfl)) (fun _ _ => rfl)))) (pss_cons (by exact (ps_dput hu (pv 0) pe_str (pe_op op_add (pe_dget hu (pv 0) pe_str (fun _ _ => rfl)) pe_int) rfl)) (pss_one (by exact (ps_if (pt_cmpR op_ge (pv 2) (pe_op op_pow pe_int pe_int) (nomark _)) (pss_one (by exact (ps_dput hu (pv 0) pe_str (pe_op op_sub (pv 2) (pe_op op_pow pe_int pe_int)) rfl))) (pss_one (by exact (ps_dput hu (pv 0) pe_str (pe_op op_mod (pe_callTy call_int1 (by rfl) mInt (by decide +kernel) (pa_cons (pe_op op_add (pe_op op_mul (pe_dget hu (pv 0) pe_str (fun _ _ => rfl)) pe_int) (pv 2)) pa_nil)) pe_int) rfl)))))))) pss_nil)) (pss_cons (by exact (ps_if (pt_cmpR op_gt (pe_dget hu (pv 0) pe_str (fun _ _ => rfl)) pe_int (nomark _)) (pss_cons (by exact (ps_set (i := 3) sc_law_draw.nd rfl (Or.inl rfl) (pe_op op_mod (pe_callTy call_int1 (by rfl) mInt (by decide +kernel) (pa_cons (pe_dget hu (pv 0) pe_str (fun _ _ => rfl)) pa_nil)) (pv 1)))) (pss_cons (by exact (ps_dput hu (pv 0) pe_str (pe_op op_fdivW (pe_dget hu (pv 0) pe_str (fun _ _ => rfl)) (pv 1)) rfl)) (pss_one (by exact (ps_ret (pv 3)))))) pss_nil)) (pss_cons (by exact (ps_set (i := 4) sc_law_draw.nd rfl (Or.inl rfl) (pe_op op_add (pe_op op_add (pe_dget hu (pv 0) pe_str (fun _ _ => rfl)) (pe_op op_mul (pe_dget hu (pv 0) pe_str (fun _ _ => rfl)) pe_int)) pe_int))) (pss_one (by exact (ps_ret (pe_op op_mod (pe_op op_fdivW (pe_callTy call_int1 (by rfl) mInt (by decide +kernel) (pa_cons (pe_op op_mod (pe_op op_pow (pv 4) pe_int) pe_int) pa_nil)) pe_int) (pv 1))))))))), ?_⟩
    -- count
    refine ⟨_, rfl, _, _, rfl, dgS hb bag_count, _, _, rfl, rfl, _, rfl, b, _, rfl, DPut.k (k := .inr "count") hb bag_len, ?_⟩
    rw [bag_put_count]
    have ncb : c ≠ b := ne_of hc hb (by intro z; cases z)
    have hc1 : ∀ o, upd H b o c = some (.lst (ns.map V.int)) := fun o => by rw [upd_ne ncb]; exact hc
    -- the if: some bag stands behind it
    refine ⟨fun σ H1 => ∃ (i : Nat) (dg f0 : Int) (v : Option V), σ = [some (.ref b), some (.int lim), v, none, none] ∧ H1 = upd H b (.dK (bagD c i dg (n + 1) f0)) ∧ i ≤ ns.length ∧ 0 ≤ dg ∧ 0 ≤ f0 ∧ f0 < 2147483648, ?_, ?_⟩
    · refine ⟨_, rfl, _, _, rfl, dgS upd_same bag_digits, rfl, _, rfl, ?_⟩
      refine ite2 (fun hz => ?_) (fun _ => ⟨i, dg, f0, _, rfl, rfl, hi, hdg, hf1, hf2⟩)
      refine ⟨_, rfl, _, _, rfl, dgS upd_same bag_at, _, rfl, _, _, rfl, dgS upd_same bag_cells, c, _, rfl, .inl (SqL.of (hc1 _)), _, _, rfl, rfl, _, rfl, ?_⟩
      refine ite2 (fun hlt => ?_) (fun _ => ⟨i, dg, f0, _, rfl, rfl, hi, hdg, hf1, hf2⟩)
      have hil : i < ns.length := by
        have z := of_decide_eq_true hlt
        rw [List.length_map] at z
        omega
      -- cell
      refine ⟨_, rfl, _, _, rfl, dgS upd_same bag_cells, _, rfl, _, _, rfl, dgS upd_same bag_at, c, _, _, .int (ns[i]), rfl, rfl, SqL.of (hc1 _), atI_nat (by simp [hil]), ?_⟩
      -- at
      refine ⟨_, rfl, _, _, rfl, dgS upd_same bag_at, _, _, rfl, rfl, _, rfl, b, _, rfl, DPut.k (k := .inr "at") upd_same bag_len, ?_⟩
      rw [upd_upd, bag_put_at]
      refine ⟨_, rfl, _, _, rfl, rfl, ⟨by decide, by decide, by decide⟩, _, _, rfl, rfl, _, rfl, ?_⟩
      refine ite2 (fun hge => ?_) (fun _ => ?_)
      · have hge' := of_decide_eq_true hge
        refine ⟨_, rfl, _, _, rfl, rfl, ⟨by decide, by decide, by decide⟩, _, _, rfl, rfl, _, rfl, b, _, rfl, DPut.k (k := .inr "digits") upd_same bag_len, ?_⟩
        rw [upd_upd, bag_put_digits]
        exact ⟨i + 1, _, f0, _, rfl, rfl, hil, by omega, hf1, hf2⟩
      · refine ⟨_, rfl, _, _, rfl, dgS upd_same bag_fold, _, _, rfl, rfl, .inr ⟨by decide, by decide⟩, _, rfl, _, _, rfl, rfl, .inl ⟨_, rfl, _, _, rfl, rfl, (by show (0 : Int) < 2147483587; decide), _, rfl, b, _, rfl, DPut.k (k := .inr "fold") upd_same bag_len, ?_⟩⟩
        rw [upd_upd, bag_put_fold]
        exact ⟨i + 1, dg, _, _, rfl, rfl, hil, hdg, Int.emod_nonneg _ (by decide), Int.lt_trans (Int.emod_lt_of_pos _ (by decide)) (by decide)⟩
    · rintro σ H1 ⟨i, dg, f0, v, rfl, rfl, hi, hdg, hf1, hf2⟩
      refine ⟨_, rfl, _, _, rfl, dgS upd_same bag_digits, _, _, rfl, rfl, _, rfl, ?_⟩
      refine ite2 (fun hz => ?_) (fun _ => ?_)
      · refine ⟨_, rfl, _, _, rfl, dgS upd_same bag_digits, .inl ⟨_, rfl, _, rfl, _, _, rfl, rfl, (by omega), ?_⟩⟩
        refine ⟨_, rfl, _, _, rfl, dgS upd_same bag_digits, _, rfl, _, _, rfl, rfl, wide_div (b := 200) (by omega) ?_ (by decide) (by decide), _, rfl, b, _, rfl, DPut.k (k := .inr "digits") upd_same bag_len, ?_⟩
        · have : (10 : Int) ^ 50 < 2 ^ 200 := by decide
          omega
        · rw [upd_upd, bag_put_digits]
          refine ⟨_, rfl, k _ _ (Int.emod_nonneg _ (by omega)) (Int.emod_lt_of_pos _ (by omega)) ⟨i, _, f0, rfl, hi, Int.ediv_nonneg hdg (by omega), hf1, hf2, by omega⟩⟩
      · refine ⟨_, rfl, _, _, rfl, dgS upd_same bag_fold, _, rfl, _, _, rfl, dgS upd_same bag_count, _, _, rfl, rfl, .inr ⟨by decide, by decide⟩, _, _, rfl, rfl, _, _, rfl, rfl, ?_⟩
        refine ⟨_, rfl, _, _, rfl, rfl, ⟨by decide, by decide, ?_⟩, _, _, rfl, rfl, (by show (0 : Int) < 2305843009213693951; decide), .inl ⟨_, rfl, _, _, rfl, rfl, wide_div (b := 10) (by decide) (by decide) (by decide) (by decide), _, rfl, _, _, rfl, rfl, (by omega), ?_⟩⟩
        · have h1 : (n + 1) * 7907 ≤ 1000001 * 7907 := by omega
          have h2 : 0 ≤ (n + 1) * 7907 := by omega
          omega
        · exact k _ _ (Int.emod_nonneg _ (by omega)) (Int.emod_lt_of_pos _ (by omega)) ⟨i, dg, f0, rfl, hi, hdg, hf1, hf2, by omega⟩
end
end Pk
namespace Pk
open L2 PyProof.Rows PySem.Spec PySem
theorem int_item {ns : List Int} {i : Nat} {y : V} (h : (ns.map V.int)[i]? = some y) : ∃ z, ns[i]? = some z ∧ y = .int z := by
  rw [List.getElem?_map] at h
  cases e : ns[i]? with
  | none => (rw [e] at h; cases h)
  | some z => rw [e] at h; exact ⟨z, rfl, (Option.some.inj h).symm⟩
section
variable {K : PySem.W.Frag} {P : Program} {w : World} {base : Heap} {mg : Str → Option Value}
theorem sc_law_bag : FnScope ["_law_script", "_law_fold", "_law_cell"] ["_law_script"] (defScope sBag) := ⟨rfl, rfl, rfl, by decide +kernel, rfl, by decide +kernel, by decide +kernel⟩
theorem ok_bag {f : Addr} {fd : FuncData} (F : FunD K "_law_bag" "_law_bag" (defArgs sBag) (defBody sBag) (defScope sBag) [] [] f fd) (mInt : mg "int" = none) (mList : mg "list" = none) : FnOk P w K mg base CX0 1 f fd ["_law_script"] (spBag K) := by
  refine F.ok sc_law_bag (fun vs H Q E h => ?_) (fun cdv A outer s H vs Q E hr h => ?_)
  · obtain ⟨a, ns, rfl, _⟩ := h
    rfl
  · obtain ⟨a, ns, rfl, hS, hl, k⟩ := h
    have hu := hu_of hr
    refine ⟨_, PSs.nox (pss_cons (by exact (ps_set (i := 1) sc_law_bag.nd rfl (Or.inl rfl) pe_int)) (pss_cons (by exact (ps_for PassesOwn.never rfl (pi_list (pv 0)) (pg_name (i := 2) sc_law_bag.nd rfl (Or.inl rfl)) (pss_one (by exact (ps_set (i := 1) sc_law_bag.nd rfl (Or.inl rfl) (pe_op op_mod (pe_callTy call_int1 (by rfl) mInt (by decide +kernel) (pa_cons (pe_op op_add (pe_op op_mul (pv 1) pe_int) (pv 2)) pa_nil)) pe_int)))))) (pss_one (by exact (ps_ret (pe_disp (pps_cons pe_str (pe_callTy call_list_of (by rfl) mList (by decide +kernel) (pa_cons (pv 0) pa_nil)) (pps_cons pe_str pe_int (pps_cons pe_str pe_int (pps_cons pe_str pe_int (pps_cons pe_str (pv 1) pps_nil))))) (by rfl) (by rfl) (fun z => by cases z) (by decide))))))), ?_⟩
    refine ⟨_, rfl, a, rfl, ⟨_, hS⟩, for_list (K := K) (a := a) (xs := ns.map V.int) (fun i σ H' => ∃ (f : Int) (v : Option V), σ = [some (.ref a), some (.int f), v] ∧ H' = H ∧ 0 ≤ f ∧ f < 2147483648)
      ⟨0, none, rfl, rfl, by decide, by decide⟩ (fun i σ H' _ ⟨_, _, _, e, _⟩ => by rw [e]; exact hS) ?_ ?_⟩
    · rintro i y σ H' hi ⟨f, v, rfl, rfl, h1, h2⟩
      obtain ⟨z, hz, rfl⟩ := int_item hi
      refine ⟨_, rfl, _, _, rfl, rfl, .inr ⟨by decide, by decide⟩, _, rfl, _, _, rfl, rfl, .inl ⟨_, rfl, _, _, rfl, rfl, (by show (0 : Int) < 1000000009; decide), ?_⟩⟩
      exact ⟨_, _, rfl, rfl, Int.emod_nonneg _ (by decide), Int.lt_trans (Int.emod_lt_of_pos _ (by decide)) (by decide)⟩
    · rintro σ H' ⟨f, v, rfl, rfl, h1, h2⟩
      intro b hb
      refine ⟨_, rfl, a, _, rfl, .inl ((same_new hb).seq hS), fun c hc => ⟨_, rfl, ?_⟩⟩
      have hcb : c ≠ b := fun z => by rw [z, upd_same] at hc; cases hc
      have hc' : H' c = none := by rw [upd_ne hcb] at hc; exact hc
      refine ⟨by rw [upd_ne (Ne.symm hcb)]; exact upd_same, bagD c 0 0 0 f, rfl, by show 5 ≤ 15; decide, ?_⟩
      have e : mergeK [] (bagD c 0 0 0 f) = bagD c 0 0 0 f := by rfl
      rw [e]
      exact k b c _ hb hc' hcb ⟨0, 0, f, rfl, Nat.zero_le _, by decide, h1, h2, by decide⟩
end
end Pk
namespace Pk
open L2 PyProof.Rows PySem.Spec PySem
abbrev progOf : Program := PySem.Challenge.pw_pagecode_k40_whole_rules_in_use
section
variable {K : PySem.W.Frag} {P : Program} {w : World} {base : Heap} {mg : Str → Option Value}
abbrev sIBadStyle : Stmt := inClass (top 3) 0
theorem scIBadStyle : FnScopeS ["self", "style"] ["self", "style"] (defScope sIBadStyle) := ⟨rfl, rfl, rfl, by decide +kernel, rfl, by decide +kernel, by decide +kernel, by decide +kernel, rfl, rfl⟩
theorem bIBadStyle {C fI : Addr} {fd : FuncData} (I : Hx.InitF P K mg "BadStyle" "BadStyle.__init__" sIBadStyle ["style"] C fI fd) : Binds K fd ["self", "style"] [] := by
  obtain ⟨oc, od, osl, kV, doc, pm, an, cda, ct, cc, rfl, lk, hcd, T⟩ := I.fn
  exact .all fun us hl => match us, hl with | [_, _], _ => rfl
theorem okIBadStyle {C fI : Addr} {fd : FuncData} (I : Hx.InitF P K mg "BadStyle" "BadStyle.__init__" sIBadStyle ["style"] C fI fd) (mS : mg "super" = none) (hP : P.main.scope = (progOf).main.scope) : FnOk P w K mg base CX0 1 fI fd ["self", "style"] (spSup1 C "style") := by
  obtain ⟨oc, od, osl, kV, doc, pm, an, cda, ct, cc, rfl, lk, hcd, T⟩ := I.fn
  refine fn_sup (ps := ["self", "style"]) (N := ["self", "style"]) (sp := spSup1 C "style") (CX := CX0) (k := 0) lk hcd scIBadStyle T mS rfl rfl rfl (by rw [hP]; rfl) (by intro _ _ _ _; rfl) ?_ ?_
  · rintro vs H Q E ⟨a, v, rfl, _⟩
    rfl
  · rintro A outer s H vs Q E hr ⟨a, v, rfl, ha, q⟩
    exact ⟨a, [v], _, rfl, ha, pss_one (ps_ost (pv 0) (pv 1)), ⟨_, rfl, _, rfl, a, C, rfl, I.sup.oex, I.no _ (by decide +kernel), .inl ⟨ha, fun d hd hda => q d hd hda⟩⟩⟩
abbrev sIBadSum : Stmt := inClass (top 4) 0
theorem scIBadSum : FnScopeS ["self", "text"] ["self", "text"] (defScope sIBadSum) := ⟨rfl, rfl, rfl, by decide +kernel, rfl, by decide +kernel, by decide +kernel, by decide +kernel, rfl, rfl⟩
theorem bIBadSum {C fI : Addr} {fd : FuncData} (I : Hx.InitF P K mg "BadSum" "BadSum.__init__" sIBadSum ["text"] C fI fd) : Binds K fd ["self", "text"] [] := by
  obtain ⟨oc, od, osl, kV, doc, pm, an, cda, ct, cc, rfl, lk, hcd, T⟩ := I.fn
  exact .all fun us hl => match us, hl with | [_, _], _ => rfl
theorem okIBadSum {C fI : Addr} {fd : FuncData} (I : Hx.InitF P K mg "BadSum" "BadSum.__init__" sIBadSum ["text"] C fI fd) (mS : mg "super" = none) (hP : P.main.scope = (progOf).main.scope) : FnOk P w K mg base CX0 1 fI fd ["self", "text"] (spSup1 C "text") := by
  obtain ⟨oc, od, osl, kV, doc, pm, an, cda, ct, cc, rfl, lk, hcd, T⟩ := I.fn
  refine fn_sup (ps := ["self", "text"]) (N := ["self", "text"]) (sp := spSup1 C "text") (CX := CX0) (k := 0) lk hcd scIBadSum T mS rfl rfl rfl (by rw [hP]; rfl) (by intro _ _ _ _; rfl) ?_ ?_
  · rintro vs H Q E ⟨a, v, rfl, _⟩
    rfl
  · rintro A outer s H vs Q E hr ⟨a, v, rfl, ha, q⟩
    exact ⟨a, [v], _, rfl, ha, pss_one (ps_ost (pv 0) (pv 1)), ⟨_, rfl, _, rfl, a, C, rfl, I.sup.oex, I.no _ (by decide +kernel), .inl ⟨ha, fun d hd hda => q d hd hda⟩⟩⟩
abbrev sIBadCapacity : Stmt := inClass (top 5) 0
theorem scIBadCapacity : FnScopeS ["self", "k"] ["self", "k"] (defScope sIBadCapacity) := ⟨rfl, rfl, rfl, by decide +kernel, rfl, by decide +kernel, by decide +kernel, by decide +kernel, rfl, rfl⟩
theorem bIBadCapacity {C fI : Addr} {fd : FuncData} (I : Hx.InitF P K mg "BadCapacity" "BadCapacity.__init__" sIBadCapacity ["k"] C fI fd) : Binds K fd ["self", "k"] [] := by
  obtain ⟨oc, od, osl, kV, doc, pm, an, cda, ct, cc, rfl, lk, hcd, T⟩ := I.fn
  exact .all fun us hl => match us, hl with | [_, _], _ => rfl
theorem okIBadCapacity {C fI : Addr} {fd : FuncData} (I : Hx.InitF P K mg "BadCapacity" "BadCapacity.__init__" sIBadCapacity ["k"] C fI fd) (mS : mg "super" = none) (hP : P.main.scope = (progOf).main.scope) : FnOk P w K mg base CX0 1 fI fd ["self", "k"] (spSup1 C "k") := by
  obtain ⟨oc, od, osl, kV, doc, pm, an, cda, ct, cc, rfl, lk, hcd, T⟩ := I.fn
  refine fn_sup (ps := ["self", "k"]) (N := ["self", "k"]) (sp := spSup1 C "k") (CX := CX0) (k := 0) lk hcd scIBadCapacity T mS rfl rfl rfl (by rw [hP]; rfl) (by intro _ _ _ _; rfl) ?_ ?_
  · rintro vs H Q E ⟨a, v, rfl, _⟩
    rfl
  · rintro A outer s H vs Q E hr ⟨a, v, rfl, ha, q⟩
    exact ⟨a, [v], _, rfl, ha, pss_one (ps_ost (pv 0) (pv 1)), ⟨_, rfl, _, rfl, a, C, rfl, I.sup.oex, I.no _ (by decide +kernel), .inl ⟨ha, fun d hd hda => q d hd hda⟩⟩⟩
end
structure Errs (P : Program) (K : PySem.W.Frag) (mg : Str → Option Value) : Prop where
  iBadStyle : ∃ fd, Hx.InitF P K mg "BadStyle" "BadStyle.__init__" sIBadStyle ["style"] (He.ga K "BadStyle") (He.ma K (He.ga K "BadStyle") "__init__") fd
  iBadSum : ∃ fd, Hx.InitF P K mg "BadSum" "BadSum.__init__" sIBadSum ["text"] (He.ga K "BadSum") (He.ma K (He.ga K "BadSum") "__init__") fd
  iBadCapacity : ∃ fd, Hx.InitF P K mg "BadCapacity" "BadCapacity.__init__" sIBadCapacity ["k"] (He.ga K "BadCapacity") (He.ma K (He.ga K "BadCapacity") "__init__") fd
  mS : mg "super" = none
  hP : P.main.scope = (progOf).main.scope
section
variable {P : Program} {K : PySem.W.Frag} {mg : Str → Option Value}
theorem Errs.gBadStyle (ER : Errs P K mg) : mg "BadStyle" = some (.ref (He.ga K "BadStyle")) := let ⟨_, I⟩ := ER.iBadStyle; I.sup.gC
theorem Errs.gBadSum (ER : Errs P K mg) : mg "BadSum" = some (.ref (He.ga K "BadSum")) := let ⟨_, I⟩ := ER.iBadSum; I.sup.gC
theorem Errs.gBadCapacity (ER : Errs P K mg) : mg "BadCapacity" = some (.ref (He.ga K "BadCapacity")) := let ⟨_, I⟩ := ER.iBadCapacity; I.sup.gC
end
end Pk
namespace Pk
open L2 PyProof.Rows PySem.Spec PySem
abbrev sNum : Stmt := top 12
abbrev sTerm : Stmt := top 13
abbrev sSumOf : Stmt := top 14
abbrev sDiv : Stmt := top 15
def natV : Option Nat → V
  | some n => .int n
  | none => .non
def nameV : Option Str → V
  | some s => .str s
  | none => .non
def spNum : Sp := fun vs H Q _ => ∃ w : Str, vs = [.str w] ∧ w.length ≤ 1000000 ∧ Q (natV (numM w)) H
theorem sign_zero {c : Nat} (h : V.str ⟨#[c]⟩ = V.str "0") : c = 48 := by
  have q := congrArg (fun z : Str => z.cps.toList) (V.str.inj h)
  have q2 : [c] = [48] := q
  exact (List.cons.inj q2).1
section
variable {K : PySem.W.Frag} {P : Program} {w : World} {base : Heap} {mg : Str → Option Value}
theorem sc_number_of : FnScope ["word"] ["word"] (defScope sNum) := ⟨rfl, rfl, rfl, by decide +kernel, rfl, by decide +kernel, by decide +kernel⟩
theorem ok_number_of {f : Addr} {fd : FuncData} (F : FunD K "number_of" "number_of" (defArgs sNum) (defBody sNum) (defScope sNum) [] [] f fd) (mLen : mg "len" = none) (mInt : mg "int" = none) (gMF : ∃ u, mg "MOST_FIGURES" = some u ∧ RelV (.int 30) u) : FnOk P w K mg base CX0 1 f fd ["word"] spNum := by
  refine F.ok sc_number_of (fun vs H Q E h => ?_) (fun cdv A outer s H vs Q E hr h => ?_)
  · obtain ⟨x, rfl, _⟩ := h
    rfl
  · obtain ⟨x, rfl, hx, q⟩ := h
    have big : x.length ≤ sizeLine := Nat.le_trans hx (by decide)
    refine ⟨_, PSs.nox (pss_cons (by exact (ps_if (PW.pt (pw_or (pt_not (pt_val (pe_m0 PySem.F.slot_str_isascii PySem.F.type_str_isascii mt_isascii (pv 0)))) (pw_or (pt_not (pt_val (pe_m0 PySem.F.slot_str_isdigit PySem.F.type_str_isdigit mt_isdigit (pv 0)))) (pw_or (pt_cmpR op_gt (pe_callB call_len_str (by rfl) mLen PySem.boot_len (pa_cons (pv 0) pa_nil)) (C8.pe_gc (v := .int 30) rfl gMF) (nomark _)) (pw_or1 (PW.pt (pw_and (pt_cmpR op_gt (pe_callB call_len_str (by rfl) mLen PySem.boot_len (pa_cons (pv 0) pa_nil)) pe_int (nomark _)) (pw_and1 (pt_cmpR op_eq (pe_ix ix_str (pv 0) pe_int (fun _ _ => rfl)) pe_str (nomark _)))))))))) (pss_one (by exact (ps_ret pe_non))) pss_nil)) (pss_one (by exact (ps_ret (pe_callTy call_int_str (by rfl) mInt (by decide +kernel) (pa_cons (pv 0) pa_nil)))))), ?_⟩
    have bad : okNum x = false → Q .non H := fun e => by
      have z : numM x = none := by
        unfold numM
        rw [e]
        rfl
      rw [z] at q
      exact q
    refine ⟨_, rfl, ⟨_, rfl⟩, _, rfl, rfl, trivial, _, rfl, ite2 (fun e1 => ?_) fun e1 => ?_⟩
    · exact iteT (bad (by unfold okNum; simp only [Bool.not_eq_true'] at e1; rw [e1, Bool.false_and]))
    have f1 : Txt.isascii x = true := by simpa using e1
    refine ⟨_, rfl, ⟨_, rfl⟩, _, rfl, rfl, trivial, _, rfl, ite2 (fun e2 => ?_) fun e2 => ?_⟩
    · exact iteT (bad (by unfold okNum; simp only [Bool.not_eq_true'] at e2; rw [f1, e2, Bool.false_and, Bool.and_false]))
    have f2 : Txt.isdigit x = true := by simpa using e2
    refine ⟨_, rfl, _, rfl, big, _, _, rfl, rfl, _, rfl, ite2 (fun e3 => ?_) fun e3 => ?_⟩
    · have g3 : (30 : Int) < (x.length : Int) := of_decide_eq_true e3
      exact iteT (bad (by unfold okNum; rw [decide_eq_false (show ¬ x.length ≤ 30 by omega), Bool.false_and, Bool.and_false, Bool.and_false]))
    have f3 : x.length ≤ 30 := by
      have g3 : ¬ (30 : Int) < (x.length : Int) := fun z => e3 (decide_eq_true z)
      omega
    have fin : okNum x = true → (∃ a n, [V.str x] = [V.str a] ∧ PySem.intText? a = some n ∧ a.length ≤ 640 ∧ Q (V.int n) H) := fun e => by
      have z : numM x = some (NumText.digitsVal x.cps.toList) := by
        unfold numM
        rw [if_pos e]
      rw [z] at q
      obtain ⟨z1, z2⟩ := numM_int z
      exact ⟨x, _, rfl, z1, by omega, q⟩
    refine ⟨_, rfl, _, rfl, big, _, _, rfl, rfl, _, rfl, ite2 (fun e4 => ?_) fun e4 => iteF ⟨_, rfl, fin ?_⟩⟩
    · have g4 : (1 : Int) < (x.length : Int) := of_decide_eq_true e4
      have l0 : x.length = x.cps.toList.length := by simp [Str.length]
      have lt : 0 < x.cps.toList.length := by omega
      refine ⟨_, rfl, x, 0, x.cps.toList[0], rfl, rfl, big, atI_nat (j := 0) (List.getElem?_eq_getElem lt), rfl, _, rfl, ite2 (fun e5 => ?_) fun e5 => ?_⟩
      · refine bad ?_
        have k5 := sign_zero (of_decide_eq_true e5)
        unfold okNum
        rw [decide_eq_true (show 1 < x.length by omega), decide_eq_true (show x.cps.toList[0]? = some 48 by rw [List.getElem?_eq_getElem lt, k5]), Bool.and_self, Bool.not_true, Bool.and_false, Bool.and_false, Bool.and_false]
      · refine ⟨_, rfl, fin ?_⟩
        have k5 : ¬ x.cps.toList[0]? = some 48 := fun z => e5 (decide_eq_true (by rw [List.getElem?_eq_getElem lt] at z; rw [Option.some.inj z]; rfl))
        unfold okNum
        rw [f1, f2, decide_eq_true f3, decide_eq_false k5, Bool.and_false, Bool.not_false] <;> rfl
    · have g4 : ¬ (1 : Int) < (x.length : Int) := fun z => e4 (decide_eq_true z)
      unfold okNum
      rw [f1, f2, decide_eq_true f3, decide_eq_false (show ¬ 1 < x.length by omega), Bool.false_and, Bool.not_false] <;> rfl
def spTerm (K : PySem.W.Frag) : Sp := fun vs H Q _ => ∃ (a : Addr) (ws : List Str), vs = [.ref a] ∧ SqL K H a (ws.map V.str) ∧ (∀ w ∈ ws, w.length ≤ 1000000) ∧ (termM ws = none → Q .non H) ∧
  ∀ n f, termM ws = some (n, f) → ∀ t, H t = none → Q (.ref t) (upd H t (.tup [.int (n : Nat), nameV f]))
theorem inV_strs {x : Str} : ∀ {l : List Str}, inV (V.str x) (l.map V.str) = decide (x ∈ l)
  | [] => by simp [inV]
  | y :: l => by
    have q := inV_strs (x := x) (l := l)
    unfold inV at q ⊢
    rw [List.map_cons, List.any_cons, q]
    have e : eqV (V.str y) (V.str x) = decide (y = x) := by
      unfold eqV
      rfl
    rw [e]
    by_cases h : x = y
    · subst h
      simp
    · have h2 : ¬ y = x := fun z => h z.symm
      simp [h, h2]
theorem flat_strs {l : List Str} : (l.map V.str).all flatV = true := by
  rw [List.all_eq_true]
  intro v hv
  obtain ⟨s, _, rfl⟩ := List.mem_map.mp hv
  rfl
section
variable {K : PySem.W.Frag} {P : Program} {w : World} {base : Heap} {mg : Str → Option Value}
theorem sc_term_of : FnScope ["words"] ["words"] (defScope sTerm) := ⟨rfl, rfl, rfl, by decide +kernel, rfl, by decide +kernel, by decide +kernel⟩
theorem ok_term_of {f fN : Addr} {fd fdN : FuncData} (F : FunD K "term_of" "term_of" (defArgs sTerm) (defBody sTerm) (defScope sTerm) [] [] f fd) (FN : FunD K "number_of" "number_of" (defArgs sNum) (defBody sNum) (defScope sNum) [] [] fN fdN)
    (GN : FnOk P w K mg base CX0 1 fN fdN ["word"] spNum) (gN : mg "number_of" = some (.ref fN)) (mLen : mg "len" = none) (gMF : ∃ u, mg "MOST_FACTOR" = some u ∧ RelV (.int 12) u)
    {aA aF : Addr} (gA : ∃ u, mg "ATOMS" = some u ∧ RelV (.ref aA) u) (gF : ∃ u, mg "FACTORED" = some u ∧ RelV (.ref aF) u) (tA : ∀ H, SqT K H aA (ATOMSL.map V.str)) (tF : ∀ H, SqT K H aF (FACTL.map V.str)) : FnOk P w K mg base CX0 2 f fd ["words"] (spTerm K) := by
  have bN : Binds K fdN ["word"] [] := FN.bindsN fun _ _ _ _ _ _ us hl => match us, hl with | [_], _ => rfl
  refine F.ok sc_term_of (fun vs H Q E h => ?_) (fun cdv A outer s H vs Q E hr h => ?_)
  · obtain ⟨a, ws, rfl, _⟩ := h
    rfl
  · obtain ⟨a, ws, rfl, hS, hw, q0, q1⟩ := h
    refine ⟨_, PSs.nox (pss_cons (by exact (ps_if (PW.pt (pw_and (pt_cmpR op_eq (pe_callB call_len_seq (by rfl) mLen PySem.boot_len (pa_cons (pv 0) pa_nil)) pe_int (nomark _)) (pw_and1 (pt_cmpR (op_inK K rfl) (pe_ix (ix_listK K rfl) (pv 0) pe_int (fun _ _ => rfl)) (C8.pe_gc (v := .ref aA) rfl gA) rfl)))) (pss_one (by exact (ps_ret (pe_tup (pa_cons pe_int (pa_cons (pe_ix (ix_listK K rfl) (pv 0) pe_int (fun _ _ => rfl)) pa_nil)))))) pss_nil)) (pss_cons (by exact (ps_if (PW.pt (pw_and (pt_cmpR op_eq (pe_callB call_len_seq (by rfl) mLen PySem.boot_len (pa_cons (pv 0) pa_nil)) pe_int (nomark _)) (pw_and1 (pt_cmp (pc_notN (pe_call GN (hr.mono (by decide)) rfl gN FN.kp bN .nil pass0 (pa_cons (pe_ix (ix_listK K rfl) (pv 0) pe_int (fun _ _ => rfl)) pa_nil))))))) (pss_one (by exact (ps_ret (pe_tup (pa_cons (pe_call GN (hr.mono (by decide)) rfl gN FN.kp bN .nil pass0 (pa_cons (pe_ix (ix_listK K rfl) (pv 0) pe_int (fun _ _ => rfl)) pa_nil)) (pa_cons pe_non pa_nil)))))) pss_nil)) (pss_cons (by exact (ps_if (PW.pt (pw_or (pt_cmpR op_ne (pe_callB call_len_seq (by rfl) mLen PySem.boot_len (pa_cons (pv 0) pa_nil)) pe_int (nomark _)) (pw_or (pt_cmpR op_ne (pe_ix (ix_listK K rfl) (pv 0) pe_int (fun _ _ => rfl)) pe_str (nomark _)) (pw_or (pt_cmpR (op_notInK K rfl) (pe_ix (ix_listK K rfl) (pv 0) pe_int (fun _ _ => rfl)) (C8.pe_gc (v := .ref aF) rfl gF) rfl) (pw_or1 (pt_cmp (pc_isN (pe_call GN (hr.mono (by decide)) rfl gN FN.kp bN .nil pass0 (pa_cons (pe_ix (ix_listK K rfl) (pv 0) pe_int (fun _ _ => rfl)) pa_nil))))))))) (pss_one (by exact (ps_ret pe_non))) pss_nil)) (pss_one (by exact (ps_ret (pe_ifExp (pt_chain op_le op_le pe_int (pe_call GN (hr.mono (by decide)) rfl gN FN.kp bN .nil pass0 (pa_cons (pe_ix (ix_listK K rfl) (pv 0) pe_int (fun _ _ => rfl)) pa_nil)) (C8.pe_gc (v := .int 12) rfl gMF)) (pe_tup (pa_cons (pe_call GN (hr.mono (by decide)) rfl gN FN.kp bN .nil pass0 (pa_cons (pe_ix (ix_listK K rfl) (pv 0) pe_int (fun _ _ => rfl)) pa_nil)) (pa_cons (pe_ix (ix_listK K rfl) (pv 0) pe_int (fun _ _ => rfl)) pa_nil))) pe_non))))))), ?_⟩
    have hlen : (ws.map V.str).length = ws.length := List.length_map ..
    have isn : ∀ n : Nat, V.int ((ws.map V.str).length : Nat) = V.int (n : Nat) → ws.length = n := fun n e => by
      have z := V.int.inj e
      omega
    have nis : ∀ n : Nat, ws.length = n → V.int ((ws.map V.str).length : Nat) = V.int (n : Nat) := fun n e => by rw [hlen, e]
    refine ⟨_, rfl, a, _, rfl, .inl hS, rfl, _, rfl, ite2 (fun e => ?_) fun e => ?_⟩
    · obtain ⟨w0, rfl⟩ := List.length_eq_one_iff.mp (isn 1 (of_decide_eq_true e))
      refine ⟨_, rfl, a, _, _, .str w0, rfl, rfl, hS, rfl, aA, _, rfl, .inr (tA _), rfl, flat_strs, _, rfl, ite2 (fun e2 => ?_) fun e2 => ?_⟩
      · have m : w0 ∈ ATOMSL := of_decide_eq_true (inV_strs.symm.trans e2)
        refine ⟨_, rfl, a, _, _, .str w0, rfl, rfl, hS, rfl, by show 2 ≤ sizeLine; decide, fun t ht => q1 1 (some w0) ?_ t ht⟩
        rw [termM_1, if_pos m]
      have m : ¬ w0 ∈ ATOMSL := fun z => e2 (inV_strs.trans (decide_eq_true z))
      have tm : termM [w0] = (numM w0).map fun n => (n, none) := by
        rw [termM_1, if_neg m]
      refine ⟨_, rfl, a, _, rfl, .inl hS, rfl, _, rfl, ite2 (fun _ => ?_) (fun z => absurd e z)⟩
      refine ⟨_, rfl, a, _, _, .str w0, rfl, rfl, hS, rfl, w0, rfl, hw w0 (by simp), ?_⟩
      rcases hn : numM w0 with _ | n
      · have q0' := q0 (by rw [tm, hn]; rfl)
        refine ⟨_, rfl, ite2 (fun z => nomatch z) fun _ => ?_⟩
        have e3 : (1 : Int) ≠ 3 := by decide
        refine ⟨_, rfl, a, _, rfl, .inl hS, rfl, _, rfl, ite2 (fun _ => q0') fun z => absurd rfl z⟩
      · refine ⟨_, rfl, ite2 (fun _ => ?_) fun z => absurd rfl z⟩
        refine ⟨_, rfl, a, _, _, .str w0, rfl, rfl, hS, rfl, w0, rfl, hw w0 (by simp), ?_⟩
        rw [hn]
        exact ⟨by show 2 ≤ sizeLine; decide, fun t ht => q1 n none (by rw [tm, hn]; rfl) t ht⟩
    · have n1 : ws.length ≠ 1 := fun z => e (decide_eq_true (nis 1 z))
      refine ⟨_, rfl, a, _, rfl, .inl hS, rfl, _, rfl, ite2 (fun z => absurd z e) fun _ => ?_⟩
      refine ⟨_, rfl, a, _, rfl, .inl hS, rfl, _, rfl, ite2 (fun e3 => ?_) fun e3 => ?_⟩
      · exact q0 (termM_x n1 fun z => by rw [decide_eq_true (show V.int ((ws.map V.str).length : Nat) = V.int 3 from nis 3 z)] at e3; cases e3)
      have l3 := isn 3 (Classical.byContradiction fun z => e3 (by rw [decide_eq_false (show ¬ V.int ((ws.map V.str).length : Nat) = V.int 3 from z)]; rfl))
      obtain ⟨w0, w1, w2, rfl⟩ : ∃ w0 w1 w2, ws = [w0, w1, w2] := by
        rcases ws with _ | ⟨a0, _ | ⟨a1, _ | ⟨a2, _ | ⟨a3, r⟩⟩⟩⟩
        · cases l3
        · cases l3
        · cases l3
        · exact ⟨a0, a1, a2, rfl⟩
        · cases l3
      have tm := termM_3 w0 w1 w2
      refine ⟨_, rfl, a, _, _, .str w1, rfl, rfl, hS, rfl, rfl, _, rfl, ite2 (fun e4 => ?_) fun e4 => ?_⟩
      · have k4 : ¬ w1 = "*" := fun z => by rw [z] at e4; exact absurd e4 (by decide)
        exact q0 (by rw [tm, if_neg fun z => k4 z.1])
      have k4 : w1 = "*" := by
        have z := Classical.byContradiction fun z => e4 (show (!decide (V.str w1 = V.str "*")) = true by rw [decide_eq_false z]; rfl)
        exact V.str.inj z
      refine ⟨_, rfl, a, _, _, .str w2, rfl, rfl, hS, rfl, aF, _, rfl, .inr (tF _), rfl, flat_strs, _, rfl, ite2 (fun e5 => ?_) fun e5 => ?_⟩
      · have k5 : ¬ w2 ∈ FACTL := fun z => by
          have y : (!inV (V.str w2) (FACTL.map V.str)) = true := e5
          rw [inV_strs, decide_eq_true z] at y
          cases y
        exact q0 (by rw [tm, if_neg fun z => k5 z.2])
      have k5 : w2 ∈ FACTL := Classical.byContradiction fun z => e5 (show (!inV (V.str w2) (FACTL.map V.str)) = true by rw [inV_strs, decide_eq_false z]; rfl)
      rw [if_pos ⟨k4, k5⟩] at tm
      refine ⟨_, rfl, a, _, _, .str w0, rfl, rfl, hS, rfl, w0, rfl, hw w0 (by simp), ?_⟩
      rcases hn : numM w0 with _ | n
      · exact ⟨_, rfl, q0 (by rw [tm, hn])⟩
      refine ⟨_, rfl, ?_⟩
      refine ⟨_, rfl, a, _, _, .str w0, rfl, rfl, hS, rfl, w0, rfl, hw w0 (by simp), ?_⟩
      rw [hn]
      refine ⟨_, _, rfl, rfl, _, rfl, ite2 (fun e6 => ?_) fun e6 => ?_⟩
      · have k6 : (2 : Int) ≤ (n : Int) := of_decide_eq_true e6
        refine ⟨_, _, rfl, rfl, _, rfl, ite2 (fun e7 => ?_) fun e7 => ?_⟩
        · have k7 : (n : Int) ≤ 12 := of_decide_eq_true e7
          refine ⟨_, rfl, a, _, _, .str w0, rfl, rfl, hS, rfl, w0, rfl, hw w0 (by simp), ?_⟩
          rw [hn]
          refine ⟨_, rfl, a, _, _, .str w2, rfl, rfl, hS, rfl, by show 2 ≤ sizeLine; decide, fun t ht => q1 n (some w2) ?_ t ht⟩
          rw [tm, hn]
          exact if_pos ⟨by omega, by omega⟩
        · have k7 : ¬ (n : Int) ≤ 12 := fun z => e7 (decide_eq_true z)
          refine q0 ?_
          rw [tm, hn]
          exact if_neg (by omega)
      · have k6 : ¬ (2 : Int) ≤ (n : Int) := fun z => e6 (decide_eq_true z)
        refine ⟨_, rfl, q0 ?_⟩
        rw [tm, hn]
        exact if_neg (by omega)
end
end
end Pk
namespace Pk
open L2 PyProof.Rows PySem.Spec PySem
abbrev TAt (H : Hp) (r : Addr) (t : Term) : Prop := H r = some (.tup [.int t.1, nameV t.2])
def spSum (K : PySem.W.Frag) : Sp := fun vs H Q _ => ∃ (a : Addr) (ws : List Str), vs = [.ref a] ∧ SqL K H a (ws.map V.str) ∧ ws.length ≤ 1000000 ∧ (∀ w ∈ ws, w.length ≤ 1000000) ∧ (sumM ws = none → ∀ H', Same H H' → Q .non H') ∧
  ∀ ts, sumM ws = some ts → ∀ p refs H', Same H H' → H p = none → H' p = some (.tup (refs.map V.ref)) → Paired (TAt H') refs ts → Q (.ref p) H'
theorem _root_.L2.Same.paired {H H' : Hp} (s : Same H H') {refs : List Addr} {ts : List Term} (h : Paired (TAt H) refs ts) : Paired (TAt H') refs ts := L2.Paired.mapP h fun _ _ e => s _ _ e
structure SumI (K : PySem.W.Frag) (ws : List Str) (H0 : Hp) (fa ta la : Addr) (i : Nat) (refs : List Addr) (found : List Term) (term : List Str) (sign : Int) (H : Hp) : Prop where
  same : Same H0 H
  nf : H0 fa = none
  nt : H0 ta = none
  nl : H0 la = none
  ft : fa ≠ ta
  lf : la ≠ fa
  lt : la ≠ ta
  hf : H fa = some (.lst (refs.map V.ref))
  ht : H ta = some (.lst (term.map V.str))
  hl : H la = some (.lst ((ws ++ [("+" : Str)]).map V.str))
  pr : Paired (TAt H) refs found
  go : sumGo ((ws ++ [("+" : Str)]).drop i) found term sign = sumGo (ws ++ [("+" : Str)]) [] [] 1
  sg : sign = 1 ∨ sign = -1
  tl : ∀ x ∈ term, x.length ≤ 1000000
  t1 : term.length ≤ i
  f1 : refs.length ≤ i
theorem SumI.upT {K ws H0 fa ta la i refs found term sign H} (I : SumI K ws H0 fa ta la i refs found term sign H) {t : Addr} {xs : List V} (h : H t = none) : SumI K ws H0 fa ta la i refs found term sign (upd H t (.tup xs)) :=
  have s := same_new (o := .tup xs) h
  ⟨I.same.trans s, I.nf, I.nt, I.nl, I.ft, I.lf, I.lt, s _ _ I.hf, s _ _ I.ht, s _ _ I.hl, s.paired I.pr, I.go, I.sg, I.tl, I.t1, I.f1⟩
theorem paired_app {α β : Type} {F : α → β → Prop} : ∀ {a c : List α} {b d : List β}, Paired F a b → Paired F c d → Paired F (a ++ c) (b ++ d)
  | _, _, _, _, .nil, y => y
  | _, _, _, _, .cons h r, y => .cons h (paired_app r y)
theorem paired_len {α β : Type} {F : α → β → Prop} : ∀ {a : List α} {b : List β}, Paired F a b → b.length = a.length
  | _, _, .nil => rfl
  | _, _, .cons _ r => congrArg Nat.succ (paired_len r)
theorem paired_at {α β : Type} {F : α → β → Prop} : ∀ {a : List α} {b : List β} {i : Nat} {x : α}, Paired F a b → a[i]? = some x → ∃ y, b[i]? = some y ∧ F x y
  | _, _, _, _, .nil, e => (by simp at e)
  | _, _, 0, _, .cons h _, e => by
    cases e
    exact ⟨_, rfl, h⟩
  | _, _, i + 1, _, .cons _ r, e => paired_at (i := i) r e
theorem ref_item {ws : List Addr} {i : Nat} {y : V} (h : (ws.map V.ref)[i]? = some y) : ∃ z, ws[i]? = some z ∧ y = .ref z := by
  rw [List.getElem?_map] at h
  cases e : ws[i]? with
  | none => (rw [e] at h; cases h)
  | some z => rw [e] at h; exact ⟨z, rfl, (Option.some.inj h).symm⟩
theorem namesT_app (a b : List Term) : namesT (a ++ b) = namesT a ++ namesT b := List.filterMap_append ..
theorem namesT_len (a : List Term) : (namesT a).length ≤ a.length := List.length_filterMap_le ..
theorem put_addS (ks : List Str) (x : Str) : putK (ks.map fun s => ((Sum.inr s : Key), V.bl true)) (.inr x) (.bl true) = (addS ks x).map fun s => ((Sum.inr s : Key), V.bl true) := by
  have a : ((ks.map fun s => ((Sum.inr s : Key), V.bl true)).any fun kv => decide (kv.1 = Sum.inr x)) = decide (x ∈ ks) := by
    rw [List.any_map]
    induction ks with
    | nil => rfl
    | cons k r ih =>
      rw [List.any_cons, ih]
      by_cases h : k = x
      · subst h
        simp
      · have h2 : ¬ x = k := fun z => h z.symm
        simp [h, h2]
  unfold putK addS
  rw [a]
  by_cases h : x ∈ ks
  · rw [if_pos (decide_eq_true h), if_pos h, List.map_map]
    refine List.map_congr_left fun s _ => ?_
    show (if (Sum.inr s : Key) = Sum.inr x then ((Sum.inr s : Key), V.bl true) else ((Sum.inr s : Key), V.bl true)) = _
    split <;> rfl
  · rw [if_neg (by simpa using h), if_neg h, List.map_append]
    rfl
theorem str_item {ws : List Str} {i : Nat} {y : V} (h : (ws.map V.str)[i]? = some y) : ∃ z, ws[i]? = some z ∧ y = .str z := by
  rw [List.getElem?_map] at h
  cases e : ws[i]? with
  | none => (rw [e] at h; cases h)
  | some z => rw [e] at h; exact ⟨z, rfl, (Option.some.inj h).symm⟩
theorem drop_item {ws : List Str} {i : Nat} {z : Str} (h : ws[i]? = some z) : ws.drop i = z :: ws.drop (i + 1) := by
  obtain ⟨hlt, e⟩ := List.getElem?_eq_some_iff.mp h
  rw [List.drop_eq_getElem_cons hlt, e]
theorem SumI.apT {K ws H0 fa ta la i refs found term sign H} (I : SumI K ws H0 fa ta la i refs found term sign H) {x : Str} (hx : (ws ++ [("+" : Str)])[i]? = some x) (hl : x.length ≤ 1000000) (n1 : ¬ (x = "+" ∨ x = "-")) :
    SumI K ws H0 fa ta la (i + 1) refs found (term ++ [x]) sign (upd H ta (.lst (term.map V.str ++ [.str x]))) := by
  have st : ∀ b o, b ≠ ta → H b = some o → upd H ta (.lst (term.map V.str ++ [.str x])) b = some o := fun b o n e => by rw [upd_ne n]; exact e
  have sm : Same H0 (upd H ta (.lst (term.map V.str ++ [.str x]))) := fun b o e => st b o (fun z => by
    rw [z, I.nt] at e
    cases e) (I.same b o e)
  have pr : Paired (TAt (upd H ta (.lst (term.map V.str ++ [.str x])))) refs found := L2.Paired.mapP I.pr fun r t e => st _ _ (ne_of e I.ht (by
    intro z
    cases z)) e
  refine ⟨sm, I.nf, I.nt, I.nl, I.ft, I.lf, I.lt, st _ _ I.ft I.hf, ?_, st _ _ I.lt I.hl, pr, ?_, I.sg, fun y hy => ?_, ?_, Nat.le_succ_of_le I.f1⟩
  · rw [upd_same, List.map_append]
    rfl
  · rw [← I.go, drop_item hx]
    show _ = sumGo _ _ _ _
    rw [sumGo, if_neg n1]
  · rcases List.mem_append.mp hy with y' | y'
    · exact I.tl y y'
    · rw [List.mem_singleton.mp y']
      exact hl
  · rw [List.length_append]
    exact Nat.succ_le_succ I.t1
theorem SumI.apF {K ws H0 fa ta la i refs found term sign H} (I : SumI K ws H0 fa ta la i refs found term sign H) {x : Str} (hx : (ws ++ [("+" : Str)])[i]? = some x) (n1 : x = "+" ∨ x = "-") {n : Nat} {f : Option Str} (ht : termM term = some (n, f)) {p tb : Addr}
    (hp : H p = some (.tup [.int (sign * n), nameV f])) (hb : upd H fa (.lst (refs.map V.ref ++ [.ref p])) tb = none) :
    SumI K ws H0 fa tb la (i + 1) (refs ++ [p]) (found ++ [(sign * n, f)]) [] (if x = "+" then 1 else -1) (upd (upd H fa (.lst (refs.map V.ref ++ [.ref p]))) tb (.lst [])) := by
  have st : ∀ b o, b ≠ fa → H b = some o → upd (upd H fa (.lst (refs.map V.ref ++ [.ref p]))) tb (.lst []) b = some o := fun b o n e => same_new hb _ _ (by rw [upd_ne n]; exact e)
  have bf : fa ≠ tb := fun z => by
    rw [← z, upd_same] at hb
    cases hb
  have sm : Same H0 (upd (upd H fa (.lst (refs.map V.ref ++ [.ref p]))) tb (.lst [])) := fun b o e => st b o (fun z => by
    rw [z, I.nf] at e
    cases e) (I.same b o e)
  refine ⟨sm, I.nf, ?_, I.nl, bf, I.lf, ?_, ?_, upd_same, st _ _ I.lf I.hl, ?_, ?_, ?_, fun _ h => (by cases h), Nat.zero_le _, ?_⟩
  · cases e : H0 tb with
    | none => rfl
    | some o =>
      have q := I.same _ _ e
      rw [upd_ne (Ne.symm bf), q] at hb
      cases hb
  · intro z
    have q := I.hl
    rw [z] at q
    rw [upd_ne (Ne.symm bf), q] at hb
    cases hb
  · rw [upd_ne bf, upd_same, List.map_append]
    rfl
  · have old : Paired (TAt (upd (upd H fa (.lst (refs.map V.ref ++ [.ref p]))) tb (.lst []))) refs found := L2.Paired.mapP I.pr fun r t e => st _ _ (ne_of e I.hf (by
      intro z
      cases z)) e
    have new : Paired (TAt (upd (upd H fa (.lst (refs.map V.ref ++ [.ref p]))) tb (.lst []))) [p] [(sign * (n : Int), f)] := .cons (st _ _ (ne_of hp I.hf (by intro z; cases z)) hp) .nil
    exact paired_app old new
  · rw [← I.go, drop_item hx]
    show _ = sumGo _ _ _ _
    rw [sumGo, if_pos n1, ht]
  · split
    · exact .inl rfl
    · exact .inr rfl
  · rw [List.length_append]
    exact Nat.succ_le_succ I.f1
theorem SumI.no {K ws H0 fa ta la i refs found term sign H} (I : SumI K ws H0 fa ta la i refs found term sign H) {x : Str} (hx : (ws ++ [("+" : Str)])[i]? = some x) (n1 : x = "+" ∨ x = "-") (ht : termM term = none) : sumM ws = none := by
  have q := I.go
  rw [drop_item hx, sumGo, if_pos n1, ht] at q
  unfold sumM
  rw [← q]
section
variable {K : PySem.W.Frag} {P : Program} {w : World} {base : Heap} {mg : Str → Option Value}
theorem sc_sum_of : FnScope ["words", "found", "term", "sign", "word", "pair", "names", "factor", "name"] ["words"] (defScope sSumOf) := ⟨rfl, rfl, rfl, by decide +kernel, rfl, by decide +kernel, by decide +kernel⟩
theorem ok_sum_of {f fT : Addr} {fd fdT : FuncData} (F : FunD K "sum_of" "sum_of" (defArgs sSumOf) (defBody sSumOf) (defScope sSumOf) [] [] f fd) (FT : FunD K "term_of" "term_of" (defArgs sTerm) (defBody sTerm) (defScope sTerm) [] [] fT fdT)
    (GT : FnOk P w K mg base CX0 2 fT fdT ["words"] (spTerm K)) (gT : mg "term_of" = some (.ref fT)) (mLen : mg "len" = none) (mTuple : mg "tuple" = none) (gMT : ∃ u, mg "MOST_TERMS" = some u ∧ RelV (.int 4) u) : FnOk P w K mg base CX0 3 f fd ["words"] (spSum K) := by
  have bT : Binds K fdT ["words"] [] := FT.bindsN fun _ _ _ _ _ _ us hl => match us, hl with | [_], _ => rfl
  refine F.ok sc_sum_of (fun vs H Q E h => ?_) (fun cdv A outer s H vs Q E hr h => ?_)
  · obtain ⟨a, ws, rfl, _⟩ := h
    rfl
  · obtain ⟨a, ws, rfl, hS, hl, hw, q0, q1⟩ := h
    refine ⟨_, PSs.nox (pss_cons (by exact (ps_par3 (i := 1) (j := 2) (l := 3) rfl sc_sum_of.nd rfl rfl rfl (by decide) (by decide) (by decide) rfl rfl rfl (pa_cons (pe_lst pa_nil) (pa_cons (pe_lst pa_nil) (pa_cons pe_int pa_nil))) rfl)) (pss_cons (by exact (ps_for PassesOwn.never rfl (pi_list (pe_lst (StX.pa_star (pv 0) (pa_cons pe_str pa_nil)))) (pg_name (i := 4) sc_sum_of.nd rfl (Or.inl rfl)) (pss_cons (by exact (ps_if (pt_cmpR (op_notInK K rfl) (pv 4) (pe_tup (pa_cons pe_str (pa_cons pe_str pa_nil))) rfl) (pss_cons (by exact (ps_expr (pe_bm PySem.F.plainAttrs_list PySem.F.slot_list_append PySem.F.type_list_append mt_append (pv 2) (pa_cons (pv 4) pa_nil)))) (pss_one (by exact ps_continue))) pss_nil)) (pss_cons (by exact (ps_set (i := 5) sc_sum_of.nd rfl (Or.inl rfl) (pe_call GT (hr.mono (by decide)) rfl gT FT.kp bT .nil pass0 (pa_cons (pv 2) pa_nil)))) (pss_cons (by exact (ps_if (pt_cmp (pc_isN (pv 5))) (pss_one (by exact (ps_ret pe_non))) pss_nil)) (pss_cons (by exact (ps_expr (pe_bm PySem.F.plainAttrs_list PySem.F.slot_list_append PySem.F.type_list_append mt_append (pv 1) (pa_cons (pe_tup (pa_cons (pe_op op_mulW (pv 3) (pe_ix (ix_tupK K rfl) (pv 5) pe_int (fun _ _ => rfl))) (pa_cons (pe_ix (ix_tupK K rfl) (pv 5) pe_int (fun _ _ => rfl)) pa_nil))) pa_nil)))) (pss_one (by exact (ps_par (i := 2) (j := 3) rfl sc_sum_of.nd rfl rfl (by decide) rfl rfl (pa_cons (pe_lst pa_nil) (pa_cons (pe_ifExp (pt_cmpR op_eq (pv 4) pe_str (nomark _)) pe_int (pe_un un_neg pe_int)) pa_nil)) rfl))))))))) (pss_cons (by exact (ps_setLc (i := 6) (own := [("factor", 7), ("name", 8)]) rfl sc_sum_of.nd rfl rfl (sw_true rfl rfl rfl (by decide +kernel)) (pi_list (pv 1)) (blkOk_by (N := ["words", "found", "term", "sign", "word", "pair", "names", "factor", "name"]) (sc := defScope sSumOf) (by decide +kernel)) (fun _ _ _ _ _ => pg_tupK (n := 2) K rfl rfl (pgs_cons (pg_name (i := 7) sc_sum_of.nd rfl (Or.inl rfl)) (pgs_cons (pg_name (i := 8) sc_sum_of.nd rfl (Or.inl rfl)) pgs_nil))) (fun _ _ _ _ _ => (pts_one (pt_cmp (pc_notN (pv 8))))) (fun _ _ _ _ _ => (pv 8)))) (pss_one (by exact (ps_ret (pe_ifExp (PW.pt (pw_and (pt_cmpR op_le (pe_callB call_len_seq (by rfl) mLen PySem.boot_len (pa_cons (pv 1) pa_nil)) (C8.pe_gc (v := .int 4) rfl gMT) (nomark _)) (pw_and1 (pt_cmpR op_eq (pe_callB call_lenD (by rfl) mLen PySem.boot_len (pa_cons (pe_dc (own := [("name", 8)]) (g := gName 8) (tt := tYes) rfl sc_sum_of.nd (pi_list (pv 6)) (blkOk_by (N := ["words", "found", "term", "sign", "word", "pair", "names", "factor", "name"]) (sc := defScope sSumOf) (by decide +kernel)) (fun _ _ _ _ _ => pg_name (i := 8) sc_sum_of.nd rfl (Or.inl rfl)) (fun _ _ _ _ _ => pts_nil) (fun _ _ _ _ _ => (pv 8)) (fun _ _ _ _ _ => pe_bl)) pa_nil)) (pe_callB call_len_seq (by rfl) mLen PySem.boot_len (pa_cons (pv 6) pa_nil)) (nomark _))))) (pe_callTy call_tuple_of (by rfl) mTuple (by decide +kernel) (pa_cons (pv 1) pa_nil)) pe_non))))))), ?_⟩
    refine ⟨by show 0 ≤ sizeLine; decide, fun fa hfa => ⟨by show 0 ≤ sizeLine; decide, fun ta hta => ?_⟩⟩
    refine ⟨_, _, _, rfl, ?_⟩
    have s1 : Same H _ := same_new (o := .lst []) hfa
    have s2 : Same H _ := s1.trans (same_new (o := .lst []) hta)
    refine ⟨_, rfl, a, _, rfl, .inr (s2.stands.l hS), by show (ws.map V.str ++ [V.str "+"]).length ≤ sizeLine; rw [List.length_append, List.length_map]; exact Nat.le_trans (Nat.succ_le_succ hl) (by decide), fun la hla => ?_⟩
    have lenw : ((ws ++ [("+" : Str)]).map V.str).length ≤ 1000001 := by
      rw [List.length_map, List.length_append]
      exact Nat.succ_le_succ hl
    have eqL : ws.map V.str ++ [V.str "+"] = (ws ++ [("+" : Str)]).map V.str := by
      rw [List.map_append]
      rfl
    rw [eqL]
    refine ⟨la, rfl, ⟨_, SqL.of upd_same⟩, for_list (K := K) (a := la) (xs := (ws ++ [("+" : Str)]).map V.str) (fun i σ H' => ∃ (refs : List Addr) (found : List Term) (term : List Str) (sign : Int) (ta : Addr) (v4 v5 v6 v7 v8 : Option V), σ = [some (.ref a), some (.ref fa), some (.ref ta), some (.int sign), v4, v5, v6, v7, v8] ∧ SumI K ws H fa ta la i refs found term sign H') ?_ ?_ ?_ ?_⟩
    · have tf : ta ≠ fa := fun z => by
        rw [z, upd_same] at hta
        cases hta
      have lf : la ≠ fa := fun z => by
        rw [z, upd_ne (Ne.symm tf), upd_same] at hla
        cases hla
      have lt : la ≠ ta := fun z => by
        rw [z, upd_same] at hla
        cases hla
      have nt : H ta = none := by
        rw [upd_ne tf] at hta
        exact hta
      have nl : H la = none := by
        rw [upd_ne lt, upd_ne lf] at hla
        exact hla
      refine ⟨[], [], [], 1, ta, none, none, none, none, none, rfl, s2.step hla, hfa, nt, nl, Ne.symm tf, lf, lt, ?_, ?_, upd_same, .nil, rfl, .inl rfl, fun _ h => (by cases h), Nat.zero_le _, Nat.zero_le _⟩
      · rw [upd_ne (Ne.symm lf), upd_ne (Ne.symm tf)]
        exact upd_same
      · rw [upd_ne (Ne.symm lt)]
        exact upd_same
    · rintro i σ H' _ ⟨_, _, _, _, _, _, _, _, _, _, _, I⟩
      exact SqL.of I.hl
    · rintro i y σ H1 hi ⟨refs, found, term, sign, tc, v4, v5, v6, v7, v8, rfl, I0⟩
      obtain ⟨x, hx, rfl⟩ := str_item hi
      have hil : i ≤ 1000000 := by
        obtain ⟨q, _⟩ := List.getElem?_eq_some_iff.mp hi
        omega
      have xl : x.length ≤ 1000000 := by
        have m := List.mem_of_getElem? hx
        rcases List.mem_append.mp m with m | m
        · exact hw x m
        · rw [List.mem_singleton.mp m]
          decide
      refine ⟨_, rfl, by show 2 ≤ sizeLine; decide, fun tt htt => ?_⟩
      have I := I0.upT (xs := [V.str "+", V.str "-"]) htt
      refine ⟨tt, _, rfl, .inr (SqT.of upd_same), rfl, rfl, _, rfl, ite2 (fun e => ?_) fun e => ?_⟩
      · have n1 : ¬ (x = "+" ∨ x = "-") := fun z => by
          have y : (!inV (V.str x) ([("+" : Str), ("-" : Str)].map V.str)) = true := e
          rw [inV_strs, decide_eq_true (by rcases z with z | z <;> simp [z])] at y
          cases y
        refine ⟨_, rfl, .inl ⟨rfl, _, SqL.of I.ht⟩, _, rfl, tc, _, .str x, rfl, rfl, I.ht, ?_, ?_⟩
        · rw [List.length_map]
          exact Nat.lt_of_le_of_lt I.t1 (Nat.lt_of_le_of_lt hil (by decide))
        · exact ⟨refs, found, _, sign, tc, _, _, _, _, _, rfl, I.apT hx xl n1⟩
      · have n1 : x = "+" ∨ x = "-" := Classical.byContradiction fun z => e (show (!inV (V.str x) ([("+" : Str), ("-" : Str)].map V.str)) = true by
          rw [inV_strs, decide_eq_false (by simpa using z)]
          rfl)
        refine ⟨_, rfl, tc, term, rfl, SqL.of I.ht, I.tl, fun e0 => ?_, fun n g e1 t ht => ?_⟩
        · exact ⟨_, rfl, _, rfl, iteT (q0 (I.no hx n1 e0) _ I.same)⟩
        · refine ⟨_, rfl, _, rfl, iteF ?_⟩
          have J := I.upT (xs := [.int (n : Nat), nameV g]) ht
          have nlt := termM_lt e1
          have mb : CMulW sign (n : Int) := wide_mul (a := 2) (b := 200) (by rcases I.sg with z | z <;> rw [z] <;> decide) (Nat.lt_trans nlt (by decide)) (by decide) (by decide) (by decide)
          refine ⟨_, rfl, .inl ⟨rfl, _, SqL.of J.hf⟩, _, rfl, _, rfl, t, _, _, .int (n : Nat), rfl, rfl, SqT.of upd_same, rfl, _, _, rfl, rfl, mb, ?_⟩
          refine ⟨_, rfl, t, _, _, nameV g, rfl, rfl, SqT.of upd_same, rfl, by show 2 ≤ sizeLine; decide, fun p hp => ?_⟩
          have L := J.upT (xs := [.int (sign * (n : Nat)), nameV g]) hp
          refine ⟨fa, _, .ref p, rfl, rfl, L.hf, ?_, ?_⟩
          · rw [List.length_map]
            exact Nat.lt_of_le_of_lt L.f1 (Nat.lt_of_le_of_lt hil (by decide))
          refine ⟨by show 0 ≤ sizeLine; decide, fun tb htb => ?_⟩
          have fin := L.apF hx n1 e1 upd_same htb
          refine ⟨_, rfl, rfl, _, rfl, ite2 (fun e2 => ?_) fun e2 => ?_⟩
          · have e3 : x = "+" := V.str.inj (of_decide_eq_true e2)
            rw [if_pos e3] at fin
            exact ⟨_, _, rfl, _, _, _, 1, tb, _, _, _, _, _, rfl, fin⟩
          · have e3 : ¬ x = "+" := fun z => e2 (decide_eq_true (by rw [z]))
            rw [if_neg e3] at fin
            exact ⟨_, rfl, _, _, rfl, _, _, _, -1, tb, _, _, _, _, _, rfl, fin⟩
    · rintro σ H1 ⟨refs, found, term, sign, tc, v4, v5, v6, v7, v8, rfl, I⟩
      have go := I.go
      rw [List.drop_eq_nil_of_le (by rw [List.length_map]; exact Nat.le_refl _), sumGo] at go
      have lr : refs.length ≤ 1000001 := by have := I.f1; omega
      have lf : found.length = refs.length := paired_len I.pr
      refine ⟨_, rfl, fa, rfl, ⟨_, SqL.of I.hf⟩, fun D hD => lc_list (K := K) (a := fa) (xs := refs.map V.ref) (fun i H' => Same H1 H' ∧ H' D = some (.lst ((namesT (found.take i)).map V.str))) ⟨same_new hD, by rw [upd_same]; rfl⟩ (fun i H' _ h => SqL.of (h.1 _ _ I.hf)) ?_ ?_⟩
      · intro i y H' hi hp
        obtain ⟨r, hr1, rfl⟩ := ref_item hi
        obtain ⟨g, hg, hg2⟩ := paired_at I.pr hr1
        have tk : found.take (i + 1) = found.take i ++ [g] := by
          rw [List.take_succ, hg]
          rfl
        have st : ∀ acc, Same H1 (upd H' D (.lst acc)) := fun acc b o e => by
          rw [upd_ne (fun z => by rw [z, hD] at e; cases e)]
          exact hp.1 b o e
        refine ⟨r, [.int g.1, nameV g.2], rfl, SqT.of (hp.1 _ _ hg2), rfl, _, _, rfl, _, _, rfl, rfl, rfl, ?_⟩
        obtain ⟨g1, g2⟩ := g
        cases g2 with
        | none =>
          refine ⟨_, rfl, _, rfl, ?_⟩
          refine ⟨hp.1, ?_⟩
          rw [tk, namesT_app, show namesT [((g1, none) : Term)] = [] from rfl, List.append_nil]
          exact hp.2
        | some nm =>
          refine ⟨_, rfl, _, rfl, ?_⟩
          refine ⟨_, rfl, _, hp.2, ?_, st _, ?_⟩
          · rw [List.length_map]
            exact Nat.lt_of_le_of_lt (Nat.le_trans (namesT_len _) (by rw [List.length_take]; omega)) (show 1000001 < sizeLine by decide)
          · rw [upd_same, tk, namesT_app, List.map_append]
            rfl
      · intro H2 hp
        have e1 : found.take (refs.map V.ref).length = found := by
          rw [List.length_map, ← lf]
          exact List.take_length ..
        rw [e1] at hp
        obtain ⟨sm, hn⟩ := hp
        have sF := I.same.trans sm
        have bad : sumOk found = false → sumM ws = none := fun z => by
          unfold sumM
          rw [← go]
          show (if sumOk found = true then some found else none) = none
          rw [z]
          rfl
        refine ⟨_, rfl, fa, _, rfl, .inl (SqL.of (sm _ _ I.hf)), _, _, rfl, rfl, _, rfl, ite2 (fun e4 => ?_) fun e4 => ?_⟩
        · have k4 : ((refs.map V.ref).length : Int) ≤ 4 := of_decide_eq_true e4
          rw [List.length_map] at k4
          refine ⟨_, rfl, D, rfl, ⟨_, SqL.of hn⟩, fun d hd => dc_list (K := K) (a := D) (xs := (namesT found).map V.str) (fun i H' => Same H2 H' ∧ H' d = some (.dK ((((namesT found).take i).foldl addS []).map fun s => ((Sum.inr s : Key), V.bl true)))) ⟨same_new hd, by rw [upd_same]; rfl⟩ (fun i H' _ h => SqL.of (h.1 _ _ hn)) ?_ ?_⟩
          · intro i y H' hi hp
            obtain ⟨x, hx, rfl⟩ := str_item hi
            have tk : (namesT found).take (i + 1) = (namesT found).take i ++ [x] := by
              rw [List.take_succ, hx]
              rfl
            refine ⟨rfl, ?_⟩
            refine ⟨_, rfl, _, .inr x, rfl, hp.2, ?_, fun b o e => ?_, ?_⟩
            · rw [List.length_map]
              have q := (addS_len ((namesT found).take i) []).1
              rw [List.length_nil, Nat.zero_add] at q
              have q2 : ((namesT found).take i).length ≤ 1000001 := by
                rw [List.length_take]
                exact Nat.le_trans (Nat.min_le_right _ _) (Nat.le_trans (namesT_len _) (by omega))
              exact Nat.lt_of_le_of_lt (Nat.le_trans q q2) (by decide)
            · rw [upd_ne (fun z => by rw [z, hd] at e; cases e)]
              exact hp.1 b o e
            · rw [upd_same, tk, List.foldl_append]
              exact congrArg (fun z => some (HO.dK z)) (put_addS _ x)
          · intro H3 hp
            have e2 : (namesT found).take ((namesT found).map V.str).length = namesT found := by
              rw [List.length_map]
              exact List.take_length ..
            rw [e2] at hp
            obtain ⟨sm3, hd3⟩ := hp
            refine ⟨d, _, rfl, hd3, _, rfl, D, _, rfl, .inl (SqL.of (sm3 _ _ hn)), rfl, _, rfl, ite2 (fun e5 => ?_) fun e5 => ?_⟩
            · have k5 := V.int.inj (of_decide_eq_true e5)
              rw [List.length_map, List.length_map] at k5
              have nd : (namesT found).Nodup := (nodup_len _).mp (by omega)
              have ok : sumOk found = true := by
                unfold sumOk
                rw [decide_eq_true nd, decide_eq_true (show found.length ≤ 4 by omega)]
                rfl
              have r : sumM ws = some found := by
                unfold sumM
                rw [← go]
                exact if_pos ok
              refine ⟨_, rfl, fa, _, rfl, .inl ⟨SqL.of (sm3 _ _ (sm _ _ I.hf)), fun l hl3 => ?_⟩⟩
              have sL := (sF.trans sm3).step (o := .tup (refs.map V.ref)) hl3
              exact q1 found r l refs _ sL ((sF.trans sm3).back hl3) upd_same ((sm.trans (sm3.step hl3)).paired I.pr)
            · refine q0 (bad ?_) _ (sF.trans sm3)
              unfold sumOk
              have nn : ¬ (namesT found).Nodup := fun z => e5 (decide_eq_true (by rw [List.length_map, List.length_map, (nodup_len _).mpr z]))
              rw [decide_eq_false nn, Bool.and_false]
        · refine q0 (bad ?_) _ sF
          unfold sumOk
          rw [decide_eq_false (fun z => e4 (decide_eq_true (by rw [List.length_map]; omega))), Bool.false_and]
end
end Pk
namespace Pk
open L2 PyProof.Rows PySem.Spec PySem
/-! ### from the back -/
theorem atI_back {α : Type} {xs : List α} {k : Nat} {v : α} (h1 : 1 ≤ k) (h2 : k ≤ xs.length) (h : xs[xs.length - k]? = some v) : atI xs (-(k : Int)) = some v := by
  have e : ixN xs.length (-(k : Int)) = some (xs.length - k) := by
    unfold ixN
    rw [if_neg (by omega), if_pos (by omega)]
    congr 1
    omega
  unfold atI
  rw [e]
  exact h
theorem cut_back {xs : List V} {k : Nat} (h1 : 1 ≤ k) : cutV xs none (some (-(k : Int))) = xs.take (xs.length - k) := by
  have e : HT.sIx xs.length xs.length (some (-(k : Int))) = xs.length - k := by
    show (if (-(k : Int)) < 0 then ((-(k : Int)) + (xs.length : Int)).toNat else min (-(k : Int)).toNat xs.length) = xs.length - k
    rw [if_pos (by omega)]
    omega
  unfold cutV
  rw [e, HT.sIx_none, List.drop_zero, Nat.sub_zero]
theorem two_back {ws : List Str} (h : 2 < ws.length) : ∃ pre y z, ws = pre ++ [y, z] ∧ 0 < pre.length := by
  refine ⟨ws.take (ws.length - 2), ws[ws.length - 2]'(by omega), ws[ws.length - 1]'(by omega), ?_, by rw [List.length_take]; omega⟩
  have e1 : ws.drop (ws.length - 2) = [ws[ws.length - 2]'(by omega), ws[ws.length - 1]'(by omega)] := by
    rw [List.drop_eq_getElem_cons (by omega)]
    congr 1
    have e2 : ws.length - 2 + 1 = ws.length - 1 := by omega
    rw [e2, List.drop_eq_getElem_cons (by omega), List.drop_eq_nil_of_le (by omega)]
  rw [← e1, List.take_append_drop]
theorem divM_two (pre : List Str) (y z : Str) (most : Nat) (h : 0 < pre.length) : divM (pre ++ [y, z]) most = if y = "//" then (match sumM pre, numM z with
    | some ts, some m => if 2 ≤ m ∧ m ≤ most then some (ts, some m) else none
    | _, _ => none) else (sumM (pre ++ [y, z])).map fun ts => (ts, none) := by
  have l : (pre ++ [y, z]).length = pre.length + 2 := by simp
  have a : (pre ++ [y, z])[(pre ++ [y, z]).length - 2]? = some y := by
    rw [l, Nat.add_sub_cancel, List.getElem?_append_right (Nat.le_refl _), Nat.sub_self]
    rfl
  have b : (pre ++ [y, z]).take ((pre ++ [y, z]).length - 2) = pre := by
    rw [l, Nat.add_sub_cancel, List.take_left]
  have c : (pre ++ [y, z]).getD ((pre ++ [y, z]).length - 1) "" = z := by
    rw [List.getD_eq_getElem?_getD, l, show pre.length + 2 - 1 = pre.length + 1 by omega, List.getElem?_append_right (by omega), show pre.length + 1 - pre.length = 1 by omega]
    rfl
  unfold divM
  rw [a, b, c]
  by_cases hy : y = "//"
  · rw [if_pos ⟨by omega, by rw [hy]⟩, if_pos hy]
    all_goals (cases sumM pre <;> cases numM z <;> rfl)
  · rw [if_neg (fun q => hy (Option.some.inj q.2)), if_neg hy]
theorem divM_few {ws : List Str} {most : Nat} (h : ¬ 2 < ws.length) : divM ws most = (sumM ws).map fun ts => (ts, none) := by
  unfold divM
  rw [if_neg fun q => h q.1]
def ShareAt (H : Hp) (p : Addr) (x : List Term × Option Nat) : Prop := ∃ q refs, H p = some (.tup [.ref q, natV x.2]) ∧ H q = some (.tup (refs.map V.ref)) ∧ Paired (TAt H) refs x.1
theorem ShareAt.same {H H' : Hp} {p : Addr} {x : List Term × Option Nat} (h : ShareAt H p x) (s : Same H H') : ShareAt H' p x := by
  obtain ⟨q, refs, h1, h2, h3⟩ := h
  exact ⟨q, refs, s _ _ h1, s _ _ h2, s.paired h3⟩
def spDiv (K : PySem.W.Frag) : Sp := fun vs H Q _ => ∃ (a : Addr) (ws : List Str) (most : Nat), vs = [.ref a, .int most] ∧ SqL K H a (ws.map V.str) ∧ ws.length ≤ 1000000 ∧ (∀ w ∈ ws, w.length ≤ 1000000) ∧ (divM ws most = none → ∀ H', Same H H' → Q .non H') ∧
  ∀ x, divM ws most = some x → ∀ p H', Same H H' → H p = none → ShareAt H' p x → Q (.ref p) H'
section
variable {K : PySem.W.Frag} {P : Program} {w : World} {base : Heap} {mg : Str → Option Value}
theorem sc_divided : FnScope ["words", "most", "many", "found"] ["words", "most"] (defScope sDiv) := ⟨rfl, rfl, rfl, by decide +kernel, rfl, by decide +kernel, by decide +kernel⟩
theorem ok_divided {f fN fS : Addr} {fd fdN fdS : FuncData} (F : FunD K "divided" "divided" (defArgs sDiv) (defBody sDiv) (defScope sDiv) [] [] f fd) (FN : FunD K "number_of" "number_of" (defArgs sNum) (defBody sNum) (defScope sNum) [] [] fN fdN)
    (FS : FunD K "sum_of" "sum_of" (defArgs sSumOf) (defBody sSumOf) (defScope sSumOf) [] [] fS fdS)
    (GN : FnOk P w K mg base CX0 1 fN fdN ["word"] spNum) (GS : FnOk P w K mg base CX0 3 fS fdS ["words"] (spSum K)) (gN : mg "number_of" = some (.ref fN)) (gS : mg "sum_of" = some (.ref fS)) (mLen : mg "len" = none) : FnOk P w K mg base CX0 4 f fd ["words", "most"] (spDiv K) := by
  have bN : Binds K fdN ["word"] [] := FN.bindsN fun _ _ _ _ _ _ us hl => match us, hl with | [_], _ => rfl
  have bS : Binds K fdS ["words"] [] := FS.bindsN fun _ _ _ _ _ _ us hl => match us, hl with | [_], _ => rfl
  refine F.ok sc_divided (fun vs H Q E h => ?_) (fun cdv A outer s H vs Q E hr h => ?_)
  · obtain ⟨a, ws, most, rfl, _⟩ := h
    rfl
  · obtain ⟨a, ws, most, rfl, hS, hl, hw, q0, q1⟩ := h
    refine ⟨_, PSs.nox (pss_cons (by exact (ps_if (PW.pt (pw_and (pt_cmpR op_gt (pe_callB call_len_seq (by rfl) mLen PySem.boot_len (pa_cons (pv 0) pa_nil)) pe_int (nomark _)) (pw_and1 (pt_cmpR op_eq (pe_ix (ix_listK K rfl) (pv 0) (pe_un un_neg pe_int) (fun _ _ => rfl)) pe_str (nomark _))))) (pss_cons (by exact (ps_par (i := 2) (j := 3) rfl sc_divided.nd rfl rfl (by decide) rfl rfl (pa_cons (pe_call GN (hr.mono (by decide)) rfl gN FN.kp bN .nil pass0 (pa_cons (pe_ix (ix_listK K rfl) (pv 0) (pe_un un_neg pe_int) (fun _ _ => rfl)) pa_nil)) (pa_cons (pe_call GS hr rfl gS FS.kp bS .nil pass0 (pa_cons (pe_slice (sl_listK K rfl) (pv 0) po_none (po_some (pe_un un_neg pe_int))) pa_nil)) pa_nil)) rfl)) (pss_one (by exact (ps_ret (pe_ifExp (PW.pt (pw_and (pt_cmp (pc_notN (pv 3))) (pw_and (pt_cmp (pc_notN (pv 2))) (pw_and1 (pt_chain op_le op_le pe_int (pv 2) (pv 1)))))) (pe_tup (pa_cons (pv 3) (pa_cons (pv 2) pa_nil))) pe_non))))) pss_nil)) (pss_cons (by exact (ps_set (i := 3) sc_divided.nd rfl (Or.inl rfl) (pe_call GS hr rfl gS FS.kp bS .nil pass0 (pa_cons (pv 0) pa_nil)))) (pss_one (by exact (ps_ret (pe_ifExp (pt_cmp (pc_notN (pv 3))) (pe_tup (pa_cons (pv 3) (pa_cons pe_non pa_nil))) pe_non)))))), ?_⟩
    have hlen : (ws.map V.str).length = ws.length := List.length_map ..
    have whole : divM ws most = ((sumM ws).map fun ts => (ts, none)) → tSeq (tAsg (tCall (spSum K) [] E0 (tCons (tVar 0) tNil)) (gName 3)) (tRet (tIf (tB (tNotN (tVar 3))) (tTup (tCons (tVar 3) (tCons (tC .non) tNil))) (tC .non))) { nx := fun _ H' => Q .non H', rt := Q } [some (.ref a), some (.int most), none, none] H := by
      intro e
      refine ⟨_, rfl, a, ws, rfl, hS, hl, hw, fun e0 H1 s1 => ?_, fun ts e1 p refs H1 s1 n1 h1 pr => ?_⟩
      · exact ⟨_, rfl, _, rfl, q0 (by rw [e, e0]; rfl) _ s1⟩
      · refine ⟨_, rfl, _, rfl, ?_⟩
        refine ⟨_, rfl, by show 2 ≤ sizeLine; decide, fun l hl1 => ?_⟩
        have t := same_new (o := .tup [.ref p, .non]) hl1
        exact q1 (ts, none) (by rw [e, e1]; rfl) l _ (s1.trans t) (s1.back hl1) ⟨p, refs, upd_same, t _ _ h1, t.paired pr⟩
    refine ⟨_, rfl, a, _, rfl, .inl hS, _, _, rfl, rfl, _, rfl, ite2 (fun e => ?_) fun e => ?_⟩
    · have g2 : 2 < ws.length := by
        have z := of_decide_eq_true e
        rw [hlen] at z
        omega
      obtain ⟨pre, y, z, rfl, hp⟩ := two_back g2
      have l2 : ((pre ++ [y, z]).map V.str).length = pre.length + 2 := by simp
      have ay : atI ((pre ++ [y, z]).map V.str) (-(2 : Nat)) = some (.str y) := by
        refine atI_back (by decide) (by omega) ?_
        rw [l2, Nat.add_sub_cancel, List.map_append, List.getElem?_append_right (by simp)]
        simp
      have az : atI ((pre ++ [y, z]).map V.str) (-(1 : Nat)) = some (.str z) := by
        refine atI_back (by decide) (by omega) ?_
        rw [l2, List.map_append, List.getElem?_append_right (by simp)]
        simp
      refine ⟨_, rfl, 2, rfl, a, _, -(2 : Nat), .str y, rfl, rfl, hS, ay, rfl, _, rfl, ite2 (fun e2 => ?_) fun e2 => ?_⟩
      · have ey : y = "//" := V.str.inj (of_decide_eq_true e2)
        have dm := divM_two pre y z most hp
        rw [if_pos ey] at dm
        have cutp : cutV ((pre ++ [y, z]).map V.str) none (some (-(2 : Nat))) = pre.map V.str := by
          rw [cut_back (by decide), l2, Nat.add_sub_cancel, List.map_append, List.take_left' (by simp)]
        refine ⟨_, rfl, 1, rfl, a, _, -(1 : Nat), .str z, rfl, rfl, hS, az, z, rfl, hw z (by simp), ?_⟩
        refine ⟨_, rfl, 2, rfl, -(2 : Nat), rfl, a, _, rfl, hS, fun l hl1 => ?_⟩
        rw [cutp]
        have tl := same_new (o := .lst (pre.map V.str)) hl1
        have lp : pre.length ≤ 1000000 := by
          rw [List.length_append] at hl
          omega
        refine ⟨l, pre, rfl, SqL.of upd_same, lp, fun x hx => hw x (List.mem_append_left _ hx), fun e0 H1 s1 => ?_, fun ts e1 p refs H1 s1 n1 h1 pr => ?_⟩
        · exact ⟨_, _, rfl, _, rfl, _, rfl, q0 (by rw [dm, e0]) _ (tl.trans s1)⟩
        · have sH := tl.trans s1
          refine ⟨_, _, rfl, _, rfl, _, rfl, ?_⟩
          rcases hz : numM z with _ | m
          · exact ⟨_, rfl, _, rfl, q0 (by rw [dm, e1, hz]) _ sH⟩
          · refine ⟨_, rfl, _, rfl, ?_⟩
            refine ⟨_, rfl, _, _, rfl, rfl, _, rfl, ite2 (fun e3 => ?_) fun e3 => ?_⟩
            · have k3 : (2 : Int) ≤ (m : Int) := of_decide_eq_true e3
              refine ⟨_, rfl, _, _, rfl, rfl, _, rfl, ite2 (fun e4 => ?_) fun e4 => ?_⟩
              · have k4 : (m : Int) ≤ (most : Int) := of_decide_eq_true e4
                refine ⟨_, rfl, _, rfl, by show 2 ≤ sizeLine; decide, fun l2 hl2 => ?_⟩
                have t2 := same_new (o := .tup [.ref p, .int (m : Nat)]) hl2
                exact q1 (ts, some m) (by rw [dm, e1, hz]; exact if_pos ⟨by omega, by omega⟩) l2 _ (sH.trans t2) (sH.back hl2) ⟨p, refs, upd_same, t2 _ _ h1, t2.paired pr⟩
              · have k4 : ¬ (m : Int) ≤ (most : Int) := fun x => e4 (decide_eq_true x)
                exact q0 (by rw [dm, e1, hz]; exact if_neg (by omega)) _ sH
            · have k3 : ¬ (2 : Int) ≤ (m : Int) := fun x => e3 (decide_eq_true x)
              exact ⟨_, rfl, q0 (by rw [dm, e1, hz]; exact if_neg (by omega)) _ sH⟩
      · have ey : ¬ y = "//" := fun x => e2 (decide_eq_true (by rw [x]))
        refine whole ?_
        rw [divM_two pre y z most hp, if_neg ey]
    · refine whole (divM_few fun x => e (decide_eq_true ?_))
      rw [hlen]
      omega
end
end Pk
namespace Pk
open L2 PyProof.Rows PySem.Spec PySem
abbrev sWhole : Stmt := top 19
abbrev sShare : Stmt := top 20
abbrev sLine : Stmt := top 21
abbrev sCommon : Stmt := top 22
abbrev sShareAt : Stmt := top 23
abbrev sNeed : Stmt := top 24
abbrev sLeast : Stmt := top 25
/-! ### values of which it is known whether they are texts, ints, truths -/
def isStr : V → Bool
  | .str _ => true
  | _ => false
def isInt : V → Bool
  | .int _ => true
  | .bl _ => true
  | _ => false
def isBl : V → Bool
  | .bl _ => true
  | _ => false
structure Kd (K : PySem.W.Frag) (H : Hp) (x : V) (t : Value) : Prop where
  ty0 : ∀ H', Same H H' → TyX K H' x t
  st : PySem.W.kitOne K t (.type "str") = some (isStr x)
  it : PySem.W.kitOne K t (.type "int") = some (isInt x)
  bt : PySem.W.kitOne K t (.type "bool") = some (isBl x)
theorem Kd.ty {K : PySem.W.Frag} {H : Hp} {x : V} {t : Value} (k : Kd K H x t) : TyX K H x t := k.ty0 H (Same.refl H)
theorem Kd.mono {K : PySem.W.Frag} {H H' : Hp} {x : V} {t : Value} (k : Kd K H x t) (s : Same H H') : Kd K H' x t := ⟨fun H2 s2 => k.ty0 H2 (s.trans s2), k.st, k.it, k.bt⟩
theorem Kd.int {K : PySem.W.Frag} {H : Hp} {i : Int} : Kd K H (.int i) (.type "int") := ⟨fun _ _ => .base (.int i), kit_ty (r := false) (by decide +kernel), kit_ty (r := true) (by decide +kernel), kit_ty (r := false) (by decide +kernel)⟩
theorem Kd.bl {K : PySem.W.Frag} {H : Hp} {i : Bool} : Kd K H (.bl i) (.type "bool") := ⟨fun _ _ => .base (.bl i), kit_ty (r := false) (by decide +kernel), kit_ty (r := true) (by decide +kernel), kit_ty (r := true) (by decide +kernel)⟩
theorem Kd.non {K : PySem.W.Frag} {H : Hp} : Kd K H .non (.type "NoneType") := ⟨fun _ _ => .base .non, kit_ty (r := false) (by decide +kernel), kit_ty (r := false) (by decide +kernel), kit_ty (r := false) (by decide +kernel)⟩
theorem Kd.str {K : PySem.W.Frag} {H : Hp} {i : Str} : Kd K H (.str i) (.type "str") := ⟨fun _ _ => .base (.str i), kit_ty (r := true) (by decide +kernel), kit_ty (r := false) (by decide +kernel), kit_ty (r := false) (by decide +kernel)⟩
theorem Kd.lst {K : PySem.W.Frag} {H : Hp} {a : Addr} {xs : List V} (h : H a = some (.lst xs)) : Kd K H (.ref a) (.type "list") := ⟨fun _ s => .base (.lst (s _ _ h)), kit_ty (r := false) (by decide +kernel), kit_ty (r := false) (by decide +kernel), kit_ty (r := false) (by decide +kernel)⟩
theorem Kd.tup {K : PySem.W.Frag} {H : Hp} {a : Addr} {xs : List V} (h : H a = some (.tup xs)) : Kd K H (.ref a) (.type "tuple") := ⟨fun _ s => .base (.tup (s _ _ h)), kit_ty (r := false) (by decide +kernel), kit_ty (r := false) (by decide +kernel), kit_ty (r := false) (by decide +kernel)⟩
def wholeV : V → Bool
  | .int _ => true
  | _ => false
def spWhole (K : PySem.W.Frag) : Sp := fun vs H Q _ => ∃ (x : V) (t : Value), vs = [x] ∧ Kd K H x t ∧ Q (.bl (wholeV x)) H
section
variable {K : PySem.W.Frag} {P : Program} {w : World} {base : Heap} {mg : Str → Option Value}
theorem sc_is_whole : FnScope ["value"] ["value"] (defScope sWhole) := ⟨rfl, rfl, rfl, by decide +kernel, rfl, by decide +kernel, by decide +kernel⟩
theorem ok_is_whole {f : Addr} {fd : FuncData} (F : FunD K "is_whole" "is_whole" (defArgs sWhole) (defBody sWhole) (defScope sWhole) [] [] f fd) (mIsi : mg "isinstance" = none) (mInt : mg "int" = none) (mBool : mg "bool" = none) : FnOk P w K mg base CX0 1 f fd ["value"] (spWhole K) := by
  refine F.ok sc_is_whole (fun vs H Q E h => ?_) (fun cdv A outer s H vs Q E hr h => ?_)
  · obtain ⟨x, t, rfl, _⟩ := h
    rfl
  · obtain ⟨x, t, rfl, hk, q⟩ := h
    refine ⟨_, PSs.nox (pss_one (by exact (ps_ret (pe_and (pe_callB call_isi (by rfl) mIsi PyProof.Rows.boot_isinstance (pa_cons (pv 0) (pa_cons (pe_bltn (v := .ty "int") (by rfl) mInt (by decide +kernel) rfl) pa_nil))) (pe_one (pe_not (pe_callB call_isi (by rfl) mIsi PyProof.Rows.boot_isinstance (pa_cons (pv 0) (pa_cons (pe_bltn (v := .ty "bool") (by rfl) mBool (by decide +kernel) rfl) pa_nil))))))))), ?_⟩
    refine ⟨_, rfl, x, _, t, _, _, rfl, .ty "int", hk.ty, hk.it, _, rfl, ite2 (fun e => ?_) fun e => ?_⟩
    · refine ⟨_, rfl, x, _, t, _, _, rfl, .ty "bool", hk.ty, hk.bt, _, rfl, ?_⟩
      cases x with
      | int i => exact q
      | bl b => exact q
      | _ => cases e
    · cases x with
      | int i => exact absurd rfl e
      | bl b => exact absurd rfl e
      | _ => exact q
/-! ### sums, shares as numbers -/
def LineAt (H : Hp) (p : Addr) (l : Line) : Prop := H p = some (.tup [.int l.s, .int l.c, .int (l.d : Nat)])
def spCommon : Sp := fun vs H Q _ => ∃ a b : Nat, vs = [.int a, .int b] ∧ 0 < a ∧ 0 < b ∧ Q (.int (Nat.lcm a b)) H
theorem sc_common : FnScope ["one", "other", "found"] ["one", "other"] (defScope sCommon) := ⟨rfl, rfl, rfl, by decide +kernel, rfl, by decide +kernel, by decide +kernel⟩
theorem ok_common {f : Addr} {fd : FuncData} (F : FunD K "common" "common" (defArgs sCommon) (defBody sCommon) (defScope sCommon) [] [] f fd) : FnOk P w K mg base CX0 1 f fd ["one", "other"] spCommon := by
  refine F.ok sc_common (fun vs H Q E h => ?_) (fun cdv A outer s H vs Q E hr h => ?_)
  · obtain ⟨a, b, rfl, _⟩ := h
    rfl
  · obtain ⟨a, b, rfl, ha, hb, q⟩ := h
    refine ⟨_, PSs.nox (pss_cons (by exact (ps_set (i := 2) sc_common.nd rfl (Or.inl rfl) (pv 0))) (pss_cons (by exact (ps_while PassesOwn.never (pt_cmpR op_gt (pe_op op_mod (pv 2) (pv 1)) pe_int (nomark _)) (pss_one (by exact (ps_aug (i := 2) sc_common.nd rfl (Or.inl rfl) (pv 0) iop_add))))) (pss_one (by exact (ps_ret (pv 2)))))), ?_⟩
    refine ⟨_, rfl, while_by (fun σ H' => ∃ j : Nat, σ = [some (.int a), some (.int b), some (.int ((a * j : Nat) : Int))] ∧ H' = H ∧ 0 < j ∧ a * j ≤ Nat.lcm a b) (fun σ H' => match σ with
      | [_, _, some (.int z)] => Nat.lcm a b - z.toNat
      | _ => 0) ⟨1, by rw [Nat.mul_one]; rfl, rfl, by decide, by rw [Nat.mul_one]; exact Nat.le_of_dvd (Nat.lcm_pos ha hb) (Nat.dvd_lcm_left a b)⟩ ?_ ?_⟩
    · rintro σ H' ⟨j, rfl, rfl, hj, hle⟩
      refine ⟨_, rfl, _, rfl, _, _, rfl, rfl, by show (0 : Int) < (b : Int); omega, _, _, rfl, rfl, _, rfl, ite2 (fun e => ?_) fun e => ?_⟩
      · have k : (0 : Int) < ((a * j : Nat) : Int) % (b : Int) := of_decide_eq_true e
        have nd : ¬ b ∣ a * j := fun z => by
          have y : (a * j) % b = 0 := Nat.mod_eq_zero_of_dvd z
          have y2 : (((a * j) % b : Nat) : Int) = 0 := by rw [y]; rfl
          rw [Int.natCast_emod] at y2
          omega
        have lt : a * j < Nat.lcm a b := Nat.lt_of_le_of_ne hle fun z => nd (by rw [z]; exact Nat.dvd_lcm_right a b)
        have nx : a * (j + 1) ≤ Nat.lcm a b := by
          obtain ⟨m, hm⟩ := Nat.dvd_lcm_left a b
          rw [hm] at lt ⊢
          exact Nat.mul_le_mul_left a (Nat.lt_of_mul_lt_mul_left lt)
        refine ⟨_, rfl, _, rfl, _, _, rfl, rfl, ⟨j + 1, ?_, rfl, Nat.succ_pos j, nx⟩, ?_⟩
        · have e3 : ((a * j : Nat) : Int) + (a : Int) = ((a * (j + 1) : Nat) : Int) := by
            rw [Nat.mul_succ]
            exact (Int.natCast_add _ _).symm
          show [some (V.int a), some (V.int b), some (V.int (((a * j : Nat) : Int) + (a : Int)))] = _
          rw [e3]
        · show Nat.lcm a b - (((a * j : Nat) : Int) + (a : Int)).toNat < Nat.lcm a b - ((a * j : Nat) : Int).toNat
          omega
      · have k : ¬ (0 : Int) < ((a * j : Nat) : Int) % (b : Int) := fun z => e (decide_eq_true z)
        have hd : b ∣ a * j := by
          refine Nat.dvd_of_mod_eq_zero ?_
          have y2 : (((a * j) % b : Nat) : Int) = ((a * j : Nat) : Int) % (b : Int) := Int.natCast_emod _ _
          omega
        have le := Nat.le_of_dvd (Nat.mul_pos ha hj) (Nat.lcm_dvd (Nat.dvd_mul_right a j) hd)
        have ee : a * j = Nat.lcm a b := Nat.le_antisymm hle le
        refine ⟨_, rfl, ?_⟩
        rw [ee]
        exact q
    · rintro σ H' R R' hm ⟨x, hx, y, hy, i, j, rfl, rfl, hc, i2, j2, h1, h2, z, hz, r⟩
      exact ⟨_, hx, _, hy, i, j, rfl, rfl, hc, i2, j2, h1, h2, z, hz, hm _ _ r⟩
def spShareAt : Sp := fun vs H Q _ => ∃ (p : Addr) (l : Line) (k : Int), vs = [.ref p, .int k] ∧ LineAt H p l ∧ 0 < l.d ∧ l.d < 2 ^ 400 ∧ l.s.natAbs < 2 ^ 400 ∧ k.natAbs < 2 ^ 400 ∧ Q (.int (l.at_ k)) H
theorem sc_share_at : FnScope ["share", "k"] ["share", "k"] (defScope sShareAt) := ⟨rfl, rfl, rfl, by decide +kernel, rfl, by decide +kernel, by decide +kernel⟩
theorem ok_share_at {f : Addr} {fd : FuncData} (F : FunD K "share_at" "share_at" (defArgs sShareAt) (defBody sShareAt) (defScope sShareAt) [] [] f fd) : FnOk P w K mg base CX0 1 f fd ["share", "k"] spShareAt := by
  refine F.ok sc_share_at (fun vs H Q E h => ?_) (fun cdv A outer s H vs Q E hr h => ?_)
  · obtain ⟨p, l, k, rfl, _⟩ := h
    rfl
  · obtain ⟨p, l, k, rfl, hp, d0, d1, s1, k1, q⟩ := h
    refine ⟨_, PSs.nox (pss_one (by exact (ps_ret (pe_op op_fdivW (pe_op op_add (pe_op op_mulW (pe_ix (ix_tupK K rfl) (pv 0) pe_int (fun _ _ => rfl)) (pv 1)) (pe_ix (ix_tupK K rfl) (pv 0) pe_int (fun _ _ => rfl))) (pe_ix (ix_tupK K rfl) (pv 0) pe_int (fun _ _ => rfl)))))), ?_⟩
    refine ⟨_, rfl, p, _, _, .int l.s, rfl, rfl, SqT.of hp, rfl, _, rfl, _, _, rfl, rfl, wide_mul s1 k1 (by decide) (by decide) (by decide), ?_⟩
    refine ⟨_, rfl, p, _, _, .int l.c, rfl, rfl, SqT.of hp, rfl, _, _, rfl, rfl, ?_⟩
    exact ⟨_, rfl, p, _, _, .int (l.d : Nat), rfl, rfl, SqT.of hp, rfl, _, _, rfl, rfl, wide_div (b := 400) (by omega) (by omega) (by decide) (by decide), q⟩
def leastM (first slope constant : Int) : Option (Int × Option Int) :=
  if slope = 0 then (if 0 ≤ constant then some (first, none) else none) else if 0 < slope then some (if -(constant / slope) > first then -(constant / slope) else first, none) else if first ≤ constant / (-slope) then some (first, some (constant / (-slope))) else none
def intV : Option Int → V
  | some n => .int n
  | none => .non
def OptAt (H : Hp) (v : V) : Option (Int × Option Int) → Prop
  | none => v = .non
  | some z => ∃ p, v = .ref p ∧ H p = some (.tup [.int z.1, intV z.2])
def spLeast : Sp := fun vs H Q _ => ∃ a b c : Int, vs = [.int a, .int b, .int c] ∧ b.natAbs < 2 ^ 400 ∧ ∀ v H', Same H H' → OptAt H' v (leastM a b c) → Q v H'
theorem sc_least_from : FnScope ["first", "slope", "constant", "last"] ["first", "slope", "constant"] (defScope sLeast) := ⟨rfl, rfl, rfl, by decide +kernel, rfl, by decide +kernel, by decide +kernel⟩
theorem ok_least_from {f : Addr} {fd : FuncData} (F : FunD K "least_from" "least_from" (defArgs sLeast) (defBody sLeast) (defScope sLeast) [] [] f fd) (mMax : mg "max" = none) : FnOk P w K mg base CX0 1 f fd ["first", "slope", "constant"] spLeast := by
  refine F.ok sc_least_from (fun vs H Q E h => ?_) (fun cdv A outer s H vs Q E hr h => ?_)
  · obtain ⟨a, b, c, rfl, _⟩ := h
    rfl
  · obtain ⟨a, b, c, rfl, hb, q⟩ := h
    have q0 : leastM a b c = none → Q .non H := fun e => q .non H (Same.refl H) (by rw [e]; rfl)
    have q1 : ∀ x y, leastM a b c = some (x, y) → ∀ p, H p = none → Q (.ref p) (upd H p (.tup [.int x, intV y])) := fun x y e p hp => q _ _ (same_new hp) (by rw [e]; exact ⟨p, rfl, upd_same⟩)
    refine ⟨_, PSs.nox (pss_cons (by exact (ps_if (pt_cmpR op_eq (pv 1) pe_int (nomark _)) (pss_one (by exact (ps_ret (pe_ifExp (pt_cmpR op_ge (pv 2) pe_int (nomark _)) (pe_tup (pa_cons (pv 0) (pa_cons pe_non pa_nil))) pe_non)))) pss_nil)) (pss_cons (by exact (ps_if (pt_cmpR op_gt (pv 1) pe_int (nomark _)) (pss_one (by exact (ps_ret (pe_tup (pa_cons (pe_callB (call_max2 rfl) (by rfl) mMax (by decide +kernel) (pa_cons (pv 0) (pa_cons (pe_un un_neg (pe_op op_fdivW (pv 2) (pv 1))) pa_nil))) (pa_cons pe_non pa_nil)))))) pss_nil)) (pss_cons (by exact (ps_set (i := 3) sc_least_from.nd rfl (Or.inl rfl) (pe_op op_fdivW (pv 2) (pe_un un_neg (pv 1))))) (pss_one (by exact (ps_ret (pe_ifExp (pt_cmpR op_le (pv 0) (pv 3) (nomark _)) (pe_tup (pa_cons (pv 0) (pa_cons (pv 3) pa_nil))) pe_non))))))), ?_⟩
    refine ⟨_, rfl, rfl, _, rfl, ite2 (fun e => ?_) fun e => ?_⟩
    · have e0 : b = 0 := V.int.inj (of_decide_eq_true e)
      refine ⟨_, rfl, _, _, rfl, rfl, _, rfl, ite2 (fun e1 => ?_) fun e1 => ?_⟩
      · exact ⟨_, rfl, by show 2 ≤ sizeLine; decide, fun p hp => q1 a none (by unfold leastM; rw [if_pos e0, if_pos (of_decide_eq_true e1)]) p hp⟩
      · exact q0 (by unfold leastM; rw [if_pos e0, if_neg fun z => e1 (decide_eq_true z)])
    have e0 : ¬ b = 0 := fun z => e (decide_eq_true (by rw [z]))
    refine ⟨_, rfl, _, _, rfl, rfl, _, rfl, ite2 (fun e1 => ?_) fun e1 => ?_⟩
    · have b0 : 0 < b := of_decide_eq_true e1
      refine ⟨_, rfl, _, rfl, _, rfl, _, _, rfl, rfl, wide_div (b := 400) b0 hb (by decide) (by decide), _, rfl, _, _, rfl, by show 2 ≤ sizeLine; decide, fun p hp => q1 _ none (by unfold leastM; rw [if_neg e0, if_pos b0]) p hp⟩
    · have b0 : ¬ 0 < b := fun z => e1 (decide_eq_true z)
      refine ⟨_, rfl, _, rfl, _, rfl, _, _, rfl, rfl, wide_div (b := 400) (by omega) (by omega) (by decide) (by decide), ?_⟩
      refine ⟨_, rfl, _, rfl, _, _, rfl, rfl, _, rfl, ite2 (fun e2 => ?_) fun e2 => ?_⟩
      · exact ⟨_, rfl, _, rfl, by show 2 ≤ sizeLine; decide, fun p hp => q1 a (some _) (by unfold leastM; rw [if_neg e0, if_neg b0, if_pos (of_decide_eq_true e2)]) p hp⟩
      · exact q0 (by unfold leastM; rw [if_neg e0, if_neg b0, if_neg fun z => e2 (decide_eq_true z)])
end
end Pk
namespace Pk
open L2 PyProof.Rows PySem.Spec PySem
def shareV : V → Option (List Term × Option Nat)
  | .str s => shareM s
  | _ => none
def okLen : V → Bool
  | .str s => decide (s.length ≤ 900000)
  | _ => true
/-- one field, one error -/
def Err1 (K : PySem.W.Frag) (x f : Str) (v : V) (H : Hp) (E : XK) : Prop := ∀ d H1, Same H H1 → H1 d = none → E (.ref (He.ga K x)) (some d) (upd H1 d (.xd [(f, v)]))
def spNeed (K : PySem.W.Frag) : Sp := fun vs H Q E => ∃ (x : V) (t : Value), vs = [x] ∧ Kd K H x t ∧ ((∀ k : Int, x = .int k → 1 ≤ k → Q .non H) ∧ ((∀ k : Int, x = .int k → ¬ 1 ≤ k) → Err1 K "BadCapacity" "k" x H E))
def spShare (K : PySem.W.Frag) : Sp := fun vs H Q E => ∃ (x : V) (t : Value), vs = [x] ∧ Kd K H x t ∧ okLen x = true ∧ (shareV x = none → Err1 K "BadSum" "text" x H E) ∧
  ∀ y, shareV x = some y → ∀ p H', Same H H' → H p = none → ShareAt H' p y → Q (.ref p) H'
theorem flat_name (o : Option Str) : flatV (nameV o) = true := by cases o <;> rfl
theorem rfl_name (o : Option Str) : scal (nameV o) (V.str "k") = true := by cases o <;> rfl
theorem inV_k (o : Option Str) : inV (nameV o) [.non, .str "k"] = (decide (o = none) || decide (o = some ("k" : Str))) := by
  cases o with
  | none => rfl
  | some s =>
    have q := inV_strs (x := s) (l := [("k" : Str)])
    have e : inV (nameV (some s)) [.non, .str "k"] = inV (.str s) (([("k" : Str)]).map V.str) := rfl
    rw [e, q]
    by_cases h : s = "k"
    · subst h
      simp
    · simp [h]
theorem any_kOnly (ts : List Term) : (ts.map fun t => !(decide (t.2 = none) || decide (t.2 = some ("k" : Str)))).any id = !(kOnly ts) := by
  unfold kOnly
  induction ts with
  | nil => rfl
  | cons t r ih => rw [List.map_cons, List.any_cons, ih, List.all_cons, Bool.not_and, id]
theorem divM_len {ws : List Str} {most : Nat} {ts : List Term} {m : Option Nat} (h : divM ws most = some (ts, m)) : ts.length ≤ 4 := by
  have s : ∀ {us : List Str} {ts : List Term}, sumM us = some ts → ts.length ≤ 4 := fun {us ts} e => by
    unfold sumM at e
    split at e
    · cases e
    · split at e
      · rename_i ok
        cases e
        unfold sumOk at ok
        exact of_decide_eq_true (Bool.and_eq_true_iff.mp ok).1
      · cases e
  unfold divM at h
  split at h
  · split at h
    · rename_i e _
      split at h
      · cases h
        exact s e
      · cases h
    · cases h
  · cases e : sumM ws with
    | none => (rw [e] at h; cases h)
    | some us =>
      rw [e] at h
      cases h
      exact s e
section
variable {K : PySem.W.Frag} {P : Program} {w : World} {base : Heap} {mg : Str → Option Value}
theorem sc_need_capacity : FnScope ["k"] ["k"] (defScope sNeed) := ⟨rfl, rfl, rfl, by decide +kernel, rfl, by decide +kernel, by decide +kernel⟩
theorem ok_need_capacity {f fW : Addr} {fd fdW : FuncData} (F : FunD K "need_capacity" "need_capacity" (defArgs sNeed) (defBody sNeed) (defScope sNeed) [] [] f fd) (FW : FunD K "is_whole" "is_whole" (defArgs sWhole) (defBody sWhole) (defScope sWhole) [] [] fW fdW)
    (GW : FnOk P w K mg base CX0 1 fW fdW ["value"] (spWhole K)) (gW : mg "is_whole" = some (.ref fW)) (ER : Errs P K mg) : FnOk P w K mg base (L2.CX P w) 3 f fd ["k"] (spNeed K) := by
  have bW : Binds K fdW ["value"] [] := FW.bindsN fun _ _ _ _ _ _ us hl => match us, hl with | [_], _ => rfl
  refine F.ok sc_need_capacity (fun vs H Q E h => ?_) (fun cdv A outer s H vs Q E hr h => ?_)
  · obtain ⟨x, t, rfl, _⟩ := h
    rfl
  · obtain ⟨x, t, rfl, hk, q, qe⟩ := h
    obtain ⟨fdI, IBadCapacity⟩ := ER.iBadCapacity
    refine ⟨_, (pss_one (by exact (ps_if (PW.pt (pw_or (pt_not (pt_val (pe_call GW (hr.mono (by decide)) rfl gW FW.kp bW .nil pass0 (pa_cons (pv 0) pa_nil)))) (pw_or1 (pt_cmpR op_lt (pv 0) pe_int (nomark _))))) (pss_one (by exact (ps_raise rfl (takes_of rfl rfl rfl rfl) (pmk_sup1 IBadCapacity.sup (okIBadCapacity IBadCapacity ER.mS ER.hP) (hr.mono (by decide)) (bIBadCapacity IBadCapacity) pass0 rfl (pv 0))))) pss_nil))), ?_⟩
    refine ⟨_, rfl, x, t, rfl, hk, _, rfl, ite2 (fun e => ?_) fun e => ?_⟩
    · refine ⟨_, rfl, fun d hd => qe (fun k z => ?_) d H (Same.refl H) hd⟩
      rw [z] at e
      cases e
    · obtain ⟨k, rfl⟩ : ∃ k, x = .int k := by
        cases x with
        | int k => exact ⟨k, rfl⟩
        | _ => exact absurd rfl e
      refine ⟨_, rfl, _, _, rfl, rfl, _, rfl, ite2 (fun e1 => ?_) fun e1 => ?_⟩
      · have k1 : k < 1 := of_decide_eq_true e1
        refine ⟨_, rfl, fun d hd => qe (fun j z => ?_) d H (Same.refl H) hd⟩
        cases z
        omega
      · have k1 : ¬ k < 1 := fun z => e1 (decide_eq_true z)
        exact q k rfl (by omega)
theorem sc_read_share : FnScope ["text", "found", "factor", "name"] ["text"] (defScope sShare) := ⟨rfl, rfl, rfl, by decide +kernel, rfl, by decide +kernel, by decide +kernel⟩
theorem ok_read_share {f fD : Addr} {fd fdD : FuncData} (F : FunD K "read_share" "read_share" (defArgs sShare) (defBody sShare) (defScope sShare) [] [] f fd) (FD : FunD K "divided" "divided" (defArgs sDiv) (defBody sDiv) (defScope sDiv) [] [] fD fdD)
    (GD : FnOk P w K mg base CX0 4 fD fdD ["words", "most"] (spDiv K)) (gD : mg "divided" = some (.ref fD)) (ER : Errs P K mg) (mIsi : mg "isinstance" = none) (mStr : mg "str" = none) (mAny : mg "any" = none) (gMS : ∃ u, mg "MOST_SHARE" = some u ∧ RelV (.int 6) u) : FnOk P w K mg base (L2.CX P w) 5 f fd ["text"] (spShare K) := by
  have bD : Binds K fdD ["words", "most"] [] := FD.bindsN fun _ _ _ _ _ _ us hl => match us, hl with | [_, _], _ => rfl
  refine F.ok sc_read_share (fun vs H Q E h => ?_) (fun cdv A outer s H vs Q E hr h => ?_)
  · obtain ⟨x, t, rfl, _⟩ := h
    rfl
  · obtain ⟨x, t, rfl, hk, hl, q0, q1⟩ := h
    obtain ⟨fdI, IBadSum⟩ := ER.iBadSum
    refine ⟨_, (pss_cons (by exact (ps_set (i := 1) sc_read_share.nd rfl (Or.inl rfl) (pe_ifExp (pt_val (pe_callB call_isi (by rfl) mIsi PyProof.Rows.boot_isinstance (pa_cons (pv 0) (pa_cons (pe_bltn (v := .ty "str") (by rfl) mStr (by decide +kernel) rfl) pa_nil)))) (pe_call GD hr rfl gD FD.kp bD .nil pass0 (pa_cons (pe_split (pv 0) pe_str) (pa_cons (C8.pe_gc (v := .int 6) rfl gMS) pa_nil))) pe_non))) (pss_cons (by exact (ps_if (PW.pt (pw_or (pt_cmp (pc_isN (pv 1))) (pw_or1 (pt_val (pe_callB (cr_any rfl) (by rfl) mAny (by decide +kernel) (pa_cons (pe_lc (own := [("factor", 2), ("name", 3)]) (tt := tYes) rfl sc_read_share.nd (pi_tup (pe_ix (ix_tupK K rfl) (pv 1) pe_int (fun _ _ => rfl))) (blkOk_by (N := ["text", "found", "factor", "name"]) (sc := defScope sShare) (by decide +kernel)) (fun _ _ _ _ _ => pg_tupK (n := 2) K rfl rfl (pgs_cons (pg_name (i := 2) sc_read_share.nd rfl (Or.inl rfl)) (pgs_cons (pg_name (i := 3) sc_read_share.nd rfl (Or.inl rfl)) pgs_nil))) (fun _ _ _ _ _ => pts_nil) (fun _ _ _ _ _ => (pe_cmpR (op_notInK K rfl) (pv 3) (pe_tup (pa_cons pe_non (pa_cons pe_str pa_nil))) rfl))) pa_nil)))))) (pss_one (by exact (ps_raise rfl (takes_of rfl rfl rfl rfl) (pmk_sup1 IBadSum.sup (okIBadSum IBadSum ER.mS ER.hP) (hr.mono (by decide)) (bIBadSum IBadSum) pass0 rfl (pv 0))))) pss_nil)) (pss_one (by exact (ps_ret (pv 1)))))), ?_⟩
    refine ⟨_, rfl, x, _, t, _, _, rfl, .ty "str", hk.ty, hk.st, _, rfl, ite2 (fun e => ?_) fun e => ?_⟩
    · obtain ⟨z, rfl⟩ : ∃ z, x = .str z := by
        cases x with
        | str z => exact ⟨z, rfl⟩
        | _ => cases e
      have zl : z.length ≤ 900000 := of_decide_eq_true hl
      obtain ⟨w1, w2⟩ := split_few z
      refine ⟨_, rfl, ⟨_, rfl⟩, z, " ", rfl, rfl, rfl, Nat.le_trans (Nat.add_le_add_right zl 2) (by decide), fun l hl1 => ?_⟩
      have tl := same_new (o := .lst ((Txt.split z " ").map V.str)) hl1
      refine ⟨l, _, 6, rfl, SqL.of upd_same, by omega, fun w hw => Nat.le_trans (w2 w hw) (by omega), fun e0 H1 s1 => ?_, fun y e1 p H1 s1 n1 sa => ?_⟩
      · have sH := tl.trans s1
        refine ⟨_, rfl, _, rfl, iteT ?_⟩
        refine ⟨_, rfl, fun d hd => q0 ?_ d H1 sH hd⟩
        show shareM z = none
        unfold shareM
        rw [e0]
      · have sH := tl.trans s1
        obtain ⟨ts, m⟩ := y
        obtain ⟨qa, refs, h1, h2, pr⟩ := id sa
        have sv : shareV (.str z) = if kOnly ts = true then some (ts, m) else none := by
          show shareM z = _
          unfold shareM
          rw [e1]
        refine ⟨_, rfl, _, rfl, iteF ?_⟩
        refine ⟨_, rfl, p, _, _, .ref qa, rfl, rfl, SqT.of h1, rfl, qa, rfl, ⟨_, SqT.of h2⟩, fun D hD => lc_tup (K := K) (a := qa) (xs := refs.map V.ref) (fun i H' => Same H1 H' ∧ H' D = some (.lst (((ts.take i).map fun t => !(decide (t.2 = none) || decide (t.2 = some ("k" : Str)))).map V.bl))) ⟨same_new hD, by rw [upd_same]; rfl⟩ (fun i H' _ h => SqT.of (h.1 _ _ h2)) ?_ ?_⟩
        · intro i y H' hi hp
          obtain ⟨r, hr1, rfl⟩ := ref_item hi
          obtain ⟨g, hg, hg2⟩ := paired_at pr hr1
          refine ⟨r, _, rfl, SqT.of (hp.1 _ _ hg2), rfl, _, _, rfl, _, _, rfl, rfl, rfl, ?_⟩
          refine ⟨_, rfl, by show 2 ≤ sizeLine; decide, fun t ht => ⟨t, _, rfl, .inr (SqT.of upd_same), flat_name g.2, rfl, _, (same_new ht) _ _ hp.2, ?_, fun b o e => ?_, ?_⟩⟩
          · rw [List.length_map, List.length_map]
            have l1 := divM_len e1
            exact Nat.lt_of_le_of_lt (List.length_take_le' _ _) (Nat.lt_of_le_of_lt l1 (by decide))
          · rw [upd_ne (fun z => by rw [z, hD] at e; cases e)]
            exact same_new ht _ _ (hp.1 b o e)
          · have tk : ts.take (i + 1) = ts.take i ++ [g] := by
              rw [List.take_succ, hg]
              rfl
            have ik : (if true = true then !inV (nameV g.2) [.non, .str "k"] else inV (nameV g.2) [.non, .str "k"]) = !(decide (g.2 = none) || decide (g.2 = some ("k" : Str))) := by
              rw [if_pos rfl, inV_k]
            rw [upd_same, tk, List.map_append, List.map_append, ik]
            rfl
        · intro H2 hp
          have e2 : ts.take (refs.map V.ref).length = ts := by
            rw [List.length_map, ← paired_len pr]
            exact List.take_length ..
          rw [e2] at hp
          obtain ⟨sm, hn⟩ := hp
          refine ⟨D, _, rfl, SqL.of hn, _, rfl, ?_⟩
          rw [any_kOnly]
          cases hk2 : kOnly ts with
          | false => exact ⟨_, rfl, fun d hd => q0 (by rw [sv, hk2]; rfl) d H2 (sH.trans sm) hd⟩
          | true => exact ⟨_, rfl, q1 (ts, m) (by rw [sv, hk2]; rfl) p H2 (sH.trans sm) (tl.free n1) (sa.same sm)⟩
    · refine ⟨_, rfl, _, rfl, iteT ⟨_, rfl, fun d hd => q0 ?_ d H (Same.refl H) hd⟩⟩
      cases x with
      | str z => exact absurd rfl e
      | _ => rfl
def spLine : Sp := fun vs H Q _ => ∃ (p : Addr) (x : List Term × Option Nat), vs = [.ref p] ∧ ShareAt H p x ∧ x.1.length ≤ 4 ∧ ∀ l H', Same H H' → H l = none → LineAt H' l (lineM x) → Q (.ref l) H'
theorem sc_line_of : FnScope ["share", "slope", "factor", "name", "constant"] ["share"] (defScope sLine) := ⟨rfl, rfl, rfl, by decide +kernel, rfl, by decide +kernel, by decide +kernel⟩
theorem ok_line_of {f : Addr} {fd : FuncData} (F : FunD K "line_of" "line_of" (defArgs sLine) (defBody sLine) (defScope sLine) [] [] f fd) (mSum : mg "sum" = none) : FnOk P w K mg base CX0 1 f fd ["share"] spLine := by
  refine F.ok sc_line_of (fun vs H Q E h => ?_) (fun cdv A outer s H vs Q E hr h => ?_)
  · obtain ⟨p, x, rfl, _⟩ := h
    rfl
  · obtain ⟨p, ⟨ts, m⟩, rfl, sa, hl, q⟩ := h
    obtain ⟨qa, refs, h1, h2, pr⟩ := id sa
    refine ⟨_, PSs.nox (pss_cons (by exact (ps_set (i := 1) sc_line_of.nd rfl (Or.inl rfl) (pe_callB (cr_sum rfl) (by rfl) mSum (by decide +kernel) (pa_cons (pe_lc (own := [("factor", 2), ("name", 3)]) rfl sc_line_of.nd (pi_tup (pe_ix (ix_tupK K rfl) (pv 0) pe_int (fun _ _ => rfl))) (blkOk_by (N := ["share", "slope", "factor", "name", "constant"]) (sc := defScope sLine) (by decide +kernel)) (fun _ _ _ _ _ => pg_tupK (n := 2) K rfl rfl (pgs_cons (pg_name (i := 2) sc_line_of.nd rfl (Or.inl rfl)) (pgs_cons (pg_name (i := 3) sc_line_of.nd rfl (Or.inl rfl)) pgs_nil))) (fun _ _ _ _ _ => (pts_one (pt_cmpR op_eq (pv 3) pe_str (nomark _)))) (fun _ _ _ _ _ => (pv 2))) pa_nil)))) (pss_cons (by exact (ps_set (i := 4) sc_line_of.nd rfl (Or.inl rfl) (pe_callB (cr_sum rfl) (by rfl) mSum (by decide +kernel) (pa_cons (pe_lc (own := [("factor", 2), ("name", 3)]) rfl sc_line_of.nd (pi_tup (pe_ix (ix_tupK K rfl) (pv 0) pe_int (fun _ _ => rfl))) (blkOk_by (N := ["share", "slope", "factor", "name", "constant"]) (sc := defScope sLine) (by decide +kernel)) (fun _ _ _ _ _ => pg_tupK (n := 2) K rfl rfl (pgs_cons (pg_name (i := 2) sc_line_of.nd rfl (Or.inl rfl)) (pgs_cons (pg_name (i := 3) sc_line_of.nd rfl (Or.inl rfl)) pgs_nil))) (fun _ _ _ _ _ => (pts_one (pt_cmp (pc_isN (pv 3))))) (fun _ _ _ _ _ => (pv 2))) pa_nil)))) (pss_one (by exact (ps_ret (pe_tup (pa_cons (pv 1) (pa_cons (pv 4) (pa_cons (pe_ifExp (pt_cmp (pc_isN (pe_ix (ix_tupK K rfl) (pv 0) pe_int (fun _ _ => rfl)))) pe_int (pe_ix (ix_tupK K rfl) (pv 0) pe_int (fun _ _ => rfl))) pa_nil))))))))), ?_⟩
    have lr := paired_len pr
    have hl' : ts.length ≤ 4 := hl
    have full : ts.take (refs.map V.ref).length = ts := by
      rw [List.length_map, ← lr]
      exact List.take_length ..
    have few : ∀ (i : Nat) (fn : Term → Option Int), ((ts.take i).filterMap fn).length < sizeLine := fun i fn =>
      Nat.lt_of_le_of_lt (Nat.le_trans (List.length_filterMap_le _ _) (List.length_take_le' _ _)) (Nat.lt_of_le_of_lt hl' (by decide))
    refine ⟨_, rfl, p, _, _, .ref qa, rfl, rfl, SqT.of h1, rfl, qa, rfl, ⟨_, SqT.of h2⟩, fun D hD => lc_tup (K := K) (a := qa) (xs := refs.map V.ref) (fun i H' => Same H H' ∧ H' D = some (.lst (((ts.take i).filterMap fun t => if t.2 = some ("k" : Str) then some t.1 else none).map V.int))) ⟨same_new hD, by rw [upd_same]; rfl⟩ (fun i H' _ h => SqT.of (h.1 _ _ h2)) ?_ ?_⟩
    · intro i y H' hi hp
      obtain ⟨r, hr1, rfl⟩ := ref_item hi
      obtain ⟨g, hg, hg2⟩ := paired_at pr hr1
      have tk : ts.take (i + 1) = ts.take i ++ [g] := by
        rw [List.take_succ, hg]
        rfl
      obtain ⟨g1, g2⟩ := g
      refine ⟨r, _, rfl, SqT.of (hp.1 _ _ hg2), rfl, _, _, rfl, _, _, rfl, rfl, rfl, ?_⟩
      refine ⟨_, rfl, rfl_name g2, _, rfl, ?_⟩
      by_cases hk : g2 = some ("k" : Str)
      · subst hk
        refine ⟨_, rfl, _, hp.2, by rw [List.length_map]; exact few i _, fun b o e => ?_, ?_⟩
        · rw [upd_ne (fun z => by rw [z, hD] at e; cases e)]
          exact hp.1 b o e
        · rw [upd_same, tk, List.filterMap_append, List.map_append]
          rfl
      · have e1 : decide (nameV g2 = V.str "k") = false := decide_eq_false fun z => hk (by
          cases g2 with
          | none => cases z
          | some s => exact congrArg some (V.str.inj z))
        rw [e1]
        refine ⟨hp.1, ?_⟩
        rw [tk, List.filterMap_append, show [((g1, g2) : Term)].filterMap (fun t => if t.2 = some ("k" : Str) then some t.1 else none) = [] from by simp [hk], List.append_nil]
        exact hp.2
    · intro H2 hp
      rw [full] at hp
      obtain ⟨sm, hn⟩ := hp
      refine ⟨D, _, rfl, SqL.of hn, ?_⟩
      have sa2 := sa.same sm
      obtain ⟨qb, refs2, k1, k2, pr2⟩ := id sa2
      have lr2 := paired_len pr2
      have full2 : ts.take (refs2.map V.ref).length = ts := by
        rw [List.length_map, ← lr2]
        exact List.take_length ..
      refine ⟨_, rfl, p, _, _, .ref qb, rfl, rfl, SqT.of k1, rfl, qb, rfl, ⟨_, SqT.of k2⟩, fun D2 hD2 => lc_tup (K := K) (a := qb) (xs := refs2.map V.ref) (fun i H' => Same H2 H' ∧ H' D2 = some (.lst (((ts.take i).filterMap fun t => if t.2 = none then some t.1 else none).map V.int))) ⟨same_new hD2, by rw [upd_same]; rfl⟩ (fun i H' _ h => SqT.of (h.1 _ _ k2)) ?_ ?_⟩
      · intro i y H' hi hp
        obtain ⟨r, hr1, rfl⟩ := ref_item hi
        obtain ⟨g, hg, hg2⟩ := paired_at pr2 hr1
        have tk : ts.take (i + 1) = ts.take i ++ [g] := by
          rw [List.take_succ, hg]
          rfl
        obtain ⟨g1, g2⟩ := g
        refine ⟨r, _, rfl, SqT.of (hp.1 _ _ hg2), rfl, _, _, rfl, _, _, rfl, rfl, rfl, ?_⟩
        cases g2 with
        | none =>
          refine ⟨_, rfl, _, rfl, ?_⟩
          refine ⟨_, rfl, _, hp.2, by rw [List.length_map]; exact few i _, fun b o e => ?_, ?_⟩
          · rw [upd_ne (fun z => by rw [z, hD2] at e; cases e)]
            exact hp.1 b o e
          · rw [upd_same, tk, List.filterMap_append, List.map_append]
            rfl
        | some nm =>
          refine ⟨_, rfl, _, rfl, ?_⟩
          refine ⟨hp.1, ?_⟩
          rw [tk, List.filterMap_append, show [((g1, some nm) : Term)].filterMap (fun t => if t.2 = none then some t.1 else none) = [] from rfl, List.append_nil]
          exact hp.2
      · intro H3 hp
        rw [full2] at hp
        obtain ⟨sm3, hn3⟩ := hp
        refine ⟨D2, _, rfl, SqL.of hn3, ?_⟩
        have k1' := sm3 _ _ k1
        have sF := sm.trans sm3
        have fin : ∀ l, H3 l = none → ∀ d : Int, d = ((m.getD 1 : Nat) : Int) → Q (.ref l) (upd H3 l (.tup [.int (slopeT ts), .int (constT ts), .int d])) := fun l hl d hd => by
          subst hd
          exact q l _ (sF.step hl) (sF.free hl) upd_same
        refine ⟨_, rfl, _, rfl, _, rfl, p, _, _, natV m, rfl, rfl, SqT.of k1', rfl, ?_⟩
        cases m with
        | none => exact ⟨_, rfl, by show 3 ≤ sizeLine; decide, fun l hl => fin l hl 1 rfl⟩
        | some n => exact ⟨_, rfl, _, rfl, p, _, _, natV (some n), rfl, rfl, SqT.of k1', rfl, by show 3 ≤ sizeLine; decide, fun l hl => fin l hl n rfl⟩
end
end Pk
namespace Pk
open L2 PyProof.Rows PySem.Spec PySem
abbrev sRI : Stmt := inClass (top 26) 0
def STYL : List Str := ["taken", "copied"]
def styV : V → Option Str
  | .str s => if s ∈ STYL then some s else none
  | _ => none
def rulesF (os cs ls : Addr) (sty cap low root : V) : List (Str × V) := [("own_shares", .ref os), ("cap_share", .ref cs), ("low_share", .ref ls), ("style", sty), ("cap", cap), ("low", low), ("root", root)]
structure RulesC (K : PySem.W.Frag) (mg : Str → Option Value) (C fI : Addr) : Prop where
  cls : Cls K C
  made : Mk K C fI
  g : mg "Rules" = some (.ref C)
  no : ∀ f ∈ (["own_shares", "cap_share", "low_share", "style", "cap", "low", "root"] : List Str), NoAttr K C f
abbrev Share := List Term × Option Nat
def RulesAt (C : Addr) (H : Hp) (r : Addr) (sty : Str) (cap low root : V) (x1 x2 : Share) : Prop := ∃ dx os p1 p2 cs ls, H r = some (.ins C dx (rulesF os cs ls (.str sty) cap low root)) ∧ shareV cap = some x1 ∧ shareV low = some x2 ∧
  H os = some (.tup [.ref p1, .ref p2]) ∧ ShareAt H p1 x1 ∧ ShareAt H p2 x2 ∧ LineAt H cs (lineM x1) ∧ LineAt H ls (lineM x2)
theorem RulesAt.same {C : Addr} {H H' : Hp} {r : Addr} {sty : Str} {cap low root : V} {x1 x2 : Share} (h : RulesAt C H r sty cap low root x1 x2) (s : Same H H') : RulesAt C H' r sty cap low root x1 x2 := by
  obtain ⟨dx, os, p1, p2, cs, ls, h1, h2, h3, h4, h5, h6, h7, h8⟩ := h
  exact ⟨dx, os, p1, p2, cs, ls, s _ _ h1, h2, h3, s _ _ h4, h5.same s, h6.same s, s _ _ h7, s _ _ h8⟩
def spInit (K : PySem.W.Frag) (C : Addr) : Sp := fun vs H Q E => ∃ (r dx : Addr) (a b c d : V) (ta tb tc : Value), vs = [.ref r, a, b, c, d] ∧ H r = some (.ins C dx []) ∧ Kd K H a ta ∧ Kd K H b tb ∧ Kd K H c tc ∧ okLen b = true ∧ okLen c = true ∧
  (styV a = none → Err1 K "BadStyle" "style" a H E) ∧ ∀ sty, styV a = some sty → (shareV b = none → Err1 K "BadSum" "text" b H E) ∧ ∀ x1, shareV b = some x1 → (shareV c = none → Err1 K "BadSum" "text" c H E) ∧ ∀ x2, shareV c = some x2 → ∀ H', KeepB r H H' → RulesAt C H' r sty b c d x1 x2 → Q .non H'
theorem Err1.weak {K : PySem.W.Frag} {x f : Str} {v : V} {H H' : Hp} {E : XK} (h : Err1 K x f v H E) (s : Same H H') : Err1 K x f v H' E := fun d H1 s1 n => h d H1 (s.trans s1) n
/-- tuples stand -/
def TK (H H' : Hp) : Prop := ∀ a xs, H a = some (.tup xs) → H' a = some (.tup xs)
theorem TK.trans {H H1 H2 : Hp} (x : TK H H1) (y : TK H1 H2) : TK H H2 := fun a xs e => y a xs (x a xs e)
theorem _root_.L2.Same.tk {H H' : Hp} (s : Same H H') : TK H H' := fun a xs e => s _ _ e
theorem TK.ins {H : Hp} {r C dx : Addr} {fs : List (Str × V)} {o : HO} (h : H r = some (.ins C dx fs)) : TK H (upd H r o) := fun a xs e => by
  rw [upd_ne (ne_of e h (by intro z; cases z))]
  exact e
theorem ShareAt.tk {H H' : Hp} {p : Addr} {x : List Term × Option Nat} (h : ShareAt H p x) (s : TK H H') : ShareAt H' p x := by
  obtain ⟨q, refs, h1, h2, h3⟩ := h
  exact ⟨q, refs, s _ _ h1, s _ _ h2, L2.Paired.mapP h3 fun _ _ e => s _ _ e⟩
theorem shareV_len {v : V} {x : Share} (h : shareV v = some x) : x.1.length ≤ 4 := by
  obtain ⟨ts, m⟩ := x
  cases v with
  | str s =>
    have e : shareM s = some (ts, m) := h
    unfold shareM at e
    split at e
    · cases e
    · rename_i us n d
      split at e
      · cases e
        exact divM_len d
      · cases e
  | _ => cases h
section
variable {K : PySem.W.Frag} {P : Program} {w : World} {base : Heap} {mg : Str → Option Value}
theorem sc_Rules___init__ : FnScope ["self", "style", "cap", "low", "root"] ["self", "style", "cap", "low", "root"] (defScope sRI) := ⟨rfl, rfl, rfl, by decide +kernel, rfl, by decide +kernel, by decide +kernel⟩
theorem ok_Rules_init {C f fS fL : Addr} {fd fdS fdL : FuncData} {dv : List V} (F : FunD K "__init__" "Rules.__init__" (defArgs sRI) (defBody sRI) (defScope sRI) dv [] f fd) (RC : RulesC K mg C f)
    (FS : FunD K "read_share" "read_share" (defArgs sShare) (defBody sShare) (defScope sShare) [] [] fS fdS) (FL : FunD K "line_of" "line_of" (defArgs sLine) (defBody sLine) (defScope sLine) [] [] fL fdL)
    (GS : FnOk P w K mg base (L2.CX P w) 5 fS fdS ["text"] (spShare K)) (GL : FnOk P w K mg base CX0 1 fL fdL ["share"] spLine) (gRS : mg "read_share" = some (.ref fS)) (gL : mg "line_of" = some (.ref fL)) (ER : Errs P K mg) (mIsi : mg "isinstance" = none) (mStr : mg "str" = none)
    {aS : Addr} (gS : ∃ u, mg "STYLES" = some u ∧ RelV (.ref aS) u) (tS : ∀ H, SqT K H aS (STYL.map V.str)) : FnOk P w K mg base (L2.CX P w) 6 f fd ["self", "style", "cap", "low", "root"] (spInit K C) := by
  have bS : Binds K fdS ["text"] [] := FS.bindsN fun _ _ _ _ _ _ us hl => match us, hl with | [_], _ => rfl
  have bL : Binds K fdL ["share"] [] := FL.bindsN fun _ _ _ _ _ _ us hl => match us, hl with | [_], _ => rfl
  refine F.ok sc_Rules___init__ (fun vs H Q E h => ?_) (fun cdv A outer s H vs Q E hr h => ?_)
  · obtain ⟨r, dx, a, b, c, d, ta, tb, tc, rfl, _⟩ := h
    rfl
  · obtain ⟨r, dx, a, b, c, d, ta, tb, tc, rfl, hR, ka, kb, kc, lb, lc, q0, q⟩ := h
    obtain ⟨fdI, IBadStyle⟩ := ER.iBadStyle
    refine ⟨_, (pss_cons (by exact (ps_if (PW.pt (pw_or (pt_not (pt_val (pe_callB call_isi (by rfl) mIsi PyProof.Rows.boot_isinstance (pa_cons (pv 1) (pa_cons (pe_bltn (v := .ty "str") (by rfl) mStr (by decide +kernel) rfl) pa_nil))))) (pw_or1 (pt_cmpR (op_notInK K rfl) (pv 1) (C8.pe_gc (v := .ref aS) rfl gS) rfl)))) (pss_one (by exact (ps_raise rfl (takes_of rfl rfl rfl rfl) (pmk_sup1 IBadStyle.sup (okIBadStyle IBadStyle ER.mS ER.hP) (hr.mono (by decide)) (bIBadStyle IBadStyle) pass0 rfl (pv 1))))) pss_nil)) (pss_cons (by exact (ps_fld (pv 0) (pe_tup (pa_cons (pe_callS GS hr rfl gRS FS.kp bS (fun σ => passAt (takes_of rfl rfl rfl rfl) σ) (pa_cons (pv 2) pa_nil)) (pa_cons (pe_callS GS hr rfl gRS FS.kp bS (fun σ => passAt (takes_of rfl rfl rfl rfl) σ) (pa_cons (pv 3) pa_nil)) pa_nil))) rfl)) (pss_cons (by exact (ps_fld (pv 0) (pe_call GL (hr.mono (by decide)) rfl gL FL.kp bL .nil pass0 (pa_cons (pe_ix (ix_tupK K rfl) (pe_fld (pv 0) rfl) pe_int (fun _ _ => rfl)) pa_nil)) rfl)) (pss_cons (by exact (ps_fld (pv 0) (pe_call GL (hr.mono (by decide)) rfl gL FL.kp bL .nil pass0 (pa_cons (pe_ix (ix_tupK K rfl) (pe_fld (pv 0) rfl) pe_int (fun _ _ => rfl)) pa_nil)) rfl)) (pss_cons (by exact (ps_fld (pv 0) (pv 1) rfl)) (pss_cons (by exact (ps_fld (pv 0) (pv 2) rfl)) (pss_cons (by exact (ps_fld (pv 0) (pv 3) rfl)) (pss_one (by exact (ps_fld (pv 0) (pv 4) rfl)))))))))), ?_⟩
    refine ⟨_, rfl, a, _, ta, _, _, rfl, .ty "str", ka.ty, ka.st, _, rfl, ite2 (fun e => ?_) fun e => ?_⟩
    · refine ⟨_, rfl, fun dd hd => q0 ?_ dd H (Same.refl H) hd⟩
      cases a with
      | str z => cases e
      | _ => rfl
    obtain ⟨z, rfl⟩ : ∃ z, a = .str z := by
      cases a with
      | str z => exact ⟨z, rfl⟩
      | _ => exact absurd rfl e
    refine ⟨_, rfl, aS, _, rfl, .inr (tS _), rfl, flat_strs, _, rfl, ite2 (fun e2 => ?_) fun e2 => ?_⟩
    · have m : ¬ z ∈ STYL := fun y => by
        have x : (!inV (V.str z) (STYL.map V.str)) = true := e2
        rw [inV_strs, decide_eq_true y] at x
        cases x
      exact ⟨_, rfl, fun dd hd => q0 (if_neg m) dd H (Same.refl H) hd⟩
    have m : z ∈ STYL := Classical.byContradiction fun y => e2 (show (!inV (V.str z) (STYL.map V.str)) = true by rw [inV_strs, decide_eq_false y]; rfl)
    obtain ⟨q1, q2⟩ := q z (if_pos m)
    refine ⟨_, rfl, b, tb, rfl, kb, lb, q1, fun x1 e3 p1 H1 s1 n1 sa1 => ?_⟩
    obtain ⟨q3, q4⟩ := q2 x1 e3
    refine ⟨_, rfl, c, tc, rfl, kc.mono s1, lc, fun z => (q3 z).weak s1, fun x2 e4 p2 H2 s2 n2 sa2 => ?_⟩
    have fin := q4 x2 e4
    refine ⟨by show 2 ≤ sizeLine; decide, fun os hos => ?_⟩
    have sA := (s1.trans s2).step (o := .tup [.ref p1, .ref p2]) hos
    have sR := sA _ _ hR
    have so : upd H2 os (.tup [.ref p1, .ref p2]) os = some (.tup [.ref p1, .ref p2]) := upd_same
    have sa1' : ShareAt (upd H2 os (.tup [.ref p1, .ref p2])) p1 x1 := (sa1.same s2).same (same_new hos)
    have sa2' : ShareAt (upd H2 os (.tup [.ref p1, .ref p2])) p2 x2 := sa2.same (same_new hos)
    have no := RC.no
    refine ⟨_, rfl, r, C, dx, [], rfl, sR, RC.cls, no _ (by simp), by show 0 < 1000; decide, ?_⟩
    have t1 : TK (upd H2 os (.tup [.ref p1, .ref p2])) _ := TK.ins (o := .ins C dx [("own_shares", .ref os)]) sR
    have w1 : KeepB r H _ := sA.keepB.trans (KeepB.upd (o := .ins C dx [("own_shares", .ref os)]))
    refine ⟨_, rfl, r, C, dx, _, .ref os, rfl, upd_same, RC.cls, no _ (by simp), rfl, os, _, 0, .ref p1, rfl, rfl, SqT.of (t1 _ _ so), rfl, p1, x1, rfl, sa1'.tk t1, shareV_len e3, fun cs H3 s3 n3 l3 => ?_⟩
    have r3 := s3 _ _ (upd_same (a := r) (o := HO.ins C dx [("own_shares", .ref os)]))
    refine ⟨_, rfl, r, C, dx, _, rfl, r3, RC.cls, no _ (by simp), by show 1 < 1000; decide, ?_⟩
    have t3 := (t1.trans s3.tk).trans (TK.ins (o := .ins C dx [("own_shares", .ref os), ("cap_share", .ref cs)]) r3)
    have w3 := (w1.trans s3.keepB).trans (KeepB.upd (o := .ins C dx [("own_shares", .ref os), ("cap_share", .ref cs)]))
    have l3' := (TK.ins (o := .ins C dx [("own_shares", .ref os), ("cap_share", .ref cs)]) r3) _ _ l3
    refine ⟨_, rfl, r, C, dx, _, .ref os, rfl, upd_same, RC.cls, no _ (by simp), rfl, os, _, 1, .ref p2, rfl, rfl, SqT.of (t3 _ _ so), rfl, p2, x2, rfl, sa2'.tk t3, shareV_len e4, fun ls H5 s5 n5 l5 => ?_⟩
    have r5 := s5 _ _ (upd_same (a := r) (o := HO.ins C dx [("own_shares", .ref os), ("cap_share", .ref cs)]))
    refine ⟨_, rfl, r, C, dx, _, rfl, r5, RC.cls, no _ (by simp), by show 2 < 1000; decide, ?_⟩
    refine ⟨_, rfl, _, rfl, r, C, dx, _, rfl, upd_same, RC.cls, no _ (by simp), by show 3 < 1000; decide, ?_⟩
    refine ⟨_, rfl, _, rfl, r, C, dx, _, rfl, upd_same, RC.cls, no _ (by simp), by show 4 < 1000; decide, ?_⟩
    refine ⟨_, rfl, _, rfl, r, C, dx, _, rfl, upd_same, RC.cls, no _ (by simp), by show 5 < 1000; decide, ?_⟩
    refine ⟨_, rfl, _, rfl, r, C, dx, _, rfl, upd_same, RC.cls, no _ (by simp), by show 6 < 1000; decide, ?_⟩
    rw [upd_upd, upd_upd, upd_upd, upd_upd]
    have last := TK.ins (o := .ins C dx (rulesF os cs ls (.str z) b c d)) r5
    have tF := (t3.trans s5.tk).trans last
    refine fin _ ((w3.trans s5.keepB).trans KeepB.upd) ⟨dx, os, p1, p2, cs, ls, upd_same, e3, e4, tF _ _ so, sa1'.tk tF, sa2'.tk tF, last _ _ (s5 _ _ l3'), last _ _ l5⟩
end
end Pk
namespace Pk
open L2 PyProof.Rows PySem.Spec PySem
/-! ### how great a share's numbers are -/
theorem sumGo_lt : ∀ (ws : List Str) (found : List Term) (term : List Str) (sign : Int) (ts : List Term), (sign = 1 ∨ sign = -1) → (∀ t ∈ found, t.1.natAbs < 10 ^ 30) → sumGo ws found term sign = some ts → ∀ t ∈ ts, t.1.natAbs < 10 ^ 30
  | [], found, term, sign, ts, _, h, e => by
    rw [sumGo] at e
    cases e
    exact h
  | w :: ws, found, term, sign, ts, hs, h, e => by
    rw [sumGo] at e
    split at e
    · split at e
      · cases e
      · rename_i n f ht
        refine sumGo_lt ws _ _ _ ts ?_ (fun t hm => ?_) e
        · split
          · exact .inl rfl
          · exact .inr rfl
        · rcases List.mem_append.mp hm with m | m
          · exact h t m
          · rw [List.mem_singleton.mp m]
            have q := termM_lt ht
            show (sign * (n : Int)).natAbs < 10 ^ 30
            rcases hs with z | z <;> rw [z] <;> omega
    · exact sumGo_lt ws _ _ _ ts hs h e
theorem sumM_lt {ws : List Str} {ts : List Term} (h : sumM ws = some ts) : ∀ t ∈ ts, t.1.natAbs < 10 ^ 30 := by
  unfold sumM at h
  split at h
  · cases h
  · rename_i us e
    split at h
    · cases h
      exact sumGo_lt _ _ _ _ _ (.inl rfl) (fun t m => by cases m) e
    · cases h
theorem divM_lt {ws : List Str} {most : Nat} {x : Share} (h : divM ws most = some x) : (∀ t ∈ x.1, t.1.natAbs < 10 ^ 30) ∧ (x.2 = none ∨ ∃ m, x.2 = some m ∧ 2 ≤ m ∧ m ≤ most) := by
  unfold divM at h
  split at h
  · split at h
    · rename_i e _
      split at h
      · rename_i b
        cases h
        exact ⟨sumM_lt e, .inr ⟨_, rfl, b.1, b.2⟩⟩
      · cases h
    · cases h
  · cases e : sumM ws with
    | none => (rw [e] at h; cases h)
    | some us =>
      rw [e] at h
      cases h
      exact ⟨sumM_lt e, .inl rfl⟩
theorem sum_lt : ∀ (l : List Int) (b : Nat), (∀ z ∈ l, z.natAbs < b) → l.sum.natAbs ≤ l.length * b
  | [], b, _ => by simp
  | z :: l, b, h => by
    have q := sum_lt l b fun y hy => h y (List.mem_cons_of_mem _ hy)
    have d := h z (by simp)
    rw [List.sum_cons, List.length_cons, Nat.succ_mul]
    omega
theorem shareV_lt {v : V} {x : Share} (h : shareV v = some x) : (lineM x).s.natAbs ≤ 4 * 10 ^ 30 ∧ (lineM x).c.natAbs ≤ 4 * 10 ^ 30 ∧ 1 ≤ (lineM x).d ∧ (lineM x).d ≤ 6 := by
  have l4 := shareV_len h
  have g : (∀ t ∈ x.1, t.1.natAbs < 10 ^ 30) ∧ (x.2 = none ∨ ∃ m, x.2 = some m ∧ 2 ≤ m ∧ m ≤ 6) := by
    cases v with
    | str s =>
      have e : shareM s = some x := h
      unfold shareM at e
      split at e
      · cases e
      · rename_i us n d
        split at e
        · cases e
          exact divM_lt d
        · cases e
    | _ => cases h
  have bnd : ∀ fn : Term → Option Int, (∀ t z, fn t = some z → z = t.1) → (x.1.filterMap fn).sum.natAbs ≤ 4 * 10 ^ 30 := fun fn hf => by
    have q := sum_lt (x.1.filterMap fn) (10 ^ 30) fun z hz => by
      obtain ⟨t, ht, e⟩ := List.mem_filterMap.mp hz
      rw [hf t z e]
      exact g.1 t ht
    have q2 : (x.1.filterMap fn).length ≤ 4 := Nat.le_trans (List.length_filterMap_le _ _) l4
    exact Nat.le_trans q (Nat.mul_le_mul_right _ q2)
  refine ⟨bnd _ fun t z e => ?_, bnd _ fun t z e => ?_, ?_⟩
  · split at e
    · exact (Option.some.inj e).symm
    · cases e
  · split at e
    · exact (Option.some.inj e).symm
    · cases e
  · show 1 ≤ x.2.getD 1 ∧ x.2.getD 1 ≤ 6
    rcases g.2 with e | ⟨m, e, h1, h2⟩
    · rw [e]
      decide
    · rw [e]
      exact ⟨by show 1 ≤ m; omega, h2⟩
theorem shA {v : V} {x : Share} (h : shareV v = some x) : 0 < (lineM x).d ∧ (lineM x).d < 2 ^ 400 ∧ (lineM x).s.natAbs < 2 ^ 400 := by
  obtain ⟨h1, _, h3, h4⟩ := shareV_lt h
  exact ⟨h3, Nat.lt_of_le_of_lt h4 (by decide), Nat.lt_of_le_of_lt h1 (by decide)⟩
abbrev sCapAt : Stmt := inClass (top 26) 1
abbrev sLowAt : Stmt := inClass (top 26) 2
abbrev sBounds : Stmt := inClass (top 26) 3
abbrev sInUse : Stmt := inClass (top 26) 6
def usedL (x1 x2 : Share) (k : Int) : Bool := decide (1 ≤ (lineM x2).at_ k) && decide ((lineM x2).at_ k ≤ (lineM x1).at_ k)
/-- asked at a capacity: the answer f, or BadCapacity -/
def spCapQ (K : PySem.W.Frag) (C : Addr) (f : Share → Share → Int → V) : Sp := fun vs H Q E => ∃ (r : Addr) (x : V) (t : Value) (sty : Str) (cap low root : V) (x1 x2 : Share), vs = [.ref r, x] ∧ RulesAt C H r sty cap low root x1 x2 ∧ Kd K H x t ∧ (∀ k : Int, x = .int k → k.natAbs < 2 ^ 400) ∧
  (∀ k : Int, x = .int k → 1 ≤ k → ∀ H', Same H H' → Q (f x1 x2 k) H') ∧ ((∀ k : Int, x = .int k → ¬ 1 ≤ k) → Err1 K "BadCapacity" "k" x H E)
def spBounds (C : Addr) : Sp := fun vs H Q _ => ∃ (r : Addr) (k : Int) (sty : Str) (cap low root : V) (x1 x2 : Share), vs = [.ref r, .int k] ∧ RulesAt C H r sty cap low root x1 x2 ∧ k.natAbs < 2 ^ 400 ∧
  ∀ p, H p = none → Q (.ref p) (upd H p (.tup [.int ((lineM x2).at_ k), .int ((lineM x1).at_ k)]))
section
variable {K : PySem.W.Frag} {P : Program} {w : World} {base : Heap} {mg : Str → Option Value} {C fI : Addr}
theorem sc_Rules_cap_at : FnScope ["self", "k"] ["self", "k"] (defScope sCapAt) := ⟨rfl, rfl, rfl, by decide +kernel, rfl, by decide +kernel, by decide +kernel⟩
theorem ok_Rules_cap_at {f fN fA : Addr} {fd fdN fdA : FuncData} (F : FunD K "cap_at" "Rules.cap_at" (defArgs sCapAt) (defBody sCapAt) (defScope sCapAt) [] [] f fd) (RC : RulesC K mg C fI)
    (FN : FunD K "need_capacity" "need_capacity" (defArgs sNeed) (defBody sNeed) (defScope sNeed) [] [] fN fdN) (FA : FunD K "share_at" "share_at" (defArgs sShareAt) (defBody sShareAt) (defScope sShareAt) [] [] fA fdA)
    (GN : FnOk P w K mg base (L2.CX P w) 3 fN fdN ["k"] (spNeed K)) (GA : FnOk P w K mg base CX0 1 fA fdA ["share", "k"] spShareAt) (gN : mg "need_capacity" = some (.ref fN)) (gA : mg "share_at" = some (.ref fA)) : FnOk P w K mg base (L2.CX P w) 4 f fd ["self", "k"] (spCapQ K C fun x1 x2 k => .int ((lineM x1).at_ k)) := by
  have bN : Binds K fdN ["k"] [] := FN.bindsN fun _ _ _ _ _ _ us hl => match us, hl with | [_], _ => rfl
  have bA : Binds K fdA ["share", "k"] [] := FA.bindsN fun _ _ _ _ _ _ us hl => match us, hl with | [_, _], _ => rfl
  refine F.ok sc_Rules_cap_at (fun vs H Q E h => ?_) (fun cdv A outer s H vs Q E hr h => ?_)
  · obtain ⟨r, x, t, sty, cap, low, root, x1, x2, rfl, _⟩ := h
    rfl
  · obtain ⟨r, x, t, sty, cap, low, root, x1, x2, rfl, R, kd, hb, q, qe⟩ := h
    obtain ⟨dx, os, p1, p2, cs, ls, h1, h2, h3, h4, h5, h6, h7, h8⟩ := R
    refine ⟨_, (pss_cons (by exact (ps_expr (pe_callS GN (hr.mono (by decide)) rfl gN FN.kp bN (fun σ => passAt (takes_of rfl rfl rfl rfl) σ) (pa_cons (pv 1) pa_nil)))) (pss_one (by exact (ps_ret (pe_call GA (hr.mono (by decide)) rfl gA FA.kp bA .nil pass0 (pa_cons (pe_fld (pv 0) rfl) (pa_cons (pv 1) pa_nil))))))), ?_⟩
    refine ⟨_, rfl, x, t, rfl, kd, fun k ek hk => ?_, qe⟩
    subst ek
    exact ⟨_, rfl, r, C, dx, _, .ref cs, rfl, h1, RC.cls, RC.no _ (by simp), rfl, _, rfl, _, _, k, rfl, h7, (shA h2).1, (shA h2).2.1, (shA h2).2.2, hb k rfl, q k rfl hk H (Same.refl H)⟩
theorem sc_Rules_low_at : FnScope ["self", "k"] ["self", "k"] (defScope sLowAt) := ⟨rfl, rfl, rfl, by decide +kernel, rfl, by decide +kernel, by decide +kernel⟩
theorem ok_Rules_low_at {f fN fA : Addr} {fd fdN fdA : FuncData} (F : FunD K "low_at" "Rules.low_at" (defArgs sLowAt) (defBody sLowAt) (defScope sLowAt) [] [] f fd) (RC : RulesC K mg C fI)
    (FN : FunD K "need_capacity" "need_capacity" (defArgs sNeed) (defBody sNeed) (defScope sNeed) [] [] fN fdN) (FA : FunD K "share_at" "share_at" (defArgs sShareAt) (defBody sShareAt) (defScope sShareAt) [] [] fA fdA)
    (GN : FnOk P w K mg base (L2.CX P w) 3 fN fdN ["k"] (spNeed K)) (GA : FnOk P w K mg base CX0 1 fA fdA ["share", "k"] spShareAt) (gN : mg "need_capacity" = some (.ref fN)) (gA : mg "share_at" = some (.ref fA)) : FnOk P w K mg base (L2.CX P w) 4 f fd ["self", "k"] (spCapQ K C fun x1 x2 k => .int ((lineM x2).at_ k)) := by
  have bN : Binds K fdN ["k"] [] := FN.bindsN fun _ _ _ _ _ _ us hl => match us, hl with | [_], _ => rfl
  have bA : Binds K fdA ["share", "k"] [] := FA.bindsN fun _ _ _ _ _ _ us hl => match us, hl with | [_, _], _ => rfl
  refine F.ok sc_Rules_low_at (fun vs H Q E h => ?_) (fun cdv A outer s H vs Q E hr h => ?_)
  · obtain ⟨r, x, t, sty, cap, low, root, x1, x2, rfl, _⟩ := h
    rfl
  · obtain ⟨r, x, t, sty, cap, low, root, x1, x2, rfl, R, kd, hb, q, qe⟩ := h
    obtain ⟨dx, os, p1, p2, cs, ls, h1, h2, h3, h4, h5, h6, h7, h8⟩ := R
    refine ⟨_, (pss_cons (by exact (ps_expr (pe_callS GN (hr.mono (by decide)) rfl gN FN.kp bN (fun σ => passAt (takes_of rfl rfl rfl rfl) σ) (pa_cons (pv 1) pa_nil)))) (pss_one (by exact (ps_ret (pe_call GA (hr.mono (by decide)) rfl gA FA.kp bA .nil pass0 (pa_cons (pe_fld (pv 0) rfl) (pa_cons (pv 1) pa_nil))))))), ?_⟩
    refine ⟨_, rfl, x, t, rfl, kd, fun k ek hk => ?_, qe⟩
    subst ek
    exact ⟨_, rfl, r, C, dx, _, .ref ls, rfl, h1, RC.cls, RC.no _ (by simp), rfl, _, rfl, _, _, k, rfl, h8, (shA h3).1, (shA h3).2.1, (shA h3).2.2, hb k rfl, q k rfl hk H (Same.refl H)⟩
theorem sc_Rules_bounds : FnScope ["self", "k"] ["self", "k"] (defScope sBounds) := ⟨rfl, rfl, rfl, by decide +kernel, rfl, by decide +kernel, by decide +kernel⟩
theorem ok_Rules_bounds {f fA : Addr} {fd fdA : FuncData} (F : FunD K "bounds" "Rules.bounds" (defArgs sBounds) (defBody sBounds) (defScope sBounds) [] [] f fd) (RC : RulesC K mg C fI) (FA : FunD K "share_at" "share_at" (defArgs sShareAt) (defBody sShareAt) (defScope sShareAt) [] [] fA fdA)
    (GA : FnOk P w K mg base CX0 1 fA fdA ["share", "k"] spShareAt) (gA : mg "share_at" = some (.ref fA)) : FnOk P w K mg base CX0 2 f fd ["self", "k"] (spBounds C) := by
  have bA : Binds K fdA ["share", "k"] [] := FA.bindsN fun _ _ _ _ _ _ us hl => match us, hl with | [_, _], _ => rfl
  refine F.ok sc_Rules_bounds (fun vs H Q E h => ?_) (fun cdv A outer s H vs Q E hr h => ?_)
  · obtain ⟨r, k, sty, cap, low, root, x1, x2, rfl, _⟩ := h
    rfl
  · obtain ⟨r, k, sty, cap, low, root, x1, x2, rfl, R, hb, q⟩ := h
    obtain ⟨dx, os, p1, p2, cs, ls, h1, h2, h3, h4, h5, h6, h7, h8⟩ := R
    refine ⟨_, PSs.nox (pss_one (by exact (ps_ret (pe_tup (pa_cons (pe_call GA (hr.mono (by decide)) rfl gA FA.kp bA .nil pass0 (pa_cons (pe_fld (pv 0) rfl) (pa_cons (pv 1) pa_nil))) (pa_cons (pe_call GA (hr.mono (by decide)) rfl gA FA.kp bA .nil pass0 (pa_cons (pe_fld (pv 0) rfl) (pa_cons (pv 1) pa_nil))) pa_nil)))))), ?_⟩
    refine ⟨_, rfl, r, C, dx, _, .ref ls, rfl, h1, RC.cls, RC.no _ (by simp), rfl, _, rfl, _, _, k, rfl, h8, (shA h3).1, (shA h3).2.1, (shA h3).2.2, hb, ?_⟩
    refine ⟨_, rfl, r, C, dx, _, .ref cs, rfl, h1, RC.cls, RC.no _ (by simp), rfl, _, rfl, _, _, k, rfl, h7, (shA h2).1, (shA h2).2.1, (shA h2).2.2, hb, ?_⟩
    exact ⟨by show 2 ≤ sizeLine; decide, q⟩
theorem sc_Rules_in_use : FnScope ["self", "k", "low", "cap"] ["self", "k"] (defScope sInUse) := ⟨rfl, rfl, rfl, by decide +kernel, rfl, by decide +kernel, by decide +kernel⟩
theorem ok_Rules_in_use {f fN fB : Addr} {fd fdN fdB : FuncData} (F : FunD K "in_use" "Rules.in_use" (defArgs sInUse) (defBody sInUse) (defScope sInUse) [] [] f fd) (RC : RulesC K mg C fI)
    (FN : FunD K "need_capacity" "need_capacity" (defArgs sNeed) (defBody sNeed) (defScope sNeed) [] [] fN fdN) (FB : FunD K "bounds" "Rules.bounds" (defArgs sBounds) (defBody sBounds) (defScope sBounds) [] [] fB fdB)
    (GN : FnOk P w K mg base (L2.CX P w) 3 fN fdN ["k"] (spNeed K)) (GB : FnOk P w K mg base CX0 2 fB fdB ["self", "k"] (spBounds C)) (gN : mg "need_capacity" = some (.ref fN)) (mB : Meth K C "bounds" fB) : FnOk P w K mg base (L2.CX P w) 4 f fd ["self", "k"] (spCapQ K C fun x1 x2 k => .bl (usedL x1 x2 k)) := by
  have bN : Binds K fdN ["k"] [] := FN.bindsN fun _ _ _ _ _ _ us hl => match us, hl with | [_], _ => rfl
  have bB : Binds K fdB ["self", "k"] [] := FB.bindsN fun _ _ _ _ _ _ us hl => match us, hl with | [_, _], _ => rfl
  refine F.ok sc_Rules_in_use (fun vs H Q E h => ?_) (fun cdv A outer s H vs Q E hr h => ?_)
  · obtain ⟨r, x, t, sty, cap, low, root, x1, x2, rfl, _⟩ := h
    rfl
  · obtain ⟨r, x, t, sty, cap, low, root, x1, x2, rfl, R, kd, hb, q, qe⟩ := h
    obtain ⟨dx, os, p1, p2, cs, ls, h1, h2, h3, h4, h5, h6, h7, h8⟩ := id R
    refine ⟨_, (pss_cons (by exact (ps_expr (pe_callS GN (hr.mono (by decide)) rfl gN FN.kp bN (fun σ => passAt (takes_of rfl rfl rfl rfl) σ) (pa_cons (pv 1) pa_nil)))) (pss_cons (by exact (ps_asg (pe_meth (pv 0) RC.cls mB GB (hr.mono (by decide)) bB .nil pass0 (pa_cons (pv 1) pa_nil)) (pg_tupK (n := 2) K rfl rfl (pgs_cons (pg_name (i := 2) sc_Rules_in_use.nd rfl (Or.inl rfl)) (pgs_cons (pg_name (i := 3) sc_Rules_in_use.nd rfl (Or.inl rfl)) pgs_nil))))) (pss_one (by exact (ps_ret (pe_chain op_le op_le pe_int (pv 2) (pv 3))))))), ?_⟩
    refine ⟨_, rfl, x, t, rfl, kd, fun k ek hk => ?_, qe⟩
    subst ek
    refine ⟨_, rfl, r, dx, _, rfl, h1, rfl, _, rfl, r, k, sty, cap, low, root, x1, x2, rfl, R, hb k rfl, fun p hp => ?_⟩
    refine ⟨p, _, rfl, SqT.of upd_same, rfl, _, _, rfl, _, _, rfl, rfl, ?_⟩
    have fin : Q (.bl (decide (1 ≤ (lineM x2).at_ k) && decide ((lineM x2).at_ k ≤ (lineM x1).at_ k))) _ := q k rfl hk _ (same_new (o := .tup [.int ((lineM x2).at_ k), .int ((lineM x1).at_ k)]) hp)
    refine ⟨_, rfl, _, _, rfl, rfl, _, rfl, ite2 (fun e => ?_) fun e => ?_⟩
    · rw [e, Bool.true_and] at fin
      exact ⟨_, rfl, _, _, rfl, rfl, fin⟩
    · have e' : decide (1 ≤ (lineM x2).at_ k) = false := by simpa using e
      rw [e', Bool.false_and] at fin
      exact fin
end
end Pk
namespace Pk
open L2 PyProof.Rows PySem.Spec PySem
abbrev sNextC : Stmt := inClass (top 26) 8
abbrev sNextU : Stmt := inClass (top 26) 7
theorem units1 {k : Nat} {A : Around} (r : Room k A) : A.units + 1 < cLine := by
  have := r.units
  omega
def lastM (b d : Option Int) (least : Int) : Int := match b, d with
  | none, none => least
  | some x, none => x
  | none, some y => y
  | some x, some y => if y < x then y else x
def slopeM (x : Share) (period : Nat) : Int := (lineM x).s * ((period : Int) / ((lineM x).d : Int))
def firstM (k rest : Int) (period : Nat) : Int := -((rest - k) / (period : Int))
def oneM (x1 x2 : Share) (k rest : Int) (period : Nat) := leastM (firstM k rest period) (slopeM x2 period) ((lineM x2).at_ rest - 1)
def otherM (x1 x2 : Share) (k rest : Int) (period : Nat) := leastM (firstM k rest period) (slopeM x1 period - slopeM x2 period) ((lineM x1).at_ rest - (lineM x2).at_ rest)
def nextClassM (x1 x2 : Share) (k rest : Int) (period : Nat) : Option Int := match oneM x1 x2 k rest period, otherM x1 x2 k rest period with
  | some (a, b), some (c, d) => if (if c > a then c else a) ≤ lastM b d (if c > a then c else a) then some ((if c > a then c else a) * (period : Int) + rest) else none
  | _, _ => none
theorem leastM_lt {a b c x : Int} {y : Option Int} {n : Nat} (h : leastM a b c = some (x, y)) (ha : a.natAbs < 2 ^ n) (hc : c.natAbs < 2 ^ n) : x.natAbs ≤ 2 ^ n + 1 := by
  unfold leastM at h
  split at h
  · split at h
    · cases h
      omega
    · cases h
  · split at h
    · rename_i hb0 hb
      cases h
      have e1 : (c / b).natAbs ≤ 2 ^ n + 1 := by
        rcases Int.le_total 0 c with z | z
        · have p1 : 0 ≤ c / b := Int.ediv_nonneg z (Int.le_of_lt hb)
          have p2 : c / b ≤ c := Int.ediv_le_self b z
          omega
        · have p1 : c / b ≤ 0 := Int.ediv_nonpos_of_nonpos_of_neg z hb
          have p2 : c ≤ c / b := by
            have q : -((-c)) / b = c / b := by rw [Int.neg_neg]
            have m := Int.emod_nonneg c (show b ≠ 0 by omega)
            have d := Int.mul_ediv_add_emod c b
            have k : b * (c / b) ≤ c / b := by
              have := Int.mul_le_mul_of_nonpos_right (show (1 : Int) ≤ b by omega) p1
              rw [Int.one_mul] at this
              exact this
            have ml := Int.emod_lt_of_pos c hb
            by_cases z0 : c / b = 0
            · omega
            · have k2 : c / b ≤ -1 := by omega
              have k3 : b * (c / b) + c % b = c := d
              have k4 : b * (c / b + 1) ≤ (c / b + 1) := by
                have := Int.mul_le_mul_of_nonpos_right (show (1 : Int) ≤ b by omega) (show c / b + 1 ≤ 0 by omega)
                rw [Int.one_mul] at this
                exact this
              rw [Int.mul_add, Int.mul_one] at k4
              omega
          omega
      split <;> omega
    · split at h
      · cases h
        omega
      · cases h
def spNextC (C : Addr) : Sp := fun vs H Q _ => ∃ (r : Addr) (k rest : Int) (period : Nat) (sty : Str) (cap low root : V) (x1 x2 : Share), vs = [.ref r, .int k, .int rest, .int period] ∧ RulesAt C H r sty cap low root x1 x2 ∧ k.natAbs < 2 ^ 200 ∧ 0 ≤ rest ∧ rest < period ∧ period ≤ 1000 ∧
  ∀ H', Same H H' → Q (intV (nextClassM x1 x2 k rest period)) H'
theorem at_lt {v : V} {x : Share} (h : shareV v = some x) {k : Int} {n : Nat} (hk : k.natAbs < 2 ^ n) : ((lineM x).at_ k).natAbs ≤ 4 * 10 ^ 30 * 2 ^ n + 4 * 10 ^ 30 + 1 := by
  obtain ⟨h1, h2, h3, h4⟩ := shareV_lt h
  have e1 : ((lineM x).s * k).natAbs ≤ 4 * 10 ^ 30 * 2 ^ n := by
    rw [Int.natAbs_mul]
    exact Nat.mul_le_mul h1 (Nat.le_of_lt hk)
  have d0 : (0 : Int) < ((lineM x).d : Int) := by omega
  generalize hz : (lineM x).s * k + (lineM x).c = z
  have ez : z.natAbs ≤ 4 * 10 ^ 30 * 2 ^ n + 4 * 10 ^ 30 := by omega
  show ((( lineM x).s * k + (lineM x).c) / ((lineM x).d : Int)).natAbs ≤ _
  rw [hz]
  generalize ((lineM x).d : Int) = d at d0
  generalize 4 * 10 ^ 30 * 2 ^ n + 4 * 10 ^ 30 = B at ez ⊢
  have m := Int.emod_nonneg z (show d ≠ 0 by omega)
  have ml := Int.emod_lt_of_pos z d0
  have dd := Int.mul_ediv_add_emod z d
  rcases Int.le_total 0 z with w | w
  · have p1 : 0 ≤ z / d := Int.ediv_nonneg w (Int.le_of_lt d0)
    have p2 : z / d ≤ z := Int.ediv_le_self d w
    omega
  · have p1 : z / d ≤ 0 := Int.ediv_nonpos_of_nonpos_of_neg w d0
    by_cases z0 : z / d = 0
    · omega
    · have k4 : d * (z / d + 1) ≤ (z / d + 1) := by
        have := Int.mul_le_mul_of_nonpos_right (show (1 : Int) ≤ d by omega) (show z / d + 1 ≤ 0 by omega)
        rw [Int.one_mul] at this
        exact this
      rw [Int.mul_add, Int.mul_one] at k4
      omega
end Pk
namespace Pk
open L2 PyProof.Rows PySem.Spec PySem
theorem slope_lt {v : V} {x : Share} (h : shareV v = some x) {period : Nat} (hp : period ≤ 1000) : (slopeM x period).natAbs ≤ 4 * 10 ^ 30 * 1000 ∧ ((period : Int) / ((lineM x).d : Int)).natAbs ≤ 1000 := by
  obtain ⟨h1, _, h3, h4⟩ := shareV_lt h
  have d0 : (0 : Int) < ((lineM x).d : Int) := by omega
  have p1 : 0 ≤ (period : Int) / ((lineM x).d : Int) := Int.ediv_nonneg (by omega) (by omega)
  have p2 : (period : Int) / ((lineM x).d : Int) ≤ (period : Int) := Int.ediv_le_self _ (by omega)
  have b : ((period : Int) / ((lineM x).d : Int)).natAbs ≤ 1000 := by omega
  refine ⟨?_, b⟩
  unfold slopeM
  rw [Int.natAbs_mul]
  exact Nat.mul_le_mul h1 b
theorem first_lt {k rest : Int} {period : Nat} (hk : k.natAbs < 2 ^ 200) (h0 : 0 ≤ rest) (h1 : rest < period) (h2 : period ≤ 1000) : (firstM k rest period).natAbs < 2 ^ 202 := by
  have p0 : (0 : Int) < (period : Int) := by omega
  unfold firstM
  generalize hz : rest - k = z
  have ez : z.natAbs ≤ 2 ^ 200 + 1000 := by omega
  generalize (period : Int) = d at p0
  have m := Int.emod_nonneg z (show d ≠ 0 by omega)
  have ml := Int.emod_lt_of_pos z p0
  have dd := Int.mul_ediv_add_emod z d
  rcases Int.le_total 0 z with w | w
  · have p1 : 0 ≤ z / d := Int.ediv_nonneg w (Int.le_of_lt p0)
    have p2 : z / d ≤ z := Int.ediv_le_self d w
    omega
  · have p1 : z / d ≤ 0 := Int.ediv_nonpos_of_nonpos_of_neg w p0
    by_cases z0 : z / d = 0
    · omega
    · have k4 : d * (z / d + 1) ≤ (z / d + 1) := by
        have := Int.mul_le_mul_of_nonpos_right (show (1 : Int) ≤ d by omega) (show z / d + 1 ≤ 0 by omega)
        rw [Int.one_mul] at this
        exact this
      rw [Int.mul_add, Int.mul_one] at k4
      omega
theorem OptAt.same {H H' : Hp} {v : V} {o : Option (Int × Option Int)} (h : OptAt H v o) (s : Same H H') : OptAt H' v o := by
  cases o with
  | none => exact h
  | some z =>
    obtain ⟨p, h1, h2⟩ := h
    exact ⟨p, h1, s _ _ h2⟩
section
variable {K : PySem.W.Frag} {P : Program} {w : World} {base : Heap} {mg : Str → Option Value} {C fI : Addr}
theorem sc_Rules_next_of_class : FnScope ["self", "k", "rest", "period", "first", "low", "cap", "low_slope", "cap_slope", "share", "one", "other", "least", "last", "bound"] ["self", "k", "rest", "period"] (defScope sNextC) := ⟨rfl, rfl, rfl, by decide +kernel, rfl, by decide +kernel, by decide +kernel⟩
theorem ok_Rules_next_of_class {f fL fB : Addr} {fd fdL fdB : FuncData} (F : FunD K "next_of_class" "Rules.next_of_class" (defArgs sNextC) (defBody sNextC) (defScope sNextC) [] [] f fd) (RC : RulesC K mg C fI)
    (FL : FunD K "least_from" "least_from" (defArgs sLeast) (defBody sLeast) (defScope sLeast) [] [] fL fdL) (FB : FunD K "bounds" "Rules.bounds" (defArgs sBounds) (defBody sBounds) (defScope sBounds) [] [] fB fdB)
    (GL : FnOk P w K mg base CX0 1 fL fdL ["first", "slope", "constant"] spLeast) (GB : FnOk P w K mg base CX0 2 fB fdB ["self", "k"] (spBounds C)) (gL : mg "least_from" = some (.ref fL)) (mB : Meth K C "bounds" fB) (mMax : mg "max" = none) (mMin : mg "min" = none) (mInt : mg "int" = none) : FnOk P w K mg base CX0 3 f fd ["self", "k", "rest", "period"] (spNextC C) := by
  have bL : Binds K fdL ["first", "slope", "constant"] [] := FL.bindsN fun _ _ _ _ _ _ us hl => match us, hl with | [_, _, _], _ => rfl
  have bB : Binds K fdB ["self", "k"] [] := FB.bindsN fun _ _ _ _ _ _ us hl => match us, hl with | [_, _], _ => rfl
  refine F.ok sc_Rules_next_of_class (fun vs H Q E h => ?_) (fun cdv A outer s H vs Q E hr h => ?_)
  · obtain ⟨r, k, rest, period, sty, cap, low, root, x1, x2, rfl, _⟩ := h
    rfl
  · obtain ⟨r, k, rest, period, sty, cap, low, root, x1, x2, rfl, R, hk, r0, r1, p1, q⟩ := h
    obtain ⟨dx, os, q1, q2, cs, ls, h1, h2, h3, h4, h5, h6, h7, h8⟩ := id R
    have rb : rest.natAbs < 2 ^ 400 := by omega
    have rb2 : rest.natAbs < 2 ^ 10 := by omega
    have per0 : (0 : Int) < (period : Int) := by omega
    have pb : ((period : Int)).natAbs < 2 ^ 10 := by omega
    have fl := first_lt hk r0 r1 p1
    have s1l := slope_lt h2 p1
    have s2l := slope_lt h3 p1
    have a1l := at_lt h2 rb2
    have a2l := at_lt h3 rb2
    refine ⟨_, PSs.nox (pss_cons (by exact (ps_set (i := 4) sc_Rules_next_of_class.nd rfl (Or.inl rfl) (pe_un un_neg (pe_op op_fdivW (pe_op op_sub (pv 2) (pv 1)) (pv 3))))) (pss_cons (by exact (ps_asg (pe_meth (pv 0) RC.cls mB GB hr bB .nil pass0 (pa_cons (pv 2) pa_nil)) (pg_tupK (n := 2) K rfl rfl (pgs_cons (pg_name (i := 5) sc_Rules_next_of_class.nd rfl (Or.inl rfl)) (pgs_cons (pg_name (i := 6) sc_Rules_next_of_class.nd rfl (Or.inl rfl)) pgs_nil))))) (pss_cons (by exact (ps_asg (pe_lc (own := [("share", 9)]) (g := gName 9) (tt := tYes) rfl sc_Rules_next_of_class.nd (pi_tup (pe_tup (pa_cons (pe_fld (pv 0) rfl) (pa_cons (pe_fld (pv 0) rfl) pa_nil)))) (blkOk_by (N := ["self", "k", "rest", "period", "first", "low", "cap", "low_slope", "cap_slope", "share", "one", "other", "least", "last", "bound"]) (sc := defScope sNextC) (by decide +kernel)) (fun _ _ _ _ _ => pg_name (i := 9) sc_Rules_next_of_class.nd rfl (Or.inl rfl)) (fun _ _ _ _ _ => pts_nil) (fun _ _ _ _ _ => (pe_op op_mulW (pe_ix (ix_tupK K rfl) (pv 9) pe_int (fun _ _ => rfl)) (pe_op op_fdivW (pv 3) (pe_ix (ix_tupK K rfl) (pv 9) pe_int (fun _ _ => rfl)))))) (pg_unl rfl (pgs_cons (pg_name (i := 7) sc_Rules_next_of_class.nd rfl (Or.inl rfl)) (pgs_cons (pg_name (i := 8) sc_Rules_next_of_class.nd rfl (Or.inl rfl)) pgs_nil))))) (pss_cons (by exact (ps_set (i := 10) sc_Rules_next_of_class.nd rfl (Or.inl rfl) (pe_call GL (hr.mono (by decide)) rfl gL FL.kp bL .nil pass0 (pa_cons (pv 4) (pa_cons (pv 7) (pa_cons (pe_op op_sub (pv 5) pe_int) pa_nil)))))) (pss_cons (by exact (ps_set (i := 11) sc_Rules_next_of_class.nd rfl (Or.inl rfl) (pe_call GL (hr.mono (by decide)) rfl gL FL.kp bL .nil pass0 (pa_cons (pv 4) (pa_cons (pe_op op_sub (pv 8) (pv 7)) (pa_cons (pe_op op_sub (pv 6) (pv 5)) pa_nil)))))) (pss_cons (by exact (ps_if (PW.pt (pw_or (pt_cmp (pc_isN (pv 10))) (pw_or1 (pt_cmp (pc_isN (pv 11)))))) (pss_one (by exact (ps_ret pe_non))) pss_nil)) (pss_cons (by exact (ps_set (i := 12) sc_Rules_next_of_class.nd rfl (Or.inl rfl) (pe_callB (call_max2 rfl) (by rfl) mMax (by decide +kernel) (pa_cons (pe_ix (ix_tupK K rfl) (pv 10) pe_int (fun _ _ => rfl)) (pa_cons (pe_ix (ix_tupK K rfl) (pv 11) pe_int (fun _ _ => rfl)) pa_nil))))) (pss_cons (by exact (ps_set (i := 13) sc_Rules_next_of_class.nd rfl (Or.inl rfl) (pe_callBK (crk_minD K rfl rfl (units1 hr)) (by rfl) mMin (by decide +kernel) (pa_cons (pe_lc (own := [("bound", 14)]) (g := gName 14) rfl sc_Rules_next_of_class.nd (pi_tup (pe_tup (pa_cons (pe_ix (ix_tupK K rfl) (pv 10) pe_int (fun _ _ => rfl)) (pa_cons (pe_ix (ix_tupK K rfl) (pv 11) pe_int (fun _ _ => rfl)) pa_nil)))) (blkOk_by (N := ["self", "k", "rest", "period", "first", "low", "cap", "low_slope", "cap_slope", "share", "one", "other", "least", "last", "bound"]) (sc := defScope sNextC) (by decide +kernel)) (fun _ _ _ _ _ => pg_name (i := 14) sc_Rules_next_of_class.nd rfl (Or.inl rfl)) (fun _ _ _ _ _ => (pts_one (pt_cmp (pc_notN (pv 14))))) (fun _ _ _ _ _ => (pe_callTy call_int1 (by rfl) mInt (by decide +kernel) (pa_cons (pv 14) pa_nil)))) pa_nil) (pk_cons (pv 12) pk_nil)))) (pss_one (by exact (ps_ret (pe_ifExp (pt_cmpR op_le (pv 12) (pv 13) (nomark _)) (pe_op op_add (pe_op op_mulW (pv 12) (pv 3)) (pv 2)) pe_non)))))))))))), ?_⟩
    refine ⟨_, rfl, _, rfl, _, _, rfl, rfl, _, rfl, _, _, rfl, rfl, wide_div (b := 10) per0 pb (by decide) (by decide), _, rfl, ?_⟩
    refine ⟨_, rfl, r, dx, _, rfl, h1, rfl, _, rfl, r, rest, sty, cap, low, root, x1, x2, rfl, R, rb, fun p hp => ?_⟩
    have sB := same_new (o := .tup [.int ((lineM x2).at_ rest), .int ((lineM x1).at_ rest)]) hp
    refine ⟨p, _, rfl, SqT.of upd_same, rfl, _, _, rfl, _, _, rfl, rfl, ?_⟩
    refine ⟨_, rfl, r, C, dx, _, .ref ls, rfl, sB _ _ h1, RC.cls, RC.no _ (by simp), rfl, _, rfl, r, C, dx, _, .ref cs, rfl, sB _ _ h1, RC.cls, RC.no _ (by simp), rfl, by show 2 ≤ sizeLine; decide, fun t ht => ?_⟩
    have sT := sB.step (o := .tup [.ref ls, .ref cs]) ht
    refine ⟨t, rfl, ⟨_, SqT.of upd_same⟩, fun D hD => lc_tup (K := K) (a := t) (xs := [.ref ls, .ref cs]) (fun i H' => Same (upd (upd H p (.tup [.int ((lineM x2).at_ rest), .int ((lineM x1).at_ rest)])) t (.tup [.ref ls, .ref cs])) H' ∧ H' D = some (.lst (([slopeM x2 period, slopeM x1 period].take i).map V.int))) ⟨same_new hD, by rw [upd_same]; rfl⟩ (fun i H' _ h => SqT.of (h.1 _ _ upd_same)) ?_ ?_⟩
    · intro i y H' hi hp2
      have st : ∀ acc, Same (upd (upd H p (.tup [.int ((lineM x2).at_ rest), .int ((lineM x1).at_ rest)])) t (.tup [.ref ls, .ref cs])) (upd H' D (.lst acc)) := fun acc b o e => by
        rw [upd_ne (fun z => by rw [z, hD] at e; cases e)]
        exact hp2.1 b o e
      have i2 : i = 0 ∨ i = 1 := by
        rcases i with _ | _ | i
        · exact .inl rfl
        · exact .inr rfl
        · simp at hi
      rcases i2 with rfl | rfl
      · cases hi
        have la := hp2.1 _ _ (sT _ _ h8)
        refine ⟨rfl, ?_⟩
        refine ⟨_, rfl, ls, _, _, .int (lineM x2).s, rfl, rfl, SqT.of la, rfl, _, rfl, _, rfl, ls, _, _, .int ((lineM x2).d : Nat), rfl, rfl, SqT.of la, rfl, _, _, rfl, rfl, wide_div (b := 400) (by have := (shA h3).1; omega) (by have := (shA h3).2.1; omega) (by decide) (by decide), _, _, rfl, rfl, wide_mul (a := 400) (b := 11) (shA h3).2.2 (Nat.lt_of_le_of_lt s2l.2 (by decide)) (by decide) (by decide) (by decide), _, hp2.2, by show 0 < sizeLine; decide, st _, upd_same⟩
      · cases hi
        have la := hp2.1 _ _ (sT _ _ h7)
        refine ⟨rfl, ?_⟩
        refine ⟨_, rfl, cs, _, _, .int (lineM x1).s, rfl, rfl, SqT.of la, rfl, _, rfl, _, rfl, cs, _, _, .int ((lineM x1).d : Nat), rfl, rfl, SqT.of la, rfl, _, _, rfl, rfl, wide_div (b := 400) (by have := (shA h2).1; omega) (by have := (shA h2).2.1; omega) (by decide) (by decide), _, _, rfl, rfl, wide_mul (a := 400) (b := 11) (shA h2).2.2 (Nat.lt_of_le_of_lt s1l.2 (by decide)) (by decide) (by decide) (by decide), _, hp2.2, by show 1 < sizeLine; decide, st _, upd_same⟩
    · intro H3 hp3
      obtain ⟨sm, hD3⟩ := hp3
      have s3 := sT.trans sm
      refine ⟨D, _, rfl, SqL.of hD3, rfl, _, _, rfl, _, _, rfl, rfl, ?_⟩
      refine ⟨_, rfl, _, rfl, _, rfl, _, _, rfl, rfl, firstM k rest period, slopeM x2 period, _, rfl, Nat.lt_of_le_of_lt s2l.1 (by decide), fun v1 H4 s4 o1 => ?_⟩
      refine ⟨_, rfl, _, rfl, _, rfl, _, _, rfl, rfl, _, rfl, _, rfl, _, _, rfl, rfl, firstM k rest period, slopeM x1 period - slopeM x2 period, _, rfl, ?_, fun v2 H5 s5 o2 => ?_⟩
      · have a := s1l.1
        have b := s2l.1
        omega
      have s5' := (s3.trans s4).trans s5
      have o1' := o1.same s5
      have w1 : OptAt H5 v1 (oneM x1 x2 k rest period) := o1'
      have w2 : OptAt H5 v2 (otherM x1 x2 k rest period) := o2
      have qn : nextClassM x1 x2 k rest period = none → Q .non H5 := fun z => by
        have y := q H5 s5'
        rw [z] at y
        exact y
      rcases e1 : oneM x1 x2 k rest period with _ | ⟨a, b⟩
      · rw [e1] at w1
        obtain rfl : v1 = V.non := w1
        exact ⟨_, rfl, _, rfl, qn (by unfold nextClassM; rw [e1])⟩
      rw [e1] at w1
      obtain ⟨pa1, rfl, hp1⟩ := w1
      rcases e2 : otherM x1 x2 k rest period with _ | ⟨c, d⟩
      · rw [e2] at w2
        obtain rfl : v2 = V.non := w2
        refine ⟨_, rfl, _, rfl, ?_⟩
        exact ⟨_, rfl, _, rfl, qn (by unfold nextClassM; rw [e1, e2])⟩
      rw [e2] at w2
      obtain ⟨pa2, rfl, hp2⟩ := w2
      have hp1 : H5 pa1 = some (.tup [.int a, intV b]) := hp1
      have hp2 : H5 pa2 = some (.tup [.int c, intV d]) := hp2
      have key : nextClassM x1 x2 k rest period = if (if c > a then c else a) ≤ lastM b d (if c > a then c else a) then some ((if c > a then c else a) * (period : Int) + rest) else none := by
        unfold nextClassM
        rw [e1, e2]
      have Lb : (if c > a then c else a).natAbs < 2 ^ 210 := by
        have m1 := leastM_lt (n := 202) e1 fl (by omega)
        have m2 := leastM_lt (n := 202) e2 fl (by omega)
        split <;> omega
      refine ⟨_, rfl, _, rfl, ?_⟩
      refine ⟨_, rfl, _, rfl, ?_⟩
      refine ⟨_, rfl, pa1, _, _, .int a, rfl, rfl, SqT.of hp1, rfl, _, rfl, pa2, _, _, .int c, rfl, rfl, SqT.of hp2, rfl, _, _, rfl, ?_⟩
      generalize (if c > a then c else a) = L at key Lb ⊢
      refine ⟨_, rfl, pa1, _, _, intV b, rfl, rfl, SqT.of hp1, rfl, _, rfl, pa2, _, _, intV d, rfl, rfl, SqT.of hp2, rfl, by show 2 ≤ sizeLine; decide, fun t2 ht2 => ?_⟩
      have s6 := s5'.step (o := .tup [intV b, intV d]) ht2
      refine ⟨t2, rfl, ⟨_, SqT.of upd_same⟩, fun D2 hD2 => lc_tup (K := K) (a := t2) (xs := [intV b, intV d]) (fun i H' => Same (upd H5 t2 (.tup [intV b, intV d])) H' ∧ H' D2 = some (.lst ((([b, d].take i).filterMap id).map V.int))) ⟨same_new hD2, by rw [upd_same]; rfl⟩ (fun i H' _ h => SqT.of (h.1 _ _ upd_same)) ?_ ?_⟩
      · intro i y H' hi hp3
        have st : ∀ acc, Same (upd H5 t2 (.tup [intV b, intV d])) (upd H' D2 (.lst acc)) := fun acc b o e => by
          rw [upd_ne (fun z => by rw [z, hD2] at e; cases e)]
          exact hp3.1 b o e
        obtain ⟨o, ho, rfl⟩ : ∃ o, [b, d][i]? = some o ∧ y = intV o := by
          rcases i with _ | _ | i
          · cases hi
            exact ⟨b, rfl, rfl⟩
          · cases hi
            exact ⟨d, rfl, rfl⟩
          · simp at hi
        have tk : [b, d].take (i + 1) = [b, d].take i ++ [o] := by
          rw [List.take_succ, ho]
          rfl
        have few : ((([b, d].take i).filterMap id).map V.int).length < sizeLine := by
          rw [List.length_map]
          exact Nat.lt_of_le_of_lt (Nat.le_trans (List.length_filterMap_le _ _) (List.length_take_le' _ _)) (show 2 < sizeLine by decide)
        refine ⟨rfl, ?_⟩
        cases o with
        | none =>
          refine ⟨_, rfl, _, rfl, ?_⟩
          refine ⟨hp3.1, ?_⟩
          rw [tk, List.filterMap_append, show ([none] : List (Option Int)).filterMap id = [] from rfl, List.append_nil]
          exact hp3.2
        | some z =>
          refine ⟨_, rfl, _, rfl, ?_⟩
          refine ⟨_, rfl, .inl ⟨z, rfl, _, hp3.2, few, st _, ?_⟩⟩
          rw [upd_same, tk, List.filterMap_append, List.map_append]
          rfl
      · intro H7 hp7
        obtain ⟨sm7, hn7⟩ := hp7
        have s7 := s6.trans sm7
        have hn7' : H7 D2 = some (.lst (([b, d].filterMap id).map V.int)) := hn7
        have good : L ≤ lastM b d L → ∀ H', Same H H' → Q (.int (L * (period : Int) + rest)) H' := fun z H' s' => by
          have y := q H' s'
          rw [key, if_pos z] at y
          exact y
        have poor : ¬ L ≤ lastM b d L → ∀ H', Same H H' → Q .non H' := fun z H' s' => by
          have y := q H' s'
          rw [key, if_neg z] at y
          exact y
        refine ⟨_, rfl, D2, _, _, rfl, rfl, SqL.of hn7', fun en => ?_, fun m hm hle => ?_⟩
        · have eL : lastM b d L = L := by
            cases b <;> cases d <;> first | rfl | cases en
          rw [eL] at good poor
          refine ⟨_, rfl, _, rfl, _, _, rfl, rfl, _, rfl, ite2 (fun e6 => ?_) fun e6 => ?_⟩
          · have k6 : L ≤ L := of_decide_eq_true e6
            refine ⟨_, rfl, _, rfl, _, _, rfl, rfl, wide_mul (a := 210) (b := 10) Lb pb (by decide) (by decide) (by decide), _, rfl, _, _, rfl, rfl, ?_⟩
            exact good k6 H7 s7
          · have k6 : ¬ L ≤ L := fun z => e6 (decide_eq_true z)
            exact poor k6 H7 s7
        · have eL : lastM b d L = m := by
            cases b with
            | none => cases d with
              | none => cases hm
              | some y => rw [List.mem_singleton.mp (show m ∈ [y] from hm)]; rfl
            | some x => cases d with
              | none => rw [List.mem_singleton.mp (show m ∈ [x] from hm)]; rfl
              | some y =>
                have mx := hle x (show x ∈ [x, y] by simp)
                have my := hle y (show y ∈ [x, y] by simp)
                have mm : m = x ∨ m = y := by simpa using (show m ∈ [x, y] from hm)
                show (if y < x then y else x) = m
                split <;> omega
          rw [eL] at good poor
          refine ⟨_, rfl, _, rfl, _, _, rfl, rfl, _, rfl, ite2 (fun e6 => ?_) fun e6 => ?_⟩
          · have k6 : L ≤ m := of_decide_eq_true e6
            refine ⟨_, rfl, _, rfl, _, _, rfl, rfl, wide_mul (a := 210) (b := 10) Lb pb (by decide) (by decide) (by decide), _, rfl, _, _, rfl, rfl, ?_⟩
            exact good k6 H7 s7
          · have k6 : ¬ L ≤ m := fun z => e6 (decide_eq_true z)
            exact poor k6 H7 s7
end
end Pk
namespace Pk
open L2 PyProof.Rows PySem.Spec PySem
def minL : List Int → Option Int
  | [] => none
  | n :: ns => some (ns.foldl min n)
def perM (x1 x2 : Share) : Nat := Nat.lcm (lineM x1).d (lineM x2).d
def nextL (x1 x2 : Share) (k : Int) : List (Option Int) := (List.range (perM x1 x2)).map fun (i : Nat) => nextClassM x1 x2 k (i : Int) (perM x1 x2)
def nextM (x1 x2 : Share) (k : Int) : Option Int := minL ((nextL x1 x2 k).filterMap id)
theorem minL_is {ns : List Int} {m : Int} (hm : m ∈ ns) (hle : ∀ y ∈ ns, m ≤ y) : minL ns = some m := by
  cases ns with
  | nil => cases hm
  | cons n ns =>
    obtain ⟨h1, h2, h3⟩ := min_fold ns n
    have a : m ≤ ns.foldl min n := by
      rcases h1 with e | e
      · rw [e]
        exact hle n (by simp)
      · exact hle _ (List.mem_cons_of_mem _ e)
    have b : ns.foldl min n ≤ m := by
      rcases (List.mem_cons.mp hm) with e | e
      · rw [e]
        exact h2
      · exact h3 m e
    show some (ns.foldl min n) = some m
    rw [Int.le_antisymm b a]
theorem perM_ok {v1 v2 : V} {x1 x2 : Share} (h1 : shareV v1 = some x1) (h2 : shareV v2 = some x2) : 0 < perM x1 x2 ∧ perM x1 x2 ≤ 1000 := by
  obtain ⟨_, _, a1, a2⟩ := shareV_lt h1
  obtain ⟨_, _, b1, b2⟩ := shareV_lt h2
  refine ⟨Nat.lcm_pos a1 b1, ?_⟩
  have q : perM x1 x2 ≤ (lineM x1).d * (lineM x2).d := Nat.le_of_dvd (Nat.mul_pos a1 b1) (Nat.lcm_dvd_mul _ _)
  have q2 : (lineM x1).d * (lineM x2).d ≤ 6 * 6 := Nat.mul_le_mul a2 b2
  omega
def spNext (K : PySem.W.Frag) (C : Addr) : Sp := fun vs H Q E => ∃ (r : Addr) (x : V) (t : Value) (sty : Str) (cap low root : V) (x1 x2 : Share), vs = [.ref r, x] ∧ RulesAt C H r sty cap low root x1 x2 ∧ Kd K H x t ∧ (∀ k : Int, x = .int k → k.natAbs < 2 ^ 200) ∧
  (∀ k : Int, x = .int k → 1 ≤ k → ∀ H', Same H H' → Q (intV (nextM x1 x2 k)) H') ∧ ((∀ k : Int, x = .int k → ¬ 1 ≤ k) → Err1 K "BadCapacity" "k" x H E)
section
variable {K : PySem.W.Frag} {P : Program} {w : World} {base : Heap} {mg : Str → Option Value} {C fI : Addr}
theorem sc_Rules_next_in_use : FnScope ["self", "k", "period", "found", "rest", "one"] ["self", "k"] (defScope sNextU) := ⟨rfl, rfl, rfl, by decide +kernel, rfl, by decide +kernel, by decide +kernel⟩
theorem ok_Rules_next_in_use {f fN fC fX : Addr} {fd fdN fdC fdX : FuncData} (F : FunD K "next_in_use" "Rules.next_in_use" (defArgs sNextU) (defBody sNextU) (defScope sNextU) [] [] f fd) (RC : RulesC K mg C fI)
    (FN : FunD K "need_capacity" "need_capacity" (defArgs sNeed) (defBody sNeed) (defScope sNeed) [] [] fN fdN) (FC : FunD K "common" "common" (defArgs sCommon) (defBody sCommon) (defScope sCommon) [] [] fC fdC) (FX : FunD K "next_of_class" "Rules.next_of_class" (defArgs sNextC) (defBody sNextC) (defScope sNextC) [] [] fX fdX)
    (GN : FnOk P w K mg base (L2.CX P w) 3 fN fdN ["k"] (spNeed K)) (GC : FnOk P w K mg base CX0 1 fC fdC ["one", "other"] spCommon) (GX : FnOk P w K mg base CX0 3 fX fdX ["self", "k", "rest", "period"] (spNextC C)) (gN : mg "need_capacity" = some (.ref fN)) (gC : mg "common" = some (.ref fC)) (mN : Meth K C "next_of_class" fX)
    (mRange : mg "range" = none) (mMin : mg "min" = none) (mInt : mg "int" = none) : FnOk P w K mg base (L2.CX P w) 4 f fd ["self", "k"] (spNext K C) := by
  have bN : Binds K fdN ["k"] [] := FN.bindsN fun _ _ _ _ _ _ us hl => match us, hl with | [_], _ => rfl
  have bC : Binds K fdC ["one", "other"] [] := FC.bindsN fun _ _ _ _ _ _ us hl => match us, hl with | [_, _], _ => rfl
  have bX : Binds K fdX ["self", "k", "rest", "period"] [] := FX.bindsN fun _ _ _ _ _ _ us hl => match us, hl with | [_, _, _, _], _ => rfl
  refine F.ok sc_Rules_next_in_use (fun vs H Q E h => ?_) (fun cdv A outer s H vs Q E hr h => ?_)
  · obtain ⟨r, x, t, sty, cap, low, root, x1, x2, rfl, _⟩ := h
    rfl
  · obtain ⟨r, x, t, sty, cap, low, root, x1, x2, rfl, R, kd, hb, q, qe⟩ := h
    obtain ⟨dx, os, p1, p2, cs, ls, h1, h2, h3, h4, h5, h6, h7, h8⟩ := id R
    refine ⟨_, (pss_cons (by exact (ps_expr (pe_callS GN (hr.mono (by decide)) rfl gN FN.kp bN (fun σ => passAt (takes_of rfl rfl rfl rfl) σ) (pa_cons (pv 1) pa_nil)))) (pss_cons (by exact (ps_set (i := 2) sc_Rules_next_in_use.nd rfl (Or.inr rfl) (pe_call GC (hr.mono (by decide)) rfl gC FC.kp bC .nil pass0 (pa_cons (pe_ix (ix_tupK K rfl) (pe_fld (pv 0) rfl) pe_int (fun _ _ => rfl)) (pa_cons (pe_ix (ix_tupK K rfl) (pe_fld (pv 0) rfl) pe_int (fun _ _ => rfl)) pa_nil))))) (pss_cons (by exact (ps_setLc (i := 3) (own := [("rest", 4)]) (g := gName 4) (tt := tYes) rfl sc_Rules_next_in_use.nd rfl rfl (sw_true rfl rfl rfl (by decide +kernel)) (pi_range1 rfl mRange (pa_cons (pv 2) pa_nil)) (blkOk_by (N := ["self", "k", "period", "found", "rest", "one"]) (sc := defScope sNextU) (by decide +kernel)) (fun _ _ _ _ _ => pg_name (i := 4) sc_Rules_next_in_use.nd rfl (Or.inl rfl)) (fun _ _ _ _ _ => pts_nil) (fun _ _ _ _ _ => (pe_meth (pv 0) RC.cls mN GX hr bX .nil pass0 (pa_cons (pv 1) (pa_cons (pv 4) (pa_cons (pv 2) pa_nil))))))) (pss_one (by exact (ps_ret (pe_callBK (crk_minD K rfl rfl (units1 hr)) (by rfl) mMin (by decide +kernel) (pa_cons (pe_lc (own := [("one", 5)]) (g := gName 5) rfl sc_Rules_next_in_use.nd (pi_list (pv 3)) (blkOk_by (N := ["self", "k", "period", "found", "rest", "one"]) (sc := defScope sNextU) (by decide +kernel)) (fun _ _ _ _ _ => pg_name (i := 5) sc_Rules_next_in_use.nd rfl (Or.inl rfl)) (fun _ _ _ _ _ => (pts_one (pt_cmp (pc_notN (pv 5))))) (fun _ _ _ _ _ => (pe_callTy call_int1 (by rfl) mInt (by decide +kernel) (pa_cons (pv 5) pa_nil)))) pa_nil) (pk_cons pe_non pk_nil)))))))), ?_⟩
    refine ⟨_, rfl, x, t, rfl, kd, fun k ek hk => ?_, qe⟩
    subst ek
    obtain ⟨per0, per1⟩ := perM_ok h2 h3
    refine ⟨_, rfl, r, C, dx, _, .ref cs, rfl, h1, RC.cls, RC.no _ (by simp), rfl, cs, _, _, .int ((lineM x1).d : Nat), rfl, rfl, SqT.of h7, rfl, _, rfl, r, C, dx, _, .ref ls, rfl, h1, RC.cls, RC.no _ (by simp), rfl, ls, _, _, .int ((lineM x2).d : Nat), rfl, rfl, SqT.of h8, rfl, _, _, rfl, (shA h2).1, (shA h3).1, ?_⟩
    refine ⟨_, rfl, _, rfl, by show -(2 ^ 62) ≤ ((perM x1 x2 : Nat) : Int); omega, by show ((perM x1 x2 : Nat) : Int) < 2 ^ 62; omega, fun D hD => lc_range (lo := 0) (n := perM x1 x2) (fun i H' => Same H H' ∧ H' D = some (.lst (((List.range i).map fun (j : Nat) => nextClassM x1 x2 k (j : Int) (perM x1 x2)).map intV))) ⟨same_new hD, upd_same⟩ (fun i H' hi hp => ?_) (fun H' hp => ?_)⟩
    · have st : ∀ H2 acc, Same H' H2 → Same H (upd H2 D (.lst acc)) := fun H2 acc s2 b o e => by
        rw [upd_ne (fun z => by rw [z, hD] at e; cases e)]
        exact s2 _ _ (hp.1 b o e)
      have z0 : (0 : Int) + (i : Int) = (i : Int) := Int.zero_add _
      rw [z0]
      refine ⟨rfl, ?_⟩
      refine ⟨_, rfl, r, dx, _, rfl, hp.1 _ _ h1, rfl, _, rfl, _, rfl, _, rfl, r, k, (i : Int), perM x1 x2, sty, cap, low, root, x1, x2, rfl, R.same hp.1, hb k rfl, by omega, by omega, per1, fun H2 s2 => ?_⟩
      refine ⟨_, s2 _ _ hp.2, ?_, st H2 _ s2, ?_⟩
      · rw [List.length_map, List.length_map, List.length_range]
        exact Nat.lt_of_lt_of_le hi (Nat.le_trans per1 (by decide))
      · rw [upd_same, List.range_succ, List.map_append, List.map_append]
        rfl
    · obtain ⟨sm, hn⟩ := hp
      have hn : H' D = some (.lst ((nextL x1 x2 k).map intV)) := hn
      have ll : (nextL x1 x2 k).length ≤ 1000 := by
        unfold nextL
        rw [List.length_map, List.length_range]; exact per1
      refine ⟨_, rfl, D, rfl, ⟨_, SqL.of hn⟩, fun D2 hD2 => lc_list (K := K) (a := D) (xs := (nextL x1 x2 k).map intV) (fun i H2 => Same H' H2 ∧ H2 D2 = some (.lst ((((nextL x1 x2 k).take i).filterMap id).map V.int))) ⟨same_new hD2, by rw [upd_same]; rfl⟩ (fun i H2 _ h => SqL.of (h.1 _ _ hn)) ?_ ?_⟩
      · intro i y H2 hi hp3
        have st : ∀ acc, Same H' (upd H2 D2 (.lst acc)) := fun acc b o e => by
          rw [upd_ne (fun z => by rw [z, hD2] at e; cases e)]
          exact hp3.1 b o e
        obtain ⟨o, ho, rfl⟩ : ∃ o, (nextL x1 x2 k)[i]? = some o ∧ y = intV o := by
          rw [List.getElem?_map] at hi
          cases e : (nextL x1 x2 k)[i]? with
          | none => rw [e] at hi; cases hi
          | some o => rw [e] at hi; exact ⟨o, rfl, (Option.some.inj hi).symm⟩
        have tk : (nextL x1 x2 k).take (i + 1) = (nextL x1 x2 k).take i ++ [o] := by
          rw [List.take_succ, ho]
          rfl
        have few : ((((nextL x1 x2 k).take i).filterMap id).map V.int).length < sizeLine := by
          rw [List.length_map]
          exact Nat.lt_of_le_of_lt (Nat.le_trans (List.length_filterMap_le _ _) (List.length_take_le' _ _)) (Nat.lt_of_le_of_lt ll (by decide))
        refine ⟨rfl, ?_⟩
        cases o with
        | none =>
          refine ⟨_, rfl, _, rfl, ?_⟩
          refine ⟨hp3.1, ?_⟩
          rw [tk, List.filterMap_append, show ([none] : List (Option Int)).filterMap id = [] from rfl, List.append_nil]
          exact hp3.2
        | some z =>
          refine ⟨_, rfl, _, rfl, ?_⟩
          refine ⟨_, rfl, .inl ⟨z, rfl, _, hp3.2, few, st _, ?_⟩⟩
          rw [upd_same, tk, List.filterMap_append, List.map_append]
          rfl
      · intro H3 hp3
        obtain ⟨sm3, hn3⟩ := hp3
        have full : (nextL x1 x2 k).take ((nextL x1 x2 k).map intV).length = nextL x1 x2 k := by
          rw [List.length_map]
          exact List.take_length ..
        rw [full] at hn3
        have fin := q k rfl hk H3 (sm.trans sm3)
        refine ⟨D2, _, _, rfl, rfl, SqL.of hn3, fun en => ?_, fun m hm hle => ?_⟩
        · have e : nextM x1 x2 k = none := by
            unfold nextM
            rw [en]
            rfl
          rw [e] at fin
          exact fin
        · have e : nextM x1 x2 k = some m := minL_is hm hle
          rw [e] at fin
          exact fin
end
end Pk
namespace Pk
open L2 PyProof.Rows PySem.Spec PySem
abbrev sEqR : Stmt := inClass (top 26) 9
/-- what is compared of two rules -/
structure RK where
  sty : Str
  cap : Str
  low : Str
  root : Bool
deriving DecidableEq
/-- at r: rules of these texts -/
def RulesK (C : Addr) (H : Hp) (r : Addr) (k : RK) : Prop := ∃ x1 x2, RulesAt C H r k.sty (.str k.cap) (.str k.low) (.bl k.root) x1 x2
structure InsIs (K : PySem.W.Frag) (C : Addr) : Prop where
  ha : (PySem.W.findIn K (.ref C) "__class__") = some (some (.builtin "object.__class__"))
  hn : (PySem.W.specialIn K (.builtin "object.__class__") "__get__") = some (some (.builtin "getset_descriptor.__get__"))
  ht : (PySem.W.takesIn K (.builtin "object.__class__")) = some true
  hm : (PySem.W.mroIn K C (.type "object")) = some true
  self : PySem.W.kitOne K (.ref C) (.ref C) = some true
  tup : PySem.W.kitOne K (.type "tuple") (.ref C) = some false
def rkD (k : RK) : PyData := .tuple [.str k.sty, .str k.cap, .str k.low, .bool k.root]
def spEqR (K : PySem.W.Frag) (C : Addr) : Sp := fun vs H Q _ => ∃ (r : Addr) (k : RK) (y : V), vs = [.ref r, y] ∧ RulesK C H r k ∧
  ((∃ a xs, y = .ref a ∧ H a = some (.tup xs) ∧ Q (.bl false) H) ∨ ∃ r2 k2, y = .ref r2 ∧ RulesK C H r2 k2 ∧ (rkD k).canLay0 = true ∧ (rkD k2).canLay0 = true ∧ ∀ H', Same H H' → Q (.bl (decide (k = k2))) H')
theorem rk_eqv (a b : RK) : PyData.eqv (rkD a) (rkD b) = decide (a = b) := by
  obtain ⟨a1, a2, a3, a4⟩ := a
  obtain ⟨b1, b2, b3, b4⟩ := b
  simp only [rkD, PyData.eqv, PyData.eqvAll, Bool.and_true]
  by_cases h : (RK.mk a1 a2 a3 a4) = RK.mk b1 b2 b3 b4
  · rw [decide_eq_true h]
    cases h
    simp
  · rw [decide_eq_false h]
    simp only [RK.mk.injEq, not_and] at h
    simp only [Bool.and_eq_false_iff, beq_eq_false_iff_ne, ne_eq]
    by_cases h1 : a1 = b1
    · by_cases h2 : a2 = b2
      · by_cases h3 : a3 = b3
        · exact .inr (.inr (.inr (h h1 h2 h3)))
        · exact .inr (.inr (.inl h3))
      · exact .inr (.inl h2)
    · exact .inl h1
theorem rk_shaped {k : RK} (h : (rkD k).canLay0 = true) : SeqAt.shaped (rkD k) = true := by
  have d : (rkD k).depth ≤ 64 := by
    simp [rkD, PyData.depth, PyData.depthAll]
  exact Bool.and_eq_true_iff.mpr ⟨h, decide_eq_true d⟩
section
variable {K : PySem.W.Frag} {P : Program} {w : World} {base : Heap} {mg : Str → Option Value} {C fI : Addr}
theorem sc_Rules___eq__ : FnScope ["self", "other", "one"] ["self", "other"] (defScope sEqR) := ⟨rfl, rfl, rfl, by decide +kernel, rfl, by decide +kernel, by decide +kernel⟩
theorem ok_Rules_eq {f : Addr} {fd : FuncData} (F : FunD K "__eq__" "Rules.__eq__" (defArgs sEqR) (defBody sEqR) (defScope sEqR) [] [] f fd) (RC : RulesC K mg C fI) (II : InsIs K C) (mIsi : mg "isinstance" = none) : FnOk P w K mg base CX0 1 f fd ["self", "other"] (spEqR K C) := by
  refine F.ok sc_Rules___eq__ (fun vs H Q E h => ?_) (fun cdv A outer s H vs Q E hr h => ?_)
  · obtain ⟨r, k, y, rfl, _⟩ := h
    rfl
  · obtain ⟨r, k, y, rfl, ⟨x1, x2, R⟩, hy⟩ := h
    refine ⟨_, PSs.nox (pss_cons (by exact (ps_if (pt_not (pt_val (pe_callB call_isi (by rfl) mIsi PyProof.Rows.boot_isinstance (pa_cons (pv 1) (pa_cons (pe_glob (v := .ref C) (by rfl) RC.g rfl) pa_nil))))) (pss_one (by exact (ps_ret pe_bl))) pss_nil)) (pss_cons (by exact (ps_set (i := 2) sc_Rules___eq__.nd rfl (Or.inl rfl) (pe_tup (pa_cons (pe_fld (pv 0) rfl) (pa_cons (pe_fld (pv 0) rfl) (pa_cons (pe_fld (pv 0) rfl) (pa_cons (pe_fld (pv 0) rfl) pa_nil))))))) (pss_one (by exact (ps_ret (pe_cmpR (op_eqDK K rfl (Room.units hr)) (pv 2) (pe_tup (pa_cons (pe_fld (pv 1) rfl) (pa_cons (pe_fld (pv 1) rfl) (pa_cons (pe_fld (pv 1) rfl) (pa_cons (pe_fld (pv 1) rfl) pa_nil))))) (nomark _))))))), ?_⟩
    rcases hy with ⟨a, xs, rfl, ha, q⟩ | ⟨r2, k2, rfl, ⟨y1, y2, R2⟩, o1, o2, q⟩
    · refine ⟨_, rfl, .ref a, _, .type "tuple", _, _, rfl, .own C, .base (.tup ha), II.tup, _, rfl, ?_⟩
      exact q
    · obtain ⟨dx, os, p1, p2, cs, ls, h1, _⟩ := R
      obtain ⟨dx2, os2, p3, p4, cs2, ls2, h2, _⟩ := R2
      refine ⟨_, rfl, .ref r2, _, .ref C, _, _, rfl, .own C, .base (.ins h2 RC.cls II.ha II.hn II.ht II.hm), II.self, _, rfl, ?_⟩
      refine ⟨_, rfl, r, C, dx, _, .str k.sty, rfl, h1, RC.cls, RC.no _ (by simp), rfl, _, rfl, r, C, dx, _, .str k.cap, rfl, h1, RC.cls, RC.no _ (by simp), rfl, _, rfl, r, C, dx, _, .str k.low, rfl, h1, RC.cls, RC.no _ (by simp), rfl, _, rfl, r, C, dx, _, .bl k.root, rfl, h1, RC.cls, RC.no _ (by simp), rfl, by show 4 ≤ sizeLine; decide, fun t ht => ?_⟩
      refine ⟨_, rfl, _, rfl, r2, C, dx2, _, .str k2.sty, rfl, same_new ht _ _ h2, RC.cls, RC.no _ (by simp), rfl, _, rfl, r2, C, dx2, _, .str k2.cap, rfl, same_new ht _ _ h2, RC.cls, RC.no _ (by simp), rfl, _, rfl, r2, C, dx2, _, .str k2.low, rfl, same_new ht _ _ h2, RC.cls, RC.no _ (by simp), rfl, _, rfl, r2, C, dx2, _, .bl k2.root, rfl, same_new ht _ _ h2, RC.cls, RC.no _ (by simp), rfl, by show 4 ≤ sizeLine; decide, fun t2 ht2 => ?_⟩
      have s1 := same_new (o := .tup [.str k.sty, .str k.cap, .str k.low, .bl k.root]) ht
      have s2 := same_new (o := .tup [.str k2.sty, .str k2.cap, .str k2.low, .bl k2.root]) ht2
      refine ⟨rkD k, rkD k2, .tup (SqT.of (s2 _ _ upd_same)) (.cons (.str _) (.cons (.str _) (.cons (.str _) (.cons (.bl _) .nil)))), .tup (SqT.of upd_same) (.cons (.str _) (.cons (.str _) (.cons (.str _) (.cons (.bl _) .nil)))), rk_shaped o1, rk_shaped o2, ?_⟩
      rw [rk_eqv]
      exact q _ (s1.trans s2)
end
end Pk
namespace Pk
open L2 PyProof.Rows PySem.Spec PySem
/-! ### the written share, read -/
def dW (d : Nat) : List Str := if d ≤ 1 then [] else ["//", numS d]
def dO (d : Nat) : Option Nat := if d ≤ 1 then none else some d
def wordsOf (i : It) (r : List (Bool × It)) (d : Nat) : List Str := itW i ++ restW r ++ dW d
def textOf (i : It) (r : List (Bool × It)) (d : Nat) : Str := Str.join " " (wordsOf i r d)
theorem itW_ne (i : It) : itW i ≠ [] := by
  cases i with
  | num n => intro z; cases z
  | fac f =>
    show (if f ≤ 1 then [("k" : Str)] else [numS f, ("*" : Str), ("k" : Str)]) ≠ []
    split <;> (intro z; cases z)
theorem sgW_plain (s : Bool) : sgW s ≠ "//" ∧ ¬ 32 ∈ (sgW s).cps.toList := by cases s <;> decide +kernel
theorem restW_plain : ∀ {r : List (Bool × It)}, (∀ p ∈ r, itOk p.2 = true) → ∀ w ∈ restW r, w ≠ "//" ∧ ¬ 32 ∈ w.cps.toList
  | [], _, w, hw => by cases hw
  | p :: r, h, w, hw => by
    rcases List.mem_cons.mp hw with e | e
    · rw [e]
      exact sgW_plain p.1
    · rcases List.mem_append.mp e with e | e
      · exact (it_plain (h p (by simp)) w e).2.2
      · exact restW_plain (fun q hq => h q (List.mem_cons_of_mem _ hq)) w e
theorem kOnly_terms : ∀ (r : List (Bool × It)) (s : Bool) (i : It), kOnly (termsOf s i r) = true
  | [], s, i => by
    cases i with
    | num n => rfl
    | fac f => rfl
  | p :: r, s, i => by
    show (List.all (_ :: termsOf p.1 p.2 r) _) = true
    rw [List.all_cons]
    have q := kOnly_terms r p.1 p.2
    unfold kOnly at q
    rw [q]
    cases i with
    | num n => rfl
    | fac f => rfl
theorem divM_plain {ws : List Str} {most : Nat} (h : ∀ w ∈ ws, w ≠ "//") : divM ws most = (sumM ws).map fun ts => (ts, none) := by
  by_cases g : 2 < ws.length
  · obtain ⟨pre, y, z, rfl, hp⟩ := two_back g
    rw [divM_two pre y z most hp, if_neg (h y (by simp))]
  · exact divM_few g
theorem share_text {i : It} {r : List (Bool × It)} {d : Nat} (h : itOk i = true) (hr : ∀ p ∈ r, itOk p.2 = true) (ok : sumOk (termsOf false i r) = true) (hd : d ≤ 6) : shareM (textOf i r d) = some (termsOf false i r, dO d) := by
  have numd : d < 13 := by omega
  have dp : ¬ 32 ∈ (numS d).cps.toList := (num_small d numd).2.2.2.2.2
  have sl : ¬ 32 ∈ ("//" : Str).cps.toList := by decide +kernel
  have free : ∀ w ∈ wordsOf i r d, 32 ∉ TL.tl w := fun w hw => by
    rcases List.mem_append.mp hw with e | e
    · rcases List.mem_append.mp e with e | e
      · exact (it_plain h w e).2.2.2
      · exact (restW_plain hr w e).2
    · unfold dW at e
      split at e
      · cases e
      · simp only [List.mem_cons, List.not_mem_nil, or_false] at e
        rcases e with e | e <;> rw [e]
        · exact sl
        · exact dp
  have ne : wordsOf i r d ≠ [] := fun z => by
    have q := List.append_eq_nil_iff.mp z
    exact itW_ne i (List.append_eq_nil_iff.mp q.1).1
  have sp := TL.split_join (y := " ") (s := 32) (S := []) (by rfl) (by decide +kernel) ne free
  rw [TL.join_eq] at sp
  have sm := sumM_all h hr ok
  have plain : ∀ w ∈ itW i ++ restW r, w ≠ "//" := fun w hw => by
    rcases List.mem_append.mp hw with e | e
    · exact (it_plain h w e).2.2.1
    · exact (restW_plain hr w e).1
  have dv : divM (wordsOf i r d) 6 = some (termsOf false i r, dO d) := by
    by_cases g : d ≤ 1
    · have e : wordsOf i r d = itW i ++ restW r := by
        show itW i ++ restW r ++ dW d = _
        rw [show dW d = [] from if_pos g, List.append_nil]
      rw [e, divM_plain plain, sm, show dO d = none from if_pos g]
      rfl
    · have e : wordsOf i r d = (itW i ++ restW r) ++ [("//" : Str), numS d] := by
        show itW i ++ restW r ++ dW d = _
        rw [show dW d = [("//" : Str), numS d] from if_neg g]
      have l0 : 0 < (itW i ++ restW r).length := by
        have q := itW_ne i
        rw [List.length_append]
        have := List.length_pos_iff.mpr q
        omega
      rw [e, divM_two _ _ _ _ l0, if_pos rfl, sm, (num_small d numd).1, show dO d = some d from if_neg g]
      show (if 2 ≤ d ∧ d ≤ 6 then some (termsOf false i r, some d) else none) = _
      rw [if_pos ⟨by omega, hd⟩]
  unfold shareM textOf
  rw [sp, dv]
  show (if kOnly (termsOf false i r) = true then some (termsOf false i r, dO d) else none) = _
  rw [if_pos (kOnly_terms r false i)]
/-! ### joining on -/
theorem join_app : ∀ {a b : List Str}, a ≠ [] → b ≠ [] → Str.join " " (a ++ b) = Str.join " " a ++ " " ++ Str.join " " b
  | [], _, h, _ => absurd rfl h
  | [x], [], _, h => absurd rfl h
  | [x], y :: b, _, _ => rfl
  | x :: z :: r, b, _, hb => by
    have q := join_app (a := z :: r) (b := b) (by simp) hb
    show x ++ " " ++ Str.join " " ((z :: r) ++ b) = (x ++ " " ++ Str.join " " (z :: r)) ++ " " ++ Str.join " " b
    rw [q]
    refine TL.ext_tl ?_
    simp only [TL.tl_append, List.append_assoc]
end Pk
namespace Pk
open L2 PyProof.Rows PySem.Spec PySem
/-! ### the share that the law writes, step by step -/
theorem restW_app : ∀ (r : List (Bool × It)) (p : Bool × It), restW (r ++ [p]) = restW r ++ (sgW p.1 :: itW p.2)
  | [], p => by
    show sgW p.1 :: (itW p.2 ++ []) = _
    rw [List.append_nil]
    rfl
  | q :: r, p => by
    show sgW q.1 :: (itW q.2 ++ restW (r ++ [p])) = (sgW q.1 :: (itW q.2 ++ restW r)) ++ _
    rw [restW_app r p, List.cons_append, List.append_assoc]
theorem termsOf_app : ∀ (r : List (Bool × It)) (s : Bool) (i : It) (p : Bool × It), termsOf s i (r ++ [p]) = termsOf s i r ++ [(sgZ p.1 * ((itT p.2).1 : Nat), (itT p.2).2)]
  | [], s, i, p => rfl
  | q :: r, s, i, p => by
    show (_ :: termsOf q.1 q.2 (r ++ [p])) = (_ :: termsOf q.1 q.2 r) ++ _
    rw [termsOf_app r q.1 q.2 p, List.cons_append]
theorem slopeT_app (a b : List Term) : slopeT (a ++ b) = slopeT a + slopeT b := by
  unfold slopeT
  rw [List.filterMap_append, List.sum_append]
theorem constT_app (a b : List Term) : constT (a ++ b) = constT a + constT b := by
  unfold constT
  rw [List.filterMap_append, List.sum_append]
theorem slope_none : ∀ {ts : List Term}, namesT ts = [] → slopeT ts = 0
  | [], _ => rfl
  | (c, none) :: ts, h => by
    have q := slope_none (ts := ts) h
    have e : slopeT ((c, none) :: ts) = slopeT [((c, none) : Term)] + slopeT ts := slopeT_app [((c, none) : Term)] ts
    rw [e, q]
    rfl
  | (c, some n) :: ts, h => by cases h
def itemS : It → Str
  | .num n => numS n
  | .fac f => (if 1 < f then numS f ++ " * " else Str.empty) ++ "k"
theorem item_join {i : It} (h : itOk i = true) : Str.join " " (itW i) = itemS i := by
  cases i with
  | num n => rfl
  | fac f =>
    by_cases hf : f ≤ 1
    · have e : itW (.fac f) = [("k" : Str)] := if_pos hf
      rw [e]
      show ("k" : Str) = (if 1 < f then numS f ++ " * " else Str.empty) ++ "k"
      rw [if_neg (by omega)]
      refine TL.ext_tl ?_
      rw [TL.tl_append]
      rfl
    · have e : itW (.fac f) = [numS f, ("*" : Str), ("k" : Str)] := if_neg hf
      rw [e]
      show numS f ++ " " ++ (("*" : Str) ++ " " ++ "k") = (if 1 < f then numS f ++ " * " else Str.empty) ++ "k"
      rw [if_pos (by omega)]
      refine TL.ext_tl ?_
      simp only [TL.tl_append, List.append_assoc]
      rfl
def itFac : It → Bool
  | .num _ => false
  | .fac _ => true
def sgS (s : Bool) : Str := if s then " - " else " + "
def ShI (pl j : Nat) (tx : Str) (sl co : Int) : Prop := (j = 0 ∧ tx = Str.empty ∧ sl = 0 ∧ co = 0) ∨ ∃ i r, j = r.length + 1 ∧ itOk i = true ∧ (∀ p ∈ r, itOk p.2 = true) ∧ tx = Str.join " " (itW i ++ restW r) ∧ sl = slopeT (termsOf false i r) ∧ co = constT (termsOf false i r) ∧
  namesT (termsOf false i r) = (if pl < j then [("k" : Str)] else [])
def addSl (sl : Int) (s : Bool) : It → Int
  | .num _ => sl
  | .fac f => sgZ s * (f : Nat)
def addCo (co : Int) (s : Bool) : It → Int
  | .num n => co + sgZ s * (n : Nat)
  | .fac _ => co
theorem ShI.step {pl j : Nat} {tx : Str} {sl co : Int} (h : ShI pl j tx sl co) {it : It} (ok : itOk it = true) {s : Bool} (hs : j = 0 → s = false) (hp : itFac it = decide (j = pl)) :
    ShI pl (j + 1) (tx ++ (if 0 < j then sgS s else Str.empty) ++ itemS it) (addSl sl s it) (addCo co s it) := by
  rcases h with ⟨rfl, rfl, rfl, rfl⟩ | ⟨i, r, rfl, oi, hr, rfl, rfl, rfl, hn⟩
  · have e := hs rfl
    subst e
    refine .inr ⟨it, [], rfl, ok, fun p hp => (by cases hp), ?_, ?_, ?_, ?_⟩
    · rw [if_neg (by omega), show itW it ++ restW [] = itW it from List.append_nil _, item_join ok]
      refine TL.ext_tl ?_
      rw [TL.tl_append, TL.tl_append]
      rfl
    · cases it with
      | num n => rfl
      | fac f =>
        show (1 : Int) * (f : Nat) = (1 : Int) * (f : Nat) + 0
        omega
    · cases it with
      | num n =>
        show (0 : Int) + 1 * (n : Nat) = (1 : Int) * (n : Nat) + 0
        omega
      | fac f => rfl
    · cases it with
      | num n =>
        have z : ¬ 0 = pl := by
          have q : false = decide (0 = pl) := hp
          exact of_decide_eq_false q.symm
        rw [if_neg (by omega)]
        rfl
      | fac f =>
        have z : 0 = pl := by
          have q : true = decide (0 = pl) := hp
          exact of_decide_eq_true q.symm
        rw [if_pos (by omega)]
        rfl
  · refine .inr ⟨i, r ++ [(s, it)], by rw [List.length_append]; rfl, oi, fun p hp => ?_, ?_, ?_, ?_, ?_⟩
    · rcases List.mem_append.mp hp with e | e
      · exact hr p e
      · rw [List.mem_singleton.mp e]; exact ok
    · have ne : itW i ++ restW r ≠ [] := fun z => itW_ne i (List.append_eq_nil_iff.mp z).1
      rw [restW_app, ← List.append_assoc, join_app ne (by simp), if_pos (by omega)]
      have e2 : Str.join " " (sgW s :: itW it) = sgW s ++ " " ++ itemS it := by
        have q := join_app (a := [sgW s]) (b := itW it) (by simp) (itW_ne it)
        rw [item_join ok] at q
        exact q
      rw [e2]
      refine TL.ext_tl ?_
      have e3 : TL.tl (sgS s) = TL.tl " " ++ TL.tl (sgW s) ++ TL.tl " " := by cases s <;> decide +kernel
      simp only [TL.tl_append, List.append_assoc, e3]
    · rw [termsOf_app, slopeT_app]
      cases it with
      | num n =>
        show slopeT (termsOf false i r) = slopeT (termsOf false i r) + 0
        omega
      | fac f =>
        have z : r.length + 1 = pl := by
          have q : true = decide (r.length + 1 = pl) := hp
          exact of_decide_eq_true q.symm
        have q := slope_none (ts := termsOf false i r) (by rw [hn, if_neg (by omega)])
        rw [q]
        show sgZ s * (f : Nat) = 0 + (sgZ s * (f : Nat) + 0)
        omega
    · rw [termsOf_app, constT_app]
      cases it with
      | num n =>
        show constT (termsOf false i r) + sgZ s * (n : Nat) = constT (termsOf false i r) + (sgZ s * (n : Nat) + 0)
        omega
      | fac f =>
        show constT (termsOf false i r) = constT (termsOf false i r) + 0
        omega
    · rw [termsOf_app, namesT_app, hn]
      cases it with
      | num n =>
        have z : ¬ r.length + 1 = pl := by
          have q : false = decide (r.length + 1 = pl) := hp
          exact of_decide_eq_false q.symm
        by_cases g : pl < r.length + 1
        · rw [if_pos g, if_pos (by omega)]
          rfl
        · rw [if_neg g, if_neg (by omega)]
          rfl
      | fac f =>
        have z : r.length + 1 = pl := by
          have q : true = decide (r.length + 1 = pl) := hp
          exact of_decide_eq_true q.symm
        rw [if_neg (by omega), if_pos (by omega)]
        rfl
end Pk
namespace Pk
open L2 PyProof.Rows PySem.Spec PySem
abbrev sLShare : Stmt := top 30
theorem BagO.dict {c m n o} (h : BagO c m n o) : ∃ kvs, o = .dK kvs := let ⟨_, _, _, e, _⟩ := h; ⟨_, e⟩
theorem str_len (a b : Str) : (a ++ b).length = a.length + b.length := by
  rw [TL.len_tl, TL.tl_append, List.length_append, ← TL.len_tl, ← TL.len_tl]
def dvs : List Nat := [1, 1, 2, 3, 6]
theorem dv_at (r : Int) (h0 : 0 ≤ r) (h1 : r < 5) : ∃ d : Nat, d ∈ dvs ∧ atI [V.int 1, .int 1, .int 2, .int 3, .int 6] r = some (.int (d : Nat)) := by
  have h : r = 0 ∨ r = 1 ∨ r = 2 ∨ r = 3 ∨ r = 4 := by omega
  rcases h with rfl | rfl | rfl | rfl | rfl
  · exact ⟨1, by decide, rfl⟩
  · exact ⟨1, by decide, rfl⟩
  · exact ⟨2, by decide, rfl⟩
  · exact ⟨3, by decide, rfl⟩
  · exact ⟨6, by decide, rfl⟩
theorem dvs_le : ∀ d ∈ dvs, 1 ≤ d ∧ d ≤ 6 := by decide
theorem termsOf_len : ∀ (r : List (Bool × It)) (s : Bool) (i : It), (termsOf s i r).length = r.length + 1
  | [], _, _ => rfl
  | p :: r, s, i => congrArg Nat.succ (termsOf_len r p.1 p.2)
def spLShare : Sp := fun vs H Q _ => ∃ (b c : Addr) (ns : List Int) (n : Int) (o : HO), vs = [.ref b] ∧ H b = some o ∧ BagO c ns.length n o ∧ n ≤ 900000 ∧ H c = some (.lst (ns.map V.int)) ∧
  ∀ (i : It) (r : List (Bool × It)) (d : Nat) (p t : Addr) (o' : HO) (n' : Int) (H' : Hp), itOk i = true → (∀ q ∈ r, itOk q.2 = true) → r.length ≤ 3 → sumOk (termsOf false i r) = true → d ∈ dvs → KeepB b H H' → H' b = some o' → BagO c ns.length n' o' → n' ≤ n + 11 →
    H p = none → H' p = some (.tup [.str (textOf i r d), .ref t]) → H' t = some (.tup [.int (slopeT (termsOf false i r)), .int (constT (termsOf false i r)), .int (d : Nat)]) → Q (.ref p) H'
section
variable {K : PySem.W.Frag} {P : Program} {w : World} {base : Heap} {mg : Str → Option Value}
theorem sc_law_share : FnScope ["_law_bag_here", "_law_many", "_law_place", "_law_text", "_law_slope", "_law_constant", "_law_k", "_law_sign", "_law_factor", "_law_number", "_law_divisor"] ["_law_bag_here"] (defScope sLShare) := ⟨rfl, rfl, rfl, by decide +kernel, rfl, by decide +kernel, by decide +kernel⟩
theorem ok_law_share {f fD : Addr} {fd fdD : FuncData} (F : FunD K "_law_share" "_law_share" (defArgs sLShare) (defBody sLShare) (defScope sLShare) [] [] f fd) (FD : FunD K "_law_draw" "_law_draw" (defArgs sDraw) (defBody sDraw) (defScope sDraw) [] [] fD fdD)
    (GD : FnOk P w K mg base CX0 1 fD fdD ["_law_bag_here", "_law_limit"] spDraw) (gD : mg "_law_draw" = some (.ref fD)) (mRange : mg "range" = none) (mInt : mg "int" = none) (mStr : mg "str" = none) : FnOk P w K mg base CX0 2 f fd ["_law_bag_here"] spLShare := by
  have bD : Binds K fdD ["_law_bag_here", "_law_limit"] [] := FD.bindsN fun _ _ _ _ _ _ us hl => match us, hl with | [_, _], _ => rfl
  refine F.ok sc_law_share (fun vs H Q E h => ?_) (fun cdv A outer s H vs Q E hr h => ?_)
  · obtain ⟨b, c, ns, n, o, rfl, _⟩ := h
    rfl
  · obtain ⟨b, c, ns, n, o, rfl, hb, hB, hn, hc, q⟩ := h
    obtain ⟨kv0, rfl⟩ := hB.dict
    have ncb : c ≠ b := ne_of hc hb (by intro z; cases z)
    refine ⟨_, PSs.nox (pss_cons (by exact (ps_par (i := 1) (j := 2) rfl sc_law_share.nd rfl rfl (by decide) rfl rfl (pa_cons (pe_op op_add pe_int (pe_call GD hr rfl gD FD.kp bD .nil pass0 (pa_cons (pv 0) (pa_cons pe_int pa_nil)))) (pa_cons (pe_call GD hr rfl gD FD.kp bD .nil pass0 (pa_cons (pv 0) (pa_cons pe_int pa_nil))) pa_nil)) rfl)) (pss_cons (by exact (ps_asg (pe_tup (pa_cons pe_str (pa_cons pe_int (pa_cons pe_int pa_nil)))) (pg_tupK (n := 3) K rfl rfl (pgs_cons (pg_name (i := 3) sc_law_share.nd rfl (Or.inl rfl)) (pgs_cons (pg_name (i := 4) sc_law_share.nd rfl (Or.inl rfl)) (pgs_cons (pg_name (i := 5) sc_law_share.nd rfl (Or.inl rfl)) pgs_nil)))))) (pss_cons (by exact (ps_for PassesOwn.never rfl (pi_range1 rfl mRange (pa_cons (pv 1) pa_nil)) (pg_name (i := 6) sc_law_share.nd rfl (Or.inl rfl)) (C8.pss_cut (by exact (ps_set (i := 7) sc_law_share.nd rfl (Or.inl rfl) (pe_ifExp (PW.pt (pw_or (pt_cmpR op_eq (pv 6) pe_int (nomark _)) (pw_or1 (pt_cmpR op_eq (pe_call GD hr rfl gD FD.kp bD .nil pass0 (pa_cons (pv 0) (pa_cons pe_int pa_nil))) pe_int (nomark _))))) pe_int (pe_un un_neg pe_int)))) (C8.pss_cut (by exact (ps_set (i := 3) sc_law_share.nd rfl (Or.inl rfl) (pe_op op_add_str (pv 3) (pe_op op_times01 (pe_ix (ix_listK K rfl) (pe_lst (pa_cons pe_str (pa_cons pe_str pa_nil))) (pe_callTy call_int1 (by rfl) mInt (by decide +kernel) (pa_cons (pe_cmpR op_lt (pv 7) pe_int (nomark _)) pa_nil)) (fun _ _ => rfl)) (pe_callTy call_int1 (by rfl) mInt (by decide +kernel) (pa_cons (pe_cmpR op_gt (pv 6) pe_int (nomark _)) pa_nil)))))) (pss_one (by exact (ps_if (pt_cmpR op_eq (pv 6) (pv 2) (nomark _)) (pss_cons (by exact (ps_set (i := 8) sc_law_share.nd rfl (Or.inl rfl) (pe_op op_add pe_int (pe_call GD hr rfl gD FD.kp bD .nil pass0 (pa_cons (pv 0) (pa_cons pe_int pa_nil)))))) (pss_cons (by exact (ps_set (i := 4) sc_law_share.nd rfl (Or.inl rfl) (pe_op op_mulW (pv 7) (pv 8)))) (pss_one (by exact (ps_set (i := 3) sc_law_share.nd rfl (Or.inl rfl) (pe_op op_add_str (pe_op op_add_str (pv 3) (pe_op op_times01 (pe_op op_add_str (pe_callTy call_str_int (by rfl) mStr (by decide +kernel) (pa_cons (pv 8) pa_nil)) pe_str) (pe_callTy call_int1 (by rfl) mInt (by decide +kernel) (pa_cons (pe_cmpR op_gt (pv 8) pe_int (nomark _)) pa_nil)))) pe_str)))))) (pss_cons (by exact (ps_set (i := 9) sc_law_share.nd rfl (Or.inl rfl) (pe_call GD hr rfl gD FD.kp bD .nil pass0 (pa_cons (pv 0) (pa_cons pe_int pa_nil))))) (pss_cons (by exact (ps_set (i := 5) sc_law_share.nd rfl (Or.inl rfl) (pe_op op_add (pv 5) (pe_op op_mulW (pv 7) (pv 9))))) (pss_one (by exact (ps_set (i := 3) sc_law_share.nd rfl (Or.inl rfl) (pe_op op_add_str (pv 3) (pe_callTy call_str_int (by rfl) mStr (by decide +kernel) (pa_cons (pv 9) pa_nil))))))))))))))) (pss_cons (by exact (ps_set (i := 10) sc_law_share.nd rfl (Or.inl rfl) (pe_ix (ix_listK K rfl) (pe_lst (pa_cons pe_int (pa_cons pe_int (pa_cons pe_int (pa_cons pe_int (pa_cons pe_int pa_nil)))))) (pe_call GD hr rfl gD FD.kp bD .nil pass0 (pa_cons (pv 0) (pa_cons pe_int pa_nil))) (fun _ _ => rfl)))) (pss_one (by exact (ps_ret (pe_tup (pa_cons (pe_op op_add_str (pv 3) (pe_op op_times01 (pe_op op_add_str pe_str (pe_callTy call_str_int (by rfl) mStr (by decide +kernel) (pa_cons (pv 10) pa_nil))) (pe_callTy call_int1 (by rfl) mInt (by decide +kernel) (pa_cons (pe_cmpR op_gt (pv 10) pe_int (nomark _)) pa_nil)))) (pa_cons (pe_tup (pa_cons (pv 4) (pa_cons (pv 5) (pa_cons (pv 10) pa_nil)))) pa_nil)))))))))), ?_⟩
    refine ⟨_, rfl, b, c, ns, 4, n, _, rfl, by decide, by decide, hb, hB, by omega, hc, fun r1 o1 a1 a2 B1 => ?_⟩
    obtain ⟨kv1, rfl⟩ := B1.dict
    have hc1 : upd H b (.dK kv1) c = some (.lst (ns.map V.int)) := by
      rw [upd_ne ncb]
      exact hc
    refine ⟨_, _, rfl, rfl, _, rfl, b, c, ns, 5, n + 1, _, rfl, by decide, by decide, upd_same, B1, by omega, hc1, fun r2 o2 a3 a4 B2 => ?_⟩
    obtain ⟨kv2, rfl⟩ := B2.dict
    rw [upd_upd]
    refine ⟨_, _, rfl, ?_⟩
    refine ⟨by show 3 ≤ sizeLine; decide, fun t0 ht0 => ⟨t0, _, rfl, SqT.of upd_same, rfl, _, _, rfl, _, _, rfl, _, _, rfl, rfl, ?_⟩⟩
    have tb : t0 ≠ b := fun z => by
      rw [z, upd_same] at ht0
      cases ht0
    obtain ⟨m1, rfl⟩ : ∃ m1 : Nat, r1 = (m1 : Int) := ⟨r1.toNat, by omega⟩
    obtain ⟨pl, rfl⟩ : ∃ pl : Nat, r2 = (pl : Int) := ⟨r2.toNat, by omega⟩
    have em : (1 + (m1 : Int)).toNat = 1 + m1 := by omega
    refine ⟨_, rfl, _, rfl, by omega, by omega, ?_⟩
    rw [em]
    refine for_range (lo := 0) (n := 1 + m1) (fun j σ H' => ∃ (tx : Str) (sl co : Int) (x6 x7 x8 x9 x10 : Option V) (o' : HO) (n' : Int), σ = [some (.ref b), some (.int (1 + (m1 : Int))), some (.int pl), some (.str tx), some (.int sl), some (.int co), x6, x7, x8, x9, x10] ∧ KeepB b H H' ∧ H' b = some o' ∧ BagO c ns.length n' o' ∧ n' ≤ n + 2 + 2 * (j : Int) ∧ tx.length ≤ 30 * j ∧ ShI pl j tx sl co) ?_ ?_ ?_
    · refine ⟨"", 0, 0, none, none, none, none, none, _, _, rfl, ?_, ?_, B2, by omega, by decide, .inl ⟨rfl, rfl, rfl, rfl⟩⟩
      · intro a o n e
        rw [upd_ne (fun z => by rw [← z, upd_ne n, e] at ht0; cases ht0), upd_ne n]
        exact e
      · rw [upd_ne (Ne.symm tb)]
        exact upd_same
    · rintro j σ H' hj ⟨tx, sl, co, x6, x7, x8, x9, x10, o', n', rfl, kB, hb', B', hn', hl', hS⟩
      have z0 : (0 : Int) + (j : Int) = (j : Int) := Int.zero_add _
      rw [z0]
      obtain ⟨kv', rfl⟩ := B'.dict
      have hc' : H' c = some (.lst (ns.map V.int)) := kB _ _ ncb hc
      refine ⟨fun σ H1 => ∃ (s : Bool) (o1 : HO) (n1 : Int), σ = [some (.ref b), some (.int (1 + (m1 : Int))), some (.int pl), some (.str tx), some (.int sl), some (.int co), some (.int j), some (.int (sgZ s)), x8, x9, x10] ∧ KeepB b H H1 ∧ H1 b = some o1 ∧ BagO c ns.length n1 o1 ∧ n1 ≤ n + 2 + 2 * (j : Int) + 1 ∧ (j = 0 → s = false), ?_, ?_⟩
      · refine ⟨_, rfl, rfl, _, rfl, ite2 (fun e => ?_) fun e => ?_⟩
        · exact ⟨false, _, _, rfl, kB, hb', B', by omega, fun _ => rfl⟩
        · have jn : ¬ j = 0 := fun z => e (decide_eq_true (by rw [z]; rfl))
          refine ⟨_, rfl, b, c, ns, 2, n', _, rfl, by decide, by decide, hb', B', by omega, hc', fun r3 o3 b1 b2 B3 => ?_⟩
          refine ⟨rfl, _, rfl, ite2 (fun e2 => ?_) fun e2 => ?_⟩
          · exact ⟨false, _, _, rfl, kB.trans KeepB.upd, upd_same, B3, by omega, fun _ => rfl⟩
          · exact ⟨_, rfl, true, _, _, rfl, kB.trans KeepB.upd, upd_same, B3, by omega, fun z => absurd z jn⟩
      · rintro σ H1 ⟨s, o1, n1, rfl, kB1, hb1, B1', hn1, hs0⟩
        obtain ⟨kv1', rfl⟩ := B1'.dict
        refine ⟨fun σ H2 => ∃ (o2 : HO), σ = [some (.ref b), some (.int (1 + (m1 : Int))), some (.int pl), some (.str (tx ++ (if 0 < j then sgS s else Str.empty))), some (.int sl), some (.int co), some (.int j), some (.int (sgZ s)), x8, x9, x10] ∧ KeepB b H H2 ∧ H2 b = some o2 ∧ BagO c ns.length n1 o2, ?_, ?_⟩
        · refine ⟨_, rfl, by show 2 ≤ sizeLine; decide, fun lp hlp => ?_⟩
          have kB2 := kB1.trans (same_new (o := .lst [.str " + ", .str " - "]) hlp).keepB
          have bp : lp ≠ b := fun z => by
            rw [z, hb1] at hlp
            cases hlp
          have hb2 : upd H1 lp (.lst [.str " + ", .str " - "]) b = some (.dK kv1') := by
            rw [upd_ne (Ne.symm bp)]
            exact hb1
          have ls3 : (sgS s).length = 3 := by cases s <;> decide +kernel
          have fin : ∀ (z : Str), z = (if 0 < j then sgS s else Str.empty) → tx.length + z.length ≤ sizeLine := fun z hz => by
            rw [hz]
            split
            · rw [ls3]
              exact Nat.le_trans (Nat.add_le_add_right hl' 3) (Nat.le_trans (show 30 * j + 3 ≤ 1000 by omega) (by decide))
            · exact Nat.le_trans (Nat.add_le_add_right hl' 0) (Nat.le_trans (show 30 * j + 0 ≤ 1000 by omega) (by decide))
          cases s with
          | false =>
            refine ⟨_, rfl, _, _, rfl, rfl, .inr ⟨_, rfl, lp, _, 0, .str " + ", rfl, rfl, SqL.of upd_same, rfl, _, rfl, _, _, rfl, rfl, .inr ⟨_, rfl, _, decide ((0 : Int) < (j : Int)), rfl, rfl, _, _, rfl, rfl, ?_, ?_⟩⟩⟩
            · refine fin _ ?_
              by_cases g : 0 < j
              · rw [if_pos g, decide_eq_true (show (0 : Int) < (j : Int) by omega)]; rfl
              · rw [if_neg g, decide_eq_false (show ¬ (0 : Int) < (j : Int) by omega)]; rfl
            · refine ⟨_, ?_, kB2, hb2, B1'⟩
              by_cases g : 0 < j
              · rw [if_pos g, decide_eq_true (show (0 : Int) < (j : Int) by omega)]; rfl
              · rw [if_neg g, decide_eq_false (show ¬ (0 : Int) < (j : Int) by omega)]; rfl
          | true =>
            refine ⟨_, rfl, _, _, rfl, rfl, .inr ⟨_, rfl, lp, _, 1, .str " - ", rfl, rfl, SqL.of upd_same, rfl, _, rfl, _, _, rfl, rfl, .inr ⟨_, rfl, _, decide ((0 : Int) < (j : Int)), rfl, rfl, _, _, rfl, rfl, ?_, ?_⟩⟩⟩
            · refine fin _ ?_
              by_cases g : 0 < j
              · rw [if_pos g, decide_eq_true (show (0 : Int) < (j : Int) by omega)]; rfl
              · rw [if_neg g, decide_eq_false (show ¬ (0 : Int) < (j : Int) by omega)]; rfl
            · refine ⟨_, ?_, kB2, hb2, B1'⟩
              by_cases g : 0 < j
              · rw [if_pos g, decide_eq_true (show (0 : Int) < (j : Int) by omega)]; rfl
              · rw [if_neg g, decide_eq_false (show ¬ (0 : Int) < (j : Int) by omega)]; rfl
        · rintro σ H2 ⟨o2, rfl, kB2, hb2, B2'⟩
          have hc2 : H2 c = some (.lst (ns.map V.int)) := kB2 _ _ ncb hc
          obtain ⟨kv2', rfl⟩ := B2'.dict
          have tl2 : (tx ++ (if 0 < j then sgS s else Str.empty)).length ≤ 30 * j + 3 := by
            have ls3 : (sgS s).length = 3 := by cases s <;> decide +kernel
            rw [str_len]
            split
            · omega
            · have : Str.empty.length = 0 := rfl
              omega
          have small : 30 * j + 20 ≤ 1000 := by omega
          have key := fun (it : It) (ok : itOk it = true) (hp : itFac it = decide (j = pl)) => hS.step ok hs0 hp
          generalize tx ++ (if 0 < j then sgS s else Str.empty) = T at tl2 key ⊢
          have n2 : ∀ f, f < 13 → (numS f).length ≤ 2 := by decide +kernel
          have lx : ∀ f (g : Bool), (numS f).length ≤ 2 → (if g = true then numS f ++ (" * " : Str) else Str.empty).length ≤ 5 := fun f g h => by
            split
            · rw [str_len]
              have : (" * " : Str).length = 3 := by decide +kernel
              omega
            · have : Str.empty.length = 0 := rfl
              omega
          have mulB : ∀ z : Int, 0 ≤ z → z ≤ 12 → CMulW (sgZ s) z := fun z h0 h1 => wide_mul (a := 2) (b := 10) (by cases s <;> decide) (by omega) (by decide) (by decide) (by decide)
          refine ⟨_, rfl, _, rfl, rfl, _, rfl, ite2 (fun e => ?_) fun e => ?_⟩
          · have jp : j = pl := by
              have z := V.int.inj (of_decide_eq_true e)
              omega
            refine ⟨_, rfl, b, c, ns, 12, n1, _, rfl, by decide, by decide, hb2, B2', by omega, hc2, fun r4 o4 c1 c2 B4 => ?_⟩
            obtain ⟨f4, rfl⟩ : ∃ f4 : Nat, r4 = (f4 : Int) := ⟨r4.toNat, by omega⟩
            have st := key (.fac (1 + f4)) (by show (decide (1 ≤ 1 + f4) && decide (1 + f4 ≤ 12)) = true; rw [decide_eq_true (by omega), decide_eq_true (by omega)]; rfl) (by show true = decide (j = pl); rw [decide_eq_true jp])
            have nl := n2 (1 + f4) (by omega)
            refine ⟨_, _, rfl, rfl, _, rfl, _, rfl, _, _, rfl, rfl, mulB _ (by omega) (by omega), ?_⟩
            refine ⟨_, rfl, _, rfl, _, rfl, Nat.lt_of_lt_of_le (PySem.Flt.log2_lt_of (k := 10) (by decide) (by omega)) (by decide), ?_⟩
            refine ⟨_, _, rfl, rfl, Nat.le_trans (Nat.add_le_add_right nl _) (by decide), _, rfl, _, _, rfl, rfl, .inr ⟨_, rfl, _, decide ((1 : Int) < 1 + (f4 : Int)), rfl, rfl, _, _, rfl, rfl, ?_, _, _, rfl, rfl, ?_, ?_⟩⟩
            · show T.length + (if decide ((1 : Int) < 1 + (f4 : Int)) = true then numS (1 + f4) ++ (" * " : Str) else Str.empty).length ≤ sizeLine
              exact Nat.le_trans (Nat.add_le_add tl2 (lx (1 + f4) (decide ((1 : Int) < 1 + (f4 : Int))) nl)) (Nat.le_trans (show 30 * j + 3 + 5 ≤ 1000 by omega) (by decide))
            · show (T ++ (if decide ((1 : Int) < 1 + (f4 : Int)) = true then numS (1 + f4) ++ (" * " : Str) else Str.empty)).length + ("k" : Str).length ≤ sizeLine
              rw [str_len]
              exact Nat.le_trans (Nat.add_le_add (Nat.add_le_add tl2 (lx (1 + f4) (decide ((1 : Int) < 1 + (f4 : Int))) nl)) (show ("k" : Str).length ≤ 1 by decide +kernel)) (Nat.le_trans (show 30 * j + 3 + 5 + 1 ≤ 1000 by omega) (by decide))
            · have et : T ++ (if decide ((1 : Int) < 1 + (f4 : Int)) = true then numS (1 + f4) ++ (" * " : Str) else Str.empty) ++ "k" = T ++ itemS (.fac (1 + f4)) := by
                refine TL.ext_tl ?_
                show _ = TL.tl (T ++ ((if 1 < 1 + f4 then numS (1 + f4) ++ (" * " : Str) else Str.empty) ++ "k"))
                by_cases g : 0 < f4
                · rw [decide_eq_true (show (1 : Int) < 1 + (f4 : Int) by omega), if_pos rfl, if_pos (show 1 < 1 + f4 by omega)]
                  simp only [TL.tl_append, List.append_assoc]
                · rw [decide_eq_false (show ¬ (1 : Int) < 1 + (f4 : Int) by omega), if_neg (by decide), if_neg (show ¬ 1 < 1 + f4 by omega)]
                  simp only [TL.tl_append, List.append_assoc]
              refine ⟨_, _, _, _, _, _, _, _, _, _, rfl, kB2.trans KeepB.upd, upd_same, B4, by omega, ?_, ?_⟩
              · show (T ++ (if decide ((1 : Int) < 1 + (f4 : Int)) = true then numS (1 + f4) ++ (" * " : Str) else Str.empty) ++ "k").length ≤ 30 * (j + 1)
                rw [str_len, str_len]
                have a := lx (1 + f4) (decide ((1 : Int) < 1 + (f4 : Int))) nl
                have b : ("k" : Str).length ≤ 1 := by decide +kernel
                omega
              · show ShI pl (j + 1) (T ++ (if decide ((1 : Int) < 1 + (f4 : Int)) = true then numS (1 + f4) ++ (" * " : Str) else Str.empty) ++ "k") (sgZ s * (1 + (f4 : Int))) co
                rw [et]
                exact st
          · have jp : ¬ j = pl := fun z => e (decide_eq_true (by rw [z]))
            refine ⟨_, rfl, b, c, ns, 12, n1, _, rfl, by decide, by decide, hb2, B2', by omega, hc2, fun r4 o4 c1 c2 B4 => ?_⟩
            obtain ⟨f4, rfl⟩ : ∃ f4 : Nat, r4 = (f4 : Int) := ⟨r4.toNat, by omega⟩
            have st := key (.num f4) (by show decide (f4 < 12) = true; exact decide_eq_true (by omega)) (by show false = decide (j = pl); rw [decide_eq_false jp])
            have nl := n2 f4 (by omega)
            refine ⟨_, rfl, _, rfl, _, rfl, _, _, rfl, rfl, mulB _ (by omega) (by omega), _, _, rfl, rfl, ?_⟩
            refine ⟨_, rfl, _, rfl, _, rfl, Nat.lt_of_lt_of_le (PySem.Flt.log2_lt_of (k := 10) (by decide) (by omega)) (by decide), _, _, rfl, rfl, ?_, ?_⟩
            · show T.length + (numS f4).length ≤ sizeLine
              exact Nat.le_trans (Nat.add_le_add tl2 nl) (Nat.le_trans (show 30 * j + 3 + 2 ≤ 1000 by omega) (by decide))
            · refine ⟨_, _, _, _, _, _, _, _, _, _, rfl, kB2.trans KeepB.upd, upd_same, B4, by omega, ?_, ?_⟩
              · show (T ++ numS f4).length ≤ 30 * (j + 1)
                rw [str_len]
                omega
              · exact st
    · rintro σ H' ⟨tx, sl, co, x6, x7, x8, x9, x10, o', n', rfl, kB, hb', B', hn', hl', hS⟩
      rcases hS with ⟨h0, _⟩ | ⟨i, r, hj, oi, hr2, rfl, rfl, rfl, hnm⟩
      · omega
      have lr : r.length ≤ 3 := by omega
      have hcF : H' c = some (.lst (ns.map V.int)) := kB _ _ ncb hc
      refine ⟨by show 5 ≤ sizeLine; decide, fun lp hlp => ?_⟩
      have bp : lp ≠ b := fun z => by
        rw [z, hb'] at hlp
        cases hlp
      have sL := same_new (o := .lst [.int 1, .int 1, .int 2, .int 3, .int 6]) hlp
      obtain ⟨kvF, rfl⟩ := B'.dict
      refine ⟨_, rfl, b, c, ns, 5, n', _, rfl, by decide, by decide, sL _ _ hb', B', by omega, sL _ _ hcF, fun r5 o5 c1 c2 B5 => ?_⟩
      obtain ⟨d, hd, hat⟩ := dv_at r5 c1 c2
      have hd6 : 1 ≤ d ∧ d ≤ 6 := dvs_le d hd
      refine ⟨lp, _, _, .int (d : Nat), rfl, rfl, SqL.of (by rw [upd_ne bp]; exact upd_same), hat, ?_⟩
      have nl : (numS d).length ≤ 2 := (show ∀ f, f < 13 → (numS f).length ≤ 2 by decide +kernel) d (by omega)
      have tl3 : (Str.join " " (itW i ++ restW r)).length ≤ 120 := by omega
      have four : (" // " : Str).length = 4 := by decide +kernel
      have lx : (if decide ((1 : Int) < (d : Int)) = true then (" // " : Str) ++ numS d else Str.empty).length ≤ 6 := by
        split
        · rw [str_len]
          omega
        · have : Str.empty.length = 0 := rfl
          omega
      refine ⟨_, rfl, _, rfl, _, rfl, Nat.lt_of_lt_of_le (PySem.Flt.log2_lt_of (k := 10) (by decide) (by omega)) (by decide), _, _, rfl, rfl, ?_, _, rfl, _, _, rfl, rfl, .inr ⟨_, rfl, _, decide ((1 : Int) < (d : Int)), rfl, rfl, _, _, rfl, rfl, ?_, ?_⟩⟩
      · show (" // " : Str).length + (numS d).length ≤ sizeLine
        rw [four]
        exact Nat.le_trans (Nat.add_le_add_left nl 4) (by decide)
      · show (Str.join " " (itW i ++ restW r)).length + (if decide ((1 : Int) < (d : Int)) = true then (" // " : Str) ++ numS d else Str.empty).length ≤ sizeLine
        exact Nat.le_trans (Nat.add_le_add tl3 lx) (by decide)
      refine ⟨_, rfl, _, rfl, _, rfl, by show 3 ≤ sizeLine; decide, fun t ht => ⟨by show 2 ≤ sizeLine; decide, fun p hp => ?_⟩⟩
      have et : Str.join " " (itW i ++ restW r) ++ (if decide ((1 : Int) < (d : Int)) = true then (" // " : Str) ++ numS d else Str.empty) = textOf i r d := by
        unfold textOf wordsOf
        by_cases g : d ≤ 1
        · rw [show dW d = [] from if_pos g, List.append_nil, decide_eq_false (show ¬ (1 : Int) < (d : Int) by omega), if_neg (by decide)]
          refine TL.ext_tl ?_
          rw [TL.tl_append]
          exact List.append_nil _
        · have ne : itW i ++ restW r ≠ [] := fun z => itW_ne i (List.append_eq_nil_iff.mp z).1
          rw [show dW d = [("//" : Str), numS d] from if_neg g, decide_eq_true (show (1 : Int) < (d : Int) by omega), if_pos rfl, join_app ne (by simp)]
          refine TL.ext_tl ?_
          have e4 : TL.tl " // " = TL.tl " " ++ (TL.tl "//" ++ TL.tl " ") := by decide +kernel
          have e5 : Str.join " " [("//" : Str), numS d] = ("//" : Str) ++ " " ++ numS d := rfl
          rw [e5]
          simp only [TL.tl_append, List.append_assoc, e4]
      have ok : sumOk (termsOf false i r) = true := by
        unfold sumOk
        have l4 : (termsOf false i r).length ≤ 4 := by
          rw [termsOf_len]
          omega
        have nd : (namesT (termsOf false i r)).Nodup := by
          rw [hnm]
          split <;> simp
        rw [decide_eq_true l4, decide_eq_true nd]
        rfl
      have kF : KeepB b H _ := ((kB.trans sL.keepB).trans (KeepB.upd (o := o5))).trans ((same_new (o := .tup [.int (slopeT (termsOf false i r)), .int (constT (termsOf false i r)), .int (d : Nat)]) ht).keepB)
      have sp2 := same_new (o := .tup [.str (textOf i r d), .ref t]) hp
      have hb5 : upd (upd H' lp (.lst [.int 1, .int 1, .int 2, .int 3, .int 6])) b o5 b = some o5 := upd_same
      have hbt := same_new (o := .tup [.int (slopeT (termsOf false i r)), .int (constT (termsOf false i r)), .int (d : Nat)]) ht _ _ hb5
      have hp0 : H p = none := by
        cases e : H p with
        | none => rfl
        | some u =>
          by_cases pb : p = b
          · rw [pb, hbt] at hp
            cases hp
          · rw [kF _ _ pb e] at hp
            cases hp
      show Q (.ref p) (upd _ p (.tup [.str (Str.join " " (itW i ++ restW r) ++ (if decide ((1 : Int) < (d : Int)) = true then (" // " : Str) ++ numS d else Str.empty)), .ref t]))
      rw [et]
      exact q i r d p t o5 (n' + 1) _ oi hr2 lr ok hd (kF.trans sp2.keepB) (sp2 _ _ hbt) B5 (by omega) hp0 upd_same (sp2 _ _ upd_same)
end
end Pk
namespace Pk
open L2 PyProof.Rows PySem.Spec PySem
abbrev sLAt : Stmt := top 31
abbrev sLRight : Stmt := top 32
def spLAt : Sp := fun vs H Q _ => ∃ (t : Addr) (s c : Int) (d : Nat) (k : Int), vs = [.ref t, .int k] ∧ H t = some (.tup [.int s, .int c, .int (d : Nat)]) ∧ 0 < d ∧ d < 2 ^ 100 ∧ s.natAbs < 2 ^ 400 ∧ k.natAbs < 2 ^ 400 ∧ Q (.int ((s * k + c) / (d : Int))) H
section
variable {K : PySem.W.Frag} {P : Program} {w : World} {base : Heap} {mg : Str → Option Value} {C fI : Addr}
theorem sc_law_at : FnScope ["_law_share_here", "_law_k"] ["_law_share_here", "_law_k"] (defScope sLAt) := ⟨rfl, rfl, rfl, by decide +kernel, rfl, by decide +kernel, by decide +kernel⟩
theorem ok_law_at {f : Addr} {fd : FuncData} (F : FunD K "_law_at" "_law_at" (defArgs sLAt) (defBody sLAt) (defScope sLAt) [] [] f fd) (mInt : mg "int" = none) : FnOk P w K mg base CX0 1 f fd ["_law_share_here", "_law_k"] spLAt := by
  refine F.ok sc_law_at (fun vs H Q E h => ?_) (fun cdv A outer s H vs Q E hr h => ?_)
  · obtain ⟨t, s, c, d, k, rfl, _⟩ := h
    rfl
  · obtain ⟨t, s, c, d, k, rfl, ht, d0, d1, s1, k1, q⟩ := h
    refine ⟨_, PSs.nox (pss_one (by exact (ps_ret (pe_op op_fdivW (pe_callTy call_int1 (by rfl) mInt (by decide +kernel) (pa_cons (pe_op op_add (pe_op op_mulW (pe_ix (ix_tupK K rfl) (pv 0) pe_int (fun _ _ => rfl)) (pv 1)) (pe_ix (ix_tupK K rfl) (pv 0) pe_int (fun _ _ => rfl))) pa_nil)) (pe_ix (ix_tupK K rfl) (pv 0) pe_int (fun _ _ => rfl)))))), ?_⟩
    refine ⟨_, rfl, t, _, _, .int s, rfl, rfl, SqT.of ht, rfl, _, rfl, _, _, rfl, rfl, wide_mul s1 k1 (by decide) (by decide) (by decide), ?_⟩
    refine ⟨_, rfl, t, _, _, .int c, rfl, rfl, SqT.of ht, rfl, _, _, rfl, rfl, .inl ⟨_, rfl, ?_⟩⟩
    exact ⟨_, rfl, t, _, _, .int (d : Nat), rfl, rfl, SqT.of ht, rfl, _, _, rfl, rfl, wide_div (b := 100) (by omega) (by omega) (by decide) (by decide), q⟩
def spLRight (C : Addr) : Sp := fun vs H Q _ => ∃ (r t1 t2 : Addr) (k : Int) (sty : Str) (cap low root : V) (x1 x2 : Share), vs = [.ref r, .ref t1, .ref t2, .int k] ∧ RulesAt C H r sty cap low root x1 x2 ∧ LineAt H t1 (lineM x1) ∧ LineAt H t2 (lineM x2) ∧ 1 ≤ k ∧ k.natAbs < 2 ^ 400 ∧ ∀ H', Same H H' → Q (.bl true) H'
theorem sc_law_right : FnScope ["_law_rules", "_law_cap", "_law_low", "_law_k"] ["_law_rules", "_law_cap", "_law_low", "_law_k"] (defScope sLRight) := ⟨rfl, rfl, rfl, by decide +kernel, rfl, by decide +kernel, by decide +kernel⟩
theorem ok_law_right {f fA fC fL fU : Addr} {fd fdA fdC fdL fdU : FuncData} (F : FunD K "_law_right" "_law_right" (defArgs sLRight) (defBody sLRight) (defScope sLRight) [] [] f fd) (RC : RulesC K mg C fI) (FA : FunD K "_law_at" "_law_at" (defArgs sLAt) (defBody sLAt) (defScope sLAt) [] [] fA fdA)
    (FC : FunD K "cap_at" "Rules.cap_at" (defArgs sCapAt) (defBody sCapAt) (defScope sCapAt) [] [] fC fdC) (FL : FunD K "low_at" "Rules.low_at" (defArgs sLowAt) (defBody sLowAt) (defScope sLowAt) [] [] fL fdL) (FU : FunD K "in_use" "Rules.in_use" (defArgs sInUse) (defBody sInUse) (defScope sInUse) [] [] fU fdU)
    (GA : FnOk P w K mg base CX0 1 fA fdA ["_law_share_here", "_law_k"] spLAt) (GC : FnOk P w K mg base (L2.CX P w) 4 fC fdC ["self", "k"] (spCapQ K C fun x1 x2 k => .int ((lineM x1).at_ k))) (GL : FnOk P w K mg base (L2.CX P w) 4 fL fdL ["self", "k"] (spCapQ K C fun x1 x2 k => .int ((lineM x2).at_ k)))
    (GU : FnOk P w K mg base (L2.CX P w) 4 fU fdU ["self", "k"] (spCapQ K C fun x1 x2 k => .bl (usedL x1 x2 k))) (gA : mg "_law_at" = some (.ref fA)) (mC : Meth K C "cap_at" fC) (mL : Meth K C "low_at" fL) (mU : Meth K C "in_use" fU) : FnOk P w K mg base CX0 5 f fd ["_law_rules", "_law_cap", "_law_low", "_law_k"] (spLRight C) := by
  have bA : Binds K fdA ["_law_share_here", "_law_k"] [] := FA.bindsN fun _ _ _ _ _ _ us hl => match us, hl with | [_, _], _ => rfl
  have bC : Binds K fdC ["self", "k"] [] := FC.bindsN fun _ _ _ _ _ _ us hl => match us, hl with | [_, _], _ => rfl
  have bL : Binds K fdL ["self", "k"] [] := FL.bindsN fun _ _ _ _ _ _ us hl => match us, hl with | [_, _], _ => rfl
  have bU : Binds K fdU ["self", "k"] [] := FU.bindsN fun _ _ _ _ _ _ us hl => match us, hl with | [_, _], _ => rfl
  refine F.ok sc_law_right (fun vs H Q E h => ?_) (fun cdv A outer s H vs Q E hr h => ?_)
  · obtain ⟨r, t1, t2, k, sty, cap, low, root, x1, x2, rfl, _⟩ := h
    rfl
  · obtain ⟨r, t1, t2, k, sty, cap, low, root, x1, x2, rfl, R, l1, l2, hk, kb, q⟩ := h
    obtain ⟨dx, os, p1, p2, cs, ls, h1, h2, h3, _⟩ := id R
    refine ⟨_, PSs.nox (pss_cons (by exact (ps_if (PW.pt (pw_or (pt_cmpR op_ne (pe_meth (pv 0) RC.cls mC GC (hr.mono (by decide)) bC .nil passF (pa_cons (pv 3) pa_nil)) (pe_call GA (hr.mono (by decide)) rfl gA FA.kp bA .nil pass0 (pa_cons (pv 1) (pa_cons (pv 3) pa_nil))) (nomark _)) (pw_or1 (pt_cmpR op_ne (pe_meth (pv 0) RC.cls mL GL (hr.mono (by decide)) bL .nil passF (pa_cons (pv 3) pa_nil)) (pe_call GA (hr.mono (by decide)) rfl gA FA.kp bA .nil pass0 (pa_cons (pv 2) (pa_cons (pv 3) pa_nil))) (nomark _))))) (pss_one (by exact (ps_ret pe_bl))) pss_nil)) (pss_one (by exact (ps_ret (pe_cmpR op_eq (pe_meth (pv 0) RC.cls mU GU (hr.mono (by decide)) bU .nil passF (pa_cons (pv 3) pa_nil)) (pe_and (pe_cmpR op_le pe_int (pe_call GA (hr.mono (by decide)) rfl gA FA.kp bA .nil pass0 (pa_cons (pv 2) (pa_cons (pv 3) pa_nil))) (nomark _)) (pe_one (pe_cmpR op_le (pe_call GA (hr.mono (by decide)) rfl gA FA.kp bA .nil pass0 (pa_cons (pv 2) (pa_cons (pv 3) pa_nil))) (pe_call GA (hr.mono (by decide)) rfl gA FA.kp bA .nil pass0 (pa_cons (pv 1) (pa_cons (pv 3) pa_nil))) (nomark _)))) (nomark _)))))), ?_⟩
    have a1 := shA h2
    have a2 := shA h3
    have d1 : (lineM x1).d < 2 ^ 100 := Nat.lt_of_le_of_lt (shareV_lt h2).2.2.2 (by decide)
    have d2 : (lineM x2).d < 2 ^ 100 := Nat.lt_of_le_of_lt (shareV_lt h3).2.2.2 (by decide)
    have kk : ∀ j : Int, V.int k = .int j → j.natAbs < 2 ^ 400 := fun j e => by
      cases e
      exact kb
    have no : ∀ {G : Prop}, (∀ j : Int, V.int k = .int j → ¬ 1 ≤ j) → G := fun z => absurd hk (z k rfl)
    refine ⟨_, rfl, r, dx, _, rfl, h1, rfl, _, rfl, r, .int k, _, sty, cap, low, root, x1, x2, rfl, R, Kd.int, kk, fun j ej _ H1 s1 => ?_, no⟩
    cases ej
    refine ⟨_, rfl, _, rfl, t1, (lineM x1).s, (lineM x1).c, (lineM x1).d, k, rfl, s1 _ _ l1, a1.1, d1, a1.2.2, kb, ?_⟩
    refine ⟨rfl, _, rfl, ite2 (fun e => ?_) fun _ => ?_⟩
    · have e' : (!decide (V.int ((lineM x1).at_ k) = V.int ((lineM x1).at_ k))) = true := e
      simp at e'
    refine ⟨_, rfl, r, dx, _, rfl, s1 _ _ h1, rfl, _, rfl, r, .int k, _, sty, cap, low, root, x1, x2, rfl, R.same s1, Kd.int, kk, fun j ej _ H2 s2 => ?_, no⟩
    cases ej
    have s12 := s1.trans s2
    refine ⟨_, rfl, _, rfl, t2, (lineM x2).s, (lineM x2).c, (lineM x2).d, k, rfl, s12 _ _ l2, a2.1, d2, a2.2.2, kb, ?_⟩
    refine ⟨rfl, _, rfl, ite2 (fun e => ?_) fun _ => ?_⟩
    · have e' : (!decide (V.int ((lineM x2).at_ k) = V.int ((lineM x2).at_ k))) = true := e
      simp at e'
    refine ⟨_, rfl, r, dx, _, rfl, s12 _ _ h1, rfl, _, rfl, r, .int k, _, sty, cap, low, root, x1, x2, rfl, R.same s12, Kd.int, kk, fun j ej _ H3 s3 => ?_, no⟩
    cases ej
    have s13 := s12.trans s3
    refine ⟨_, rfl, _, rfl, t2, (lineM x2).s, (lineM x2).c, (lineM x2).d, k, rfl, s13 _ _ l2, a2.1, d2, a2.2.2, kb, _, _, rfl, rfl, _, rfl, ite2 (fun e => ?_) fun e => ?_⟩
    · refine ⟨_, rfl, _, rfl, t2, (lineM x2).s, (lineM x2).c, (lineM x2).d, k, rfl, s13 _ _ l2, a2.1, d2, a2.2.2, kb, _, rfl, _, rfl, t1, (lineM x1).s, (lineM x1).c, (lineM x1).d, k, rfl, s13 _ _ l1, a1.1, d1, a1.2.2, kb, _, _, rfl, rfl, rfl, ?_⟩
      have u : usedL x1 x2 k = decide ((lineM x2).at_ k ≤ (lineM x1).at_ k) := by
        unfold usedL
        rw [show decide (1 ≤ (lineM x2).at_ k) = true from e, Bool.true_and]
      show Q (.bl (decide (V.bl (usedL x1 x2 k) = V.bl (decide ((lineM x2).at_ k ≤ (lineM x1).at_ k))))) H3
      rw [u, decide_eq_true rfl]
      exact q H3 s13
    · refine ⟨rfl, ?_⟩
      have u : usedL x1 x2 k = false := by
        unfold usedL
        rw [show decide (1 ≤ (lineM x2).at_ k) = false by simpa using (show ¬ decide (1 ≤ (lineM x2).at_ k) = true from e), Bool.false_and]
      show Q (.bl (decide (V.bl (usedL x1 x2 k) = V.bl false))) H3
      rw [u, decide_eq_true rfl]
      exact q H3 s13
end
end Pk
namespace Pk
open L2 PyProof.Rows PySem.Spec PySem
/-! ### the mathematics: next_in_use tells the least capacity in use from k on -/
theorem least_none {f s c : Int} (h : leastM f s c = none) : ∀ j, f ≤ j → ¬ 0 ≤ s * j + c := by
  intro j hj
  unfold leastM at h
  split at h
  · rename_i e
    split at h
    · cases h
    · rw [e, Int.zero_mul]
      omega
  · split at h
    · cases h
    · rename_i e1 e2
      split at h
      · cases h
      · rename_i g
        have sp : 0 < -s := by omega
        intro z
        have q : j ≤ c / (-s) := by
          refine Int.le_ediv_of_mul_le sp ?_
          have e : j * -s = -(s * j) := by rw [Int.mul_neg, Int.mul_comm]
          rw [e]
          omega
        omega
theorem least_some {f s c a : Int} {b : Option Int} (h : leastM f s c = some (a, b)) : ∀ j, (f ≤ j ∧ 0 ≤ s * j + c) ↔ (a ≤ j ∧ ∀ z, b = some z → j ≤ z) := by
  intro j
  unfold leastM at h
  split at h
  · rename_i e
    split at h
    · rename_i g
      cases h
      rw [e, Int.zero_mul]
      refine ⟨fun q => ⟨q.1, fun z y => by cases y⟩, fun q => ⟨q.1, by omega⟩⟩
    · cases h
  · split at h
    · rename_i e1 e2
      cases h
      have key : 0 ≤ s * j + c ↔ -(c / s) ≤ j := by
        have m := Int.mul_ediv_add_emod c s
        have m1 := Int.emod_nonneg c (show s ≠ 0 by omega)
        have m2 := Int.emod_lt_of_pos c e2
        constructor
        · intro z
          have y : s * (-(c / s)) < s * (j + 1) := by
            rw [Int.mul_add, Int.mul_one, Int.mul_neg]
            omega
          have := Int.lt_of_mul_lt_mul_left y (Int.le_of_lt e2)
          omega
        · intro z
          have y : s * (-(c / s)) ≤ s * j := Int.mul_le_mul_of_nonneg_left z (Int.le_of_lt e2)
          rw [Int.mul_neg] at y
          omega
      refine ⟨fun q => ⟨?_, fun z y => by cases y⟩, fun q => ?_⟩
      · have k := key.mp q.2
        split <;> omega
      · refine ⟨?_, key.mpr ?_⟩
        · have q1 := q.1
          split at q1 <;> omega
        · have q1 := q.1
          split at q1 <;> omega
    · rename_i e1 e2
      split at h
      · rename_i g
        cases h
        have sp : 0 < -s := by omega
        have e : j * -s = -(s * j) := by rw [Int.mul_neg, Int.mul_comm]
        have key : 0 ≤ s * j + c ↔ j ≤ c / (-s) := by
          rw [Int.le_ediv_iff_mul_le sp, e]
          omega
        refine ⟨fun q => ⟨q.1, fun z y => ?_⟩, fun q => ⟨q.1, key.mpr (q.2 _ rfl)⟩⟩
        cases y
        exact key.mp q.2
      · cases h
theorem at_step {l : Line} (d0 : 0 < l.d) {period : Nat} (hd : l.d ∣ period) (j rest : Int) : l.at_ (j * (period : Int) + rest) = l.at_ rest + j * (l.s * ((period : Int) / (l.d : Int))) := by
  obtain ⟨m, rfl⟩ := hd
  have d1 : (l.d : Int) ≠ 0 := by omega
  have e1 : (((l.d * m : Nat) : Int)) / (l.d : Int) = (m : Int) := by
    rw [Int.natCast_mul, Int.mul_ediv_cancel_left _ d1]
  rw [e1]
  show (l.s * (j * ((l.d * m : Nat) : Int) + rest) + l.c) / (l.d : Int) = (l.s * rest + l.c) / (l.d : Int) + j * (l.s * (m : Int))
  have e2 : l.s * (j * ((l.d * m : Nat) : Int) + rest) + l.c = (l.s * rest + l.c) + (j * (l.s * (m : Int))) * (l.d : Int) := by
    rw [Int.natCast_mul]
    simp only [Int.mul_add, Int.mul_assoc, Int.mul_comm, Int.mul_left_comm, Int.add_comm, Int.add_left_comm, Int.add_assoc]
  rw [e2, Int.add_mul_ediv_right _ _ d1]
theorem at_class {v : V} {x : Share} (h : shareV v = some x) {period : Nat} (hd : (lineM x).d ∣ period) (j rest : Int) : (lineM x).at_ (j * (period : Int) + rest) = (lineM x).at_ rest + slopeM x period * j := by
  rw [at_step (shareV_lt h).2.2.1 hd]
  unfold slopeM
  rw [Int.mul_comm j]
/-- y = j * period + rest is in use, told by two lines in j -/
theorem used_class {v1 v2 : V} {x1 x2 : Share} (h1 : shareV v1 = some x1) (h2 : shareV v2 = some x2) {period : Nat} (d1 : (lineM x1).d ∣ period) (d2 : (lineM x2).d ∣ period) (j rest : Int) :
    usedL x1 x2 (j * (period : Int) + rest) = true ↔ 0 ≤ slopeM x2 period * j + ((lineM x2).at_ rest - 1) ∧ 0 ≤ (slopeM x1 period - slopeM x2 period) * j + ((lineM x1).at_ rest - (lineM x2).at_ rest) := by
  unfold usedL
  rw [Bool.and_eq_true, decide_eq_true_iff, decide_eq_true_iff, at_class h1 d1, at_class h2 d2, Int.sub_mul]
  omega
/-- within a class: none, or the least one -/
theorem class_least {v1 v2 : V} {x1 x2 : Share} (h1 : shareV v1 = some x1) (h2 : shareV v2 = some x2) {period : Nat} (p0 : 0 < period) (d1 : (lineM x1).d ∣ period) (d2 : (lineM x2).d ∣ period) (k rest : Int) :
    (nextClassM x1 x2 k rest period = none → ∀ j, firstM k rest period ≤ j → usedL x1 x2 (j * (period : Int) + rest) = false) ∧
    ∀ m, nextClassM x1 x2 k rest period = some m → ∃ j, m = j * (period : Int) + rest ∧ firstM k rest period ≤ j ∧ usedL x1 x2 m = true ∧ ∀ i, firstM k rest period ≤ i → usedL x1 x2 (i * (period : Int) + rest) = true → j ≤ i := by
  have U := fun j => used_class h1 h2 d1 d2 j rest
  have no : ∀ {y : Int}, ¬ usedL x1 x2 y = true → usedL x1 x2 y = false := fun h => by simpa using h
  unfold nextClassM
  rcases e1 : oneM x1 x2 k rest period with _ | ⟨a, b⟩
  · refine ⟨fun _ j hj => no fun z => least_none e1 j hj ((U j).mp z).1, fun m h => by cases h⟩
  rcases e2 : otherM x1 x2 k rest period with _ | ⟨c, d⟩
  · refine ⟨fun _ j hj => no fun z => least_none e2 j hj ((U j).mp z).2, fun m h => by cases h⟩
  have L1 := least_some e1
  have L2' := least_some e2
  have both : ∀ j, (firstM k rest period ≤ j ∧ usedL x1 x2 (j * (period : Int) + rest) = true) ↔ ((if c > a then c else a) ≤ j ∧ (∀ z, b = some z → j ≤ z) ∧ ∀ z, d = some z → j ≤ z) := fun j => by
    rw [U j]
    constructor
    · rintro ⟨f, u1, u2⟩
      obtain ⟨q1, q2⟩ := (L1 j).mp ⟨f, u1⟩
      obtain ⟨q3, q4⟩ := (L2' j).mp ⟨f, u2⟩
      exact ⟨by split <;> omega, q2, q4⟩
    · rintro ⟨q, q2, q4⟩
      have qa : a ≤ j := by split at q <;> omega
      have qc : c ≤ j := by split at q <;> omega
      have r1 := (L1 j).mpr ⟨qa, q2⟩
      have r2 := (L2' j).mpr ⟨qc, q4⟩
      exact ⟨r1.1, r1.2, r2.2⟩
  show ((if (if c > a then c else a) ≤ lastM b d (if c > a then c else a) then some ((if c > a then c else a) * (period : Int) + rest) else none) = none → ∀ j, firstM k rest period ≤ j → usedL x1 x2 (j * (period : Int) + rest) = false) ∧ ∀ m, (if (if c > a then c else a) ≤ lastM b d (if c > a then c else a) then some ((if c > a then c else a) * (period : Int) + rest) else none) = some m → ∃ j, m = j * (period : Int) + rest ∧ firstM k rest period ≤ j ∧ usedL x1 x2 m = true ∧ ∀ i, firstM k rest period ≤ i → usedL x1 x2 (i * (period : Int) + rest) = true → j ≤ i
  generalize (if c > a then c else a) = L at both ⊢
  have last : L ≤ lastM b d L ↔ (∀ z, b = some z → L ≤ z) ∧ ∀ z, d = some z → L ≤ z := by
    cases b with
    | none => cases d with
      | none => exact ⟨fun _ => ⟨fun z e => (by cases e), fun z e => (by cases e)⟩, fun _ => Int.le_refl _⟩
      | some y => exact ⟨fun h => ⟨fun z e => (by cases e), fun z e => (by cases e; exact h)⟩, fun h => h.2 y rfl⟩
    | some x => cases d with
      | none => exact ⟨fun h => ⟨fun z e => (by cases e; exact h), fun z e => (by cases e)⟩, fun h => h.1 x rfl⟩
      | some y =>
        show L ≤ (if y < x then y else x) ↔ _
        constructor
        · intro h
          refine ⟨fun z e => ?_, fun z e => ?_⟩
          · cases e
            split at h <;> omega
          · cases e
            split at h <;> omega
        · rintro ⟨h1, h2⟩
          have q1 := h1 x rfl
          have q2 := h2 y rfl
          split <;> omega
  by_cases g : L ≤ lastM b d L
  · refine ⟨fun h => ?_, fun m h => ?_⟩
    · have h' : (if L ≤ lastM b d L then some (L * (period : Int) + rest) else none) = none := h
      rw [if_pos g] at h'
      cases h'
    · have h' : (if L ≤ lastM b d L then some (L * (period : Int) + rest) else none) = some m := h
      rw [if_pos g] at h'
      cases h'
      have q := (both L).mpr ⟨Int.le_refl _, last.mp g⟩
      exact ⟨L, rfl, q.1, q.2, fun i hi hu => ((both i).mp ⟨hi, hu⟩).1⟩
  · refine ⟨fun _ j hj => no fun z => g (last.mpr ?_), fun m h => ?_⟩
    · obtain ⟨q1, q2, q3⟩ := (both j).mp ⟨hj, z⟩
      exact ⟨fun z e => Int.le_trans q1 (q2 z e), fun z e => Int.le_trans q1 (q3 z e)⟩
    · have h' : (if L ≤ lastM b d L then some (L * (period : Int) + rest) else none) = some m := h
      rw [if_neg g] at h'
      cases h'
theorem first_iff {k rest : Int} {period : Nat} (p0 : 0 < period) (j : Int) : firstM k rest period ≤ j ↔ k ≤ j * (period : Int) + rest := by
  have p1 : (0 : Int) < (period : Int) := by omega
  unfold firstM
  generalize (period : Int) = p at p1 ⊢
  have m := Int.mul_ediv_add_emod (rest - k) p
  have m1 := Int.emod_nonneg (rest - k) (show p ≠ 0 by omega)
  have m2 := Int.emod_lt_of_pos (rest - k) p1
  constructor
  · intro z
    have y : p * (-((rest - k) / p)) ≤ p * j := Int.mul_le_mul_of_nonneg_left z (Int.le_of_lt p1)
    rw [Int.mul_neg] at y
    rw [Int.mul_comm j p]
    omega
  · intro z
    rw [Int.mul_comm j p] at z
    have y : p * (-((rest - k) / p)) < p * (j + 1) := by
      rw [Int.mul_add, Int.mul_one, Int.mul_neg]
      omega
    have := Int.lt_of_mul_lt_mul_left y (Int.le_of_lt p1)
    omega
theorem minL_spec : ∀ {ns : List Int} {m : Int}, minL ns = some m → m ∈ ns ∧ ∀ y ∈ ns, m ≤ y
  | [], m, h => by cases h
  | n :: ns, m, h => by
    cases h
    obtain ⟨h1, h2, h3⟩ := min_fold ns n
    refine ⟨?_, fun y hy => ?_⟩
    · rcases h1 with e | e
      · rw [e]
        simp
      · exact List.mem_cons_of_mem _ e
    · rcases List.mem_cons.mp hy with e | e
      · rw [e]
        exact h2
      · exact h3 y e
theorem minL_nil {ns : List Int} (h : minL ns = none) : ns = [] := by
  cases ns with
  | nil => rfl
  | cons n ns => cases h
/-- next_in_use: none, or the least capacity in use from k on -/
theorem next_least {v1 v2 : V} {x1 x2 : Share} (h1 : shareV v1 = some x1) (h2 : shareV v2 = some x2) (k : Int) :
    (nextM x1 x2 k = none → ∀ y, k ≤ y → usedL x1 x2 y = false) ∧ ∀ m, nextM x1 x2 k = some m → k ≤ m ∧ usedL x1 x2 m = true ∧ ∀ y, k ≤ y → usedL x1 x2 y = true → m ≤ y := by
  obtain ⟨p0, _⟩ := perM_ok h1 h2
  have d1 : (lineM x1).d ∣ perM x1 x2 := Nat.dvd_lcm_left _ _
  have d2 : (lineM x2).d ∣ perM x1 x2 := Nat.dvd_lcm_right _ _
  have C := fun rest => class_least h1 h2 p0 d1 d2 k rest
  have no : ∀ {y : Int}, ¬ usedL x1 x2 y = true → usedL x1 x2 y = false := fun h => by simpa using h
  have memI : ∀ i : Nat, i < perM x1 x2 → nextClassM x1 x2 k (i : Int) (perM x1 x2) ∈ nextL x1 x2 k := fun i hi => List.mem_map.mpr ⟨i, List.mem_range.mpr hi, rfl⟩
  have split : ∀ y : Int, k ≤ y → ∃ (i : Nat) (j : Int), i < perM x1 x2 ∧ y = j * ((perM x1 x2 : Nat) : Int) + (i : Int) ∧ firstM k (i : Int) (perM x1 x2) ≤ j := fun y hy => by
    have pz : ((perM x1 x2 : Nat) : Int) ≠ 0 := by omega
    have e0 := Int.emod_nonneg y pz
    have e1 := Int.emod_lt_of_pos y (show (0 : Int) < ((perM x1 x2 : Nat) : Int) by omega)
    have e2 := Int.mul_ediv_add_emod y ((perM x1 x2 : Nat) : Int)
    obtain ⟨i, hi⟩ : ∃ i : Nat, y % ((perM x1 x2 : Nat) : Int) = (i : Int) := ⟨(y % ((perM x1 x2 : Nat) : Int)).toNat, by omega⟩
    have e3 : y = y / ((perM x1 x2 : Nat) : Int) * ((perM x1 x2 : Nat) : Int) + (i : Int) := by
      rw [Int.mul_comm, ← hi]
      exact e2.symm
    exact ⟨i, y / ((perM x1 x2 : Nat) : Int), by omega, e3, (first_iff p0 _).mpr (by rw [← e3]; exact hy)⟩
  refine ⟨fun h y hy => ?_, fun m h => ?_⟩
  · obtain ⟨i, j, hi, e, hf⟩ := split y hy
    have z := minL_nil h
    rw [e]
    refine (C (i : Int)).1 ?_ j hf
    cases q : nextClassM x1 x2 k (i : Int) (perM x1 x2) with
    | none => rfl
    | some w =>
      have w1 : w ∈ (nextL x1 x2 k).filterMap id := List.mem_filterMap.mpr ⟨some w, by rw [← q]; exact memI i hi, rfl⟩
      rw [z] at w1
      cases w1
  · obtain ⟨mm, ml⟩ := minL_spec h
    obtain ⟨o, ho, eo⟩ := List.mem_filterMap.mp mm
    obtain ⟨i, _, ei⟩ := List.mem_map.mp ho
    have en : nextClassM x1 x2 k (i : Int) (perM x1 x2) = some m := ei.trans eo
    obtain ⟨j, ej, hf, hu, hl⟩ := (C (i : Int)).2 m en
    refine ⟨by rw [ej]; exact (first_iff p0 j).mp hf, hu, fun y hy huy => ?_⟩
    obtain ⟨i2, j2, hi2, e2, hf2⟩ := split y hy
    cases q : nextClassM x1 x2 k (i2 : Int) (perM x1 x2) with
    | none =>
      have z := (C (i2 : Int)).1 q j2 hf2
      rw [← e2, huy] at z
      cases z
    | some w =>
      obtain ⟨j3, e3, hf3, hu3, hl3⟩ := (C (i2 : Int)).2 w q
      have w1 : w ∈ (nextL x1 x2 k).filterMap id := List.mem_filterMap.mpr ⟨some w, by rw [← q]; exact memI i2 hi2, rfl⟩
      have a := ml w w1
      have b := hl3 j2 hf2 (by rw [← e2]; exact huy)
      have c : w ≤ y := by
        rw [e3, e2]
        have := Int.mul_le_mul_of_nonneg_right b (show (0 : Int) ≤ ((perM x1 x2 : Nat) : Int) by omega)
        omega
      omega
end Pk
namespace Pk
open L2 PyProof.Rows PySem.Spec PySem
/-! ### what the law's search below 700 rests on -/
theorem neg_step {S i j : Int} (h : S ≤ 0) (hij : i ≤ j) : j * S ≤ i * S := Int.mul_le_mul_of_nonpos_right hij h
theorem below {l1 l2 : Line} (a1 : l1.d = 1 ∨ l1.d = 2 ∨ l1.d = 3 ∨ l1.d = 6) (a2 : l2.d = 1 ∨ l2.d = 2 ∨ l2.d = 3 ∨ l2.d = 6) (c1 : -44 ≤ l1.c ∧ l1.c ≤ 44) (c2 : -44 ≤ l2.c ∧ l2.c ≤ 44) {y : Int} (hy : 700 ≤ y) (u1 : 1 ≤ l2.at_ y) (u2 : l2.at_ y ≤ l1.at_ y) :
    ∃ z : Int, 690 ≤ z ∧ z < 700 ∧ 1 ≤ l2.at_ z ∧ l2.at_ z ≤ l1.at_ z := by
  have p1 : l1.d ∣ 6 := by rcases a1 with e | e | e | e <;> rw [e] <;> decide
  have p2 : l2.d ∣ 6 := by rcases a2 with e | e | e | e <;> rw [e] <;> decide
  have q1 : 0 < l1.d := by omega
  have q2 : 0 < l2.d := by omega
  obtain ⟨j, rest, ey, r0, r6⟩ : ∃ j rest : Int, y = j * 6 + rest ∧ 0 ≤ rest ∧ rest < 6 := ⟨y / 6, y % 6, by omega, by omega, by omega⟩
  have hj : 115 ≤ j := by omega
  have s1 := fun i : Int => at_step q1 p1 i rest
  have s2 := fun i : Int => at_step q2 p2 i rest
  have cast : ((6 : Nat) : Int) = 6 := rfl
  rw [cast] at s1 s2
  rw [ey, s1 j, s2 j] at u2
  rw [ey, s2 j] at u1
  refine ⟨115 * 6 + rest, by omega, by omega, ?_, ?_⟩
  · by_cases h : l2.s ≤ 0
    · rw [s2 115]
      have k : 0 ≤ (6 : Int) / (l2.d : Int) := Int.ediv_nonneg (by decide) (by omega)
      have S : l2.s * ((6 : Int) / (l2.d : Int)) ≤ 0 := Int.mul_nonpos_of_nonpos_of_nonneg h k
      have := neg_step S hj
      omega
    · have m : (1 : Int) * (115 * 6 + rest) ≤ l2.s * (115 * 6 + rest) := Int.mul_le_mul_of_nonneg_right (by omega) (by omega)
      show 1 ≤ (l2.s * (115 * 6 + rest) + l2.c) / (l2.d : Int)
      rw [Int.le_ediv_iff_mul_le (by omega)]
      omega
  · by_cases h : l1.s * (l2.d : Int) - l2.s * (l1.d : Int) ≤ 0
    · rw [s1 115, s2 115]
      have T : l1.s * ((6 : Int) / (l1.d : Int)) - l2.s * ((6 : Int) / (l2.d : Int)) ≤ 0 := by
        rcases a1 with e | e | e | e <;> rcases a2 with e' | e' | e' | e' <;> rw [e, e'] at h <;> rw [e, e'] <;> simp at h ⊢ <;> omega
      have := neg_step T hj
      rw [Int.mul_sub, Int.mul_sub] at this
      omega
    · generalize hz : (115 : Int) * 6 + rest = z at *
      have z0 : 690 ≤ z := by omega
      have m : (1 : Int) * z ≤ (l1.s * (l2.d : Int) - l2.s * (l1.d : Int)) * z := Int.mul_le_mul_of_nonneg_right (by omega) (by omega)
      rw [Int.sub_mul] at m
      show (l2.s * z + l2.c) / (l2.d : Int) ≤ (l1.s * z + l1.c) / (l1.d : Int)
      have e1 : l1.s * (l2.d : Int) * z = (l2.d : Int) * (l1.s * z) := by rw [Int.mul_comm l1.s, Int.mul_assoc]
      have e2 : l2.s * (l1.d : Int) * z = (l1.d : Int) * (l2.s * z) := by rw [Int.mul_comm l2.s, Int.mul_assoc]
      rw [e1, e2] at m
      generalize l1.s * z = A at m ⊢
      generalize l2.s * z = B at m ⊢
      rcases a1 with e | e | e | e <;> rcases a2 with e' | e' | e' | e' <;> rw [e, e'] at m <;> rw [e, e'] <;> simp at m ⊢ <;> omega
end Pk
namespace Pk
open L2 PyProof.Rows PySem.Spec PySem
abbrev sLRef : Stmt := top 35
/-- the two classes on each other -/
structure TwoE (K : PySem.W.Frag) : Prop where
  ss : PySem.W.exmOne K (.ref (He.ga K "BadStyle")) (.ref (He.ga K "BadStyle")) = some true
  us : PySem.W.exmOne K (.ref (He.ga K "BadSum")) (.ref (He.ga K "BadStyle")) = some false
  uu : PySem.W.exmOne K (.ref (He.ga K "BadSum")) (.ref (He.ga K "BadSum")) = some true
/-- what the law is told -/
def spLRef (K : PySem.W.Frag) : Sp := fun vs H Q _ => ∃ (a b c : V) (ta tb tc : Value), vs = [a, b, c] ∧ Kd K H a ta ∧ Kd K H b tb ∧ Kd K H c tc ∧ okLen b = true ∧ okLen c = true ∧
  (styV a = none → ∀ p H', Same H H' → H p = none → H' p = some (.tup [.str "style", a]) → Q (.ref p) H') ∧
  ∀ sty, styV a = some sty → (shareV b = none → ∀ p H', Same H H' → H p = none → H' p = some (.tup [.str "sum", b]) → Q (.ref p) H') ∧ ∀ x1, shareV b = some x1 → (shareV c = none → ∀ p H', Same H H' → H p = none → H' p = some (.tup [.str "sum", c]) → Q (.ref p) H') ∧ ∀ x2, shareV c = some x2 → ∀ H', Same H H' → Q .non H'
section
variable {K : PySem.W.Frag} {P : Program} {w : World} {base : Heap} {mg : Str → Option Value} {C fI : Addr}
theorem sc_law_refused : FnScope ["_law_style", "_law_cap", "_law_low", "e"] ["_law_style", "_law_cap", "_law_low"] (defScope sLRef) := ⟨rfl, rfl, rfl, by decide +kernel, rfl, by decide +kernel, by decide +kernel⟩
theorem ok_law_refused {f : Addr} {fd fdI : FuncData} {ds : List Value} (F : FunD K "_law_refused" "_law_refused" (defArgs sLRef) (defBody sLRef) (defScope sLRef) [] [] f fd) (RC : RulesC K mg C fI) (GI : FnOk P w K mg base (L2.CX P w) 6 fI fdI ["self", "style", "cap", "low", "root"] (spInit K C))
    (bI : Binds K fdI ["self", "style", "cap", "low", "root"] ds) (dI : Vals [V.bl true] ds) (ER : Errs P K mg) (TE2 : TwoE K) (xS : XfC K (He.ga K "BadStyle")) (xU : XfC K (He.ga K "BadSum")) : FnOk P w K mg base CX0 8 f fd ["_law_style", "_law_cap", "_law_low"] (spLRef K) := by
  refine F.ok sc_law_refused (fun vs H Q E h => ?_) (fun cdv A outer s H vs Q E hr h => ?_)
  · obtain ⟨a, b, c, ta, tb, tc, rfl, _⟩ := h
    rfl
  · obtain ⟨a, b, c, ta, tb, tc, rfl, ka, kb, kc, lb, lc, q0, q⟩ := h
    obtain ⟨_, IS⟩ := ER.iBadStyle
    obtain ⟨_, IU⟩ := ER.iBadSum
    refine ⟨_, PSs.nox (pss_cons (by exact (ps_try_all rfl rfl sc_law_refused.nd rfl takes_noX (fun W pn xe tkW po => pss_one (by exact (ps_expr (pe_makeS RC.made GI hr rfl RC.g bI dI (fun σ => passAt tkW σ) (pa_cons (pv 0) (pa_cons (pv 1) (pa_cons (pv 2) pa_nil))))))) (HdsA.as_ (i := 3) ⟨rfl, rfl, .inl ER.gBadStyle⟩ rfl rfl (fun a pn => (pss_one (by exact (ps_ret (pe_tup (pa_cons pe_str (pa_cons (pe_xfTK K rfl (pv 3)) pa_nil))))))) (HdsA.as_ (i := 3) ⟨rfl, rfl, .inl ER.gBadSum⟩ rfl rfl (fun a pn => (pss_one (by exact (ps_ret (pe_tup (pa_cons pe_str (pa_cons (pe_xfTK K rfl (pv 3)) pa_nil))))))) HdsA.nil)))) (pss_one (by exact (ps_ret pe_non)))), ?_⟩
    refine ⟨_, rfl, _, rfl, _, rfl, fun x dx nx nd ndx => ?_⟩
    have nx' : upd H dx (.own x) x = none := by
      rw [upd_ne (Ne.symm ndx)]
      exact nx
    have sA : Same H (upd (upd H dx (.own x)) x (.ins C dx [])) := (same_new nd).step nx'
    refine ⟨x, dx, a, b, c, .bl true, ta, tb, tc, rfl, upd_same, ka.mono sA, kb.mono sA, kc.mono sA, lb, lc, fun z d H1 s1 n1 => ?_, fun sty es => ?_⟩
    · have sB := (sA.trans s1).step (o := .xd [("style", a)]) n1
      refine ⟨true, TE2.ss, fun _ e he => ?_, fun z => (nomatch z)⟩
      have sC := sB.step (o := excE e (.ref (He.ga K "BadStyle")) (some d)) he
      refine ⟨_, rfl, e, _, d, _, _, rfl, upd_same, same_new he _ _ upd_same, xS, IS.no "style" (by simp), rfl, by show 2 ≤ sizeLine; decide, fun p hp => ?_⟩
      exact q0 z p _ (sC.step hp) (sC.back hp) upd_same
    · obtain ⟨q1, q2⟩ := q sty es
      refine ⟨fun z d H1 s1 n1 => ?_, fun x1 e1 => ?_⟩
      · have sB := (sA.trans s1).step (o := .xd [("text", b)]) n1
        refine ⟨false, TE2.us, fun z => (nomatch z), fun _ => ⟨true, TE2.uu, fun _ e he => ?_, fun z => (nomatch z)⟩⟩
        have sC := sB.step (o := excE e (.ref (He.ga K "BadSum")) (some d)) he
        refine ⟨_, rfl, e, _, d, _, _, rfl, upd_same, same_new he _ _ upd_same, xU, IU.no "text" (by simp), rfl, by show 2 ≤ sizeLine; decide, fun p hp => ?_⟩
        exact q1 z p _ (sC.step hp) (sC.back hp) upd_same
      · obtain ⟨q3, q4⟩ := q2 x1 e1
        refine ⟨fun z d H1 s1 n1 => ?_, fun x2 e2 H' kB R => ⟨rfl, ?_⟩⟩
        · have sB := (sA.trans s1).step (o := .xd [("text", c)]) n1
          refine ⟨false, TE2.us, fun z => (nomatch z), fun _ => ⟨true, TE2.uu, fun _ e he => ?_, fun z => (nomatch z)⟩⟩
          have sC := sB.step (o := excE e (.ref (He.ga K "BadSum")) (some d)) he
          refine ⟨_, rfl, e, _, d, _, _, rfl, upd_same, same_new he _ _ upd_same, xU, IU.no "text" (by simp), rfl, by show 2 ≤ sizeLine; decide, fun p hp => ?_⟩
          exact q3 z p _ (sC.step hp) (sC.back hp) upd_same
        · refine q4 x2 e2 H' fun u o e => ?_
          have ux : u ≠ x := fun z => by
            rw [z, nx] at e
            cases e
          exact kB u o ux (sA u o e)
end
end Pk
namespace Pk
open L2 PyProof.Rows PySem.Spec PySem
abbrev sLEq : Stmt := top 34
def goodT (s : Str) : Prop := s.length ≤ 900000 ∧ (PyData.str s).canLay0 = true ∧ ∃ x, shareM s = some x
def goodK (k : RK) : Prop := k.sty ∈ STYL ∧ goodT k.cap ∧ goodT k.low
theorem goodK.lay {k : RK} (h : goodK k) : (rkD k).canLay0 = true := by
  have s : ∀ z ∈ STYL, (PyData.str z).canLay0 = true := by decide +kernel
  have a := s _ h.1
  have b := h.2.1.2.1
  have c := h.2.2.2.1
  simp only [rkD, PyData.canLay0, PyData.canLayAll0] at a b c ⊢
  rw [a, b, c]
  rfl
section
variable {K : PySem.W.Frag} {P : Program} {w : World} {base : Heap} {mg : Str → Option Value} {C fI : Addr}
/-- Rules(..) of good texts -/
theorem mk_rules {H : Hp} {Q : VK} (k : RK) (g : goodK k) {x dx : Addr} (nx : H x = none) (nd : H dx = none) (ndx : dx ≠ x) (q : ∀ H', Same H H' → RulesK C H' x k → Q .non H') :
    spInit K C [.ref x, .str k.sty, .str k.cap, .str k.low, .bl k.root] (upd (upd H dx (.own x)) x (.ins C dx [])) Q (fun _ _ _ => False) := by
  obtain ⟨hs, ⟨l1, _, x1, e1⟩, l2, _, x2, e2⟩ := g
  have nx' : upd H dx (.own x) x = none := by
    rw [upd_ne (Ne.symm ndx)]
    exact nx
  have sA : Same H (upd (upd H dx (.own x)) x (.ins C dx [])) := (same_new nd).step nx'
  refine ⟨x, dx, .str k.sty, .str k.cap, .str k.low, .bl k.root, _, _, _, rfl, upd_same, Kd.str, Kd.str, Kd.str, decide_eq_true l1, decide_eq_true l2, fun z => ?_, fun sty es => ⟨fun z => ?_, fun y1 h1 => ⟨fun z => ?_, fun y2 h2 H' kB R => q H' (fun u o e => ?_) ?_⟩⟩⟩
  · have z' : (if k.sty ∈ STYL then some k.sty else none) = none := z
    rw [if_pos hs] at z'
    cases z'
  · have z' : shareM k.cap = none := z
    rw [e1] at z'
    cases z'
  · have z' : shareM k.low = none := z
    rw [e2] at z'
    cases z'
  · have ux : u ≠ x := fun z => by
      rw [z, nx] at e
      cases e
    exact kB u o ux (sA u o e)
  · have es' : (if k.sty ∈ STYL then some k.sty else none) = some sty := es
    rw [if_pos hs] at es'
    cases es'
    exact ⟨y1, y2, R⟩
theorem RulesK.same {H H' : Hp} {r : Addr} {k : RK} (h : RulesK C H r k) (s : Same H H') : RulesK C H' r k := by
  obtain ⟨x1, x2, R⟩ := h
  exact ⟨x1, x2, R.same s⟩
/-- rules == rules -/
theorem eq_rules {H : Hp} {Q : VK} {r r2 : Addr} {k k2 : RK} (RC : RulesC K mg C fI) (II : InsIs K C) (h : RulesK C H r k) (h2 : RulesK C H r2 k2) (g : goodK k) (g2 : goodK k2) (nf : PySem.W.notFirst K C (.ref C) = true) (q : ∀ H', Same H H' → Q (.bl (decide (k = k2))) H') : rEqI K C (spEqR K C) (.ref r) (.ref r2) H Q := by
  obtain ⟨x1, x2, dx, os, p1, p2, cs, ls, e, _⟩ := id h
  obtain ⟨y1, y2, dx2, os2, p3, p4, cs2, ls2, e2, _⟩ := id h2
  exact ⟨r, dx, _, _, rfl, e, .base (.ins e2 RC.cls II.ha II.hn II.ht II.hm), nf, r, k, .ref r2, rfl, h, .inr ⟨r2, k2, rfl, h2, g.lay, g2.lay, fun H' s => ⟨_, rfl, q H' s⟩⟩⟩
theorem ne_rules {H : Hp} {Q : VK} {r r2 : Addr} {k k2 : RK} (RC : RulesC K mg C fI) (II : InsIs K C) (h : RulesK C H r k) (h2 : RulesK C H r2 k2) (g : goodK k) (g2 : goodK k2) (nf : PySem.W.notFirst K C (.ref C) = true) (q : ∀ H', Same H H' → Q (.bl !(decide (k = k2))) H') : rNeI K C (spEqR K C) (.ref r) (.ref r2) H Q := by
  obtain ⟨x1, x2, dx, os, p1, p2, cs, ls, e, _⟩ := id h
  obtain ⟨y1, y2, dx2, os2, p3, p4, cs2, ls2, e2, _⟩ := id h2
  exact ⟨r, dx, _, _, rfl, e, .base (.ins e2 RC.cls II.ha II.hn II.ht II.hm), nf, r, k, .ref r2, rfl, h, .inr ⟨r2, k2, rfl, h2, g.lay, g2.lay, fun H' s => ⟨_, rfl, q H' s⟩⟩⟩
/-- rules == a tuple -/
theorem eq_tuple {H : Hp} {Q : VK} {r t : Addr} {k : RK} {xs : List V} (h : RulesK C H r k) (ht : H t = some (.tup xs)) (nf : PySem.W.notFirst K C (.type "tuple") = true) (q : Q (.bl false) H) : rEqI K C (spEqR K C) (.ref r) (.ref t) H Q := by
  obtain ⟨x1, x2, dx, os, p1, p2, cs, ls, e, _⟩ := id h
  exact ⟨r, dx, _, _, rfl, e, .base (.tup ht), nf, r, k, .ref t, rfl, h, .inl ⟨t, xs, rfl, ht, ⟨_, rfl, q⟩⟩⟩
end
end Pk
namespace Pk
open L2 PyProof.Rows PySem.Spec PySem
theorem neD {p q : Prop} [Decidable p] [Decidable q] (h : p ↔ q) : V.bl (!decide (V.bl (decide p) = V.bl (decide q))) = V.bl false := by
  have e : decide p = decide q := decide_eq_decide.mpr h
  rw [e]
  simp
theorem swapK {k : RK} : k = ⟨k.sty, k.low, k.cap, k.root⟩ ↔ V.str k.cap = V.str k.low := by
  constructor
  · intro h
    exact congrArg V.str (congrArg RK.cap h)
  · intro h
    injection h with h
    cases k
    cases h
    rfl
theorem lowK {k : RK} {t : Str} : k = ⟨k.sty, k.cap, t, k.root⟩ ↔ V.str k.low = V.str t := by
  constructor
  · intro h
    exact congrArg V.str (congrArg RK.low h)
  · intro h
    injection h with h
    cases k
    cases h
    rfl
def othS (s : Str) : Str := if s = "copied" then "taken" else "copied"
theorem othS_ne {s : Str} : s ≠ othS s := by
  unfold othS
  by_cases h : s = ("copied" : Str)
  · rw [if_pos h, h]
    decide
  · rw [if_neg h]
    exact h
theorem othS_at {s : Str} : atI [V.str "copied", V.str "taken"] (if decide (V.str s = V.str "copied") = true then 1 else 0) = some (V.str (othS s)) := by
  unfold othS
  by_cases h : s = ("copied" : Str)
  · rw [if_pos h, if_pos (by rw [h]; exact decide_eq_true rfl)]
    rfl
  · rw [if_neg h, if_neg (fun z => h (V.str.inj (of_decide_eq_true z)))]
    rfl
theorem othS_mem {s : Str} : othS s ∈ STYL := by
  unfold othS
  by_cases h : s = ("copied" : Str)
  · rw [if_pos h]
    decide
  · rw [if_neg h]
    decide
theorem good7 : goodT "7" ∧ goodT "k + 1" ∧ goodT "k" ∧ goodT "1 + k" := by
  refine ⟨⟨by decide +kernel, by decide +kernel, ([((7 : Int), none)], none), ?_⟩, ⟨by decide +kernel, by decide +kernel, ([((1 : Int), some ("k" : Str)), ((1 : Int), none)], none), ?_⟩, ⟨by decide +kernel, by decide +kernel, ([((1 : Int), some ("k" : Str))], none), ?_⟩, ⟨by decide +kernel, by decide +kernel, ([((1 : Int), none), ((1 : Int), some ("k" : Str))], none), ?_⟩⟩ <;> decide +kernel
def spLEq (C : Addr) : Sp := fun vs H Q _ => ∃ (r : Addr) (k : RK), vs = [.ref r, .str k.cap, .str k.low] ∧ RulesK C H r k ∧ goodK k ∧ ∀ H', Same H H' → Q (.bl true) H'
section
variable {K : PySem.W.Frag} {P : Program} {w : World} {base : Heap} {mg : Str → Option Value} {C fI : Addr}
theorem sc_law_equal_right : FnScope ["_law_rules", "_law_cap", "_law_low", "_law_style", "_law_root", "_law_same", "_law_other"] ["_law_rules", "_law_cap", "_law_low"] (defScope sLEq) := ⟨rfl, rfl, rfl, by decide +kernel, rfl, by decide +kernel, by decide +kernel⟩
theorem ok_law_equal_right {f fE : Addr} {fd fdI fdE : FuncData} {ds : List Value} (F : FunD K "_law_equal_right" "_law_equal_right" (defArgs sLEq) (defBody sLEq) (defScope sLEq) [] [] f fd) (RC : RulesC K mg C fI) (II : InsIs K C) (EC : EqC K C fE) (GI : FnOk P w K mg base (L2.CX P w) 6 fI fdI ["self", "style", "cap", "low", "root"] (spInit K C)) (GE : FnOk P w K mg base CX0 1 fE fdE ["self", "other"] (spEqR K C))
    (bI : Binds K fdI ["self", "style", "cap", "low", "root"] []) (bI3 : Binds K fdI ["self", "style", "cap", "low", "root"] ds) (dI : Vals [V.bl true] ds) (bE : Binds K fdE ["self", "other"] []) (nf : PySem.W.notFirst K C (.ref C) = true) (nft : PySem.W.notFirst K C (.type "tuple") = true) (mInt : mg "int" = none) : FnOk P w K mg base CX0 8 f fd ["_law_rules", "_law_cap", "_law_low"] (spLEq C) := by
  refine F.ok sc_law_equal_right (fun vs H Q E h => ?_) (fun cdv A outer s H vs Q E hr h => ?_)
  · obtain ⟨r, k, rfl, _⟩ := h
    rfl
  · obtain ⟨r, k, rfl, R, g, q⟩ := h
    have hr1 : ∀ {n : Nat}, n ≤ 7 → Room n (A.deeper (envOfC "_law_equal_right" (defScope sLEq) s.heap.objs.size f cdv)) := fun h => hr.mono h
    obtain ⟨x1, x2, dx, os, p1, p2, cs, ls, h1, _⟩ := id R
    refine ⟨_, PSs.nox (pss_cons (by exact (ps_par (i := 3) (j := 4) rfl sc_law_equal_right.nd rfl rfl (by decide) rfl rfl (pa_cons (pe_fld (pv 0) rfl) (pa_cons (pe_fld (pv 0) rfl) pa_nil)) rfl)) (pss_cons (by exact (ps_set (i := 5) sc_law_equal_right.nd rfl (Or.inl rfl) (pe_lst (pa_cons (pe_make RC.made GI hr rfl RC.g bI .nil passF (pa_cons (pv 3) (pa_cons (pv 1) (pa_cons (pv 2) (pa_cons (pv 4) pa_nil))))) (pa_cons (pe_make RC.made GI hr rfl RC.g bI .nil passF (pa_cons (pv 3) (pa_cons (pv 2) (pa_cons (pv 1) (pa_cons (pv 4) pa_nil))))) pa_nil))))) (pss_cons (by exact (ps_if (PW.pt (pw_or (pt_cmpR (op_neI K rfl EC GE bE (hr1 (by decide))) (pv 0) (pe_ix (ix_listK K rfl) (pv 5) pe_int (fun _ _ => rfl)) (nomark _)) (pw_or (pt_cmpR op_ne (pe_cmpR (op_eqI K rfl EC GE bE (hr1 (by decide))) (pv 0) (pe_ix (ix_listK K rfl) (pv 5) pe_int (fun _ _ => rfl)) (nomark _)) (pe_cmpR op_eq (pv 1) (pv 2) (nomark _)) (nomark _)) (pw_or1 (pt_cmpR (op_eqI K rfl EC GE bE (hr1 (by decide))) (pv 0) (pe_tup (pa_cons (pv 3) (pa_cons (pv 1) (pa_cons (pv 2) (pa_cons (pv 4) pa_nil))))) (nomark _)))))) (pss_one (by exact (ps_ret pe_bl))) pss_nil)) (pss_cons (by exact (ps_set (i := 6) sc_law_equal_right.nd rfl (Or.inl rfl) (pe_ix (ix_listK K rfl) (pe_lst (pa_cons pe_str (pa_cons pe_str pa_nil))) (pe_callTy call_int1 (by rfl) mInt (by decide +kernel) (pa_cons (pe_cmpR op_eq (pv 3) pe_str (nomark _)) pa_nil)) (fun _ _ => rfl)))) (pss_cons (by exact (ps_if (PW.pt (pw_or (pt_cmpR (op_eqI K rfl EC GE bE (hr1 (by decide))) (pv 0) (pe_make RC.made GI hr rfl RC.g bI .nil passF (pa_cons (pv 3) (pa_cons (pv 1) (pa_cons (pv 2) (pa_cons (pe_not (pv 4)) pa_nil))))) (nomark _)) (pw_or1 (pt_cmpR (op_eqI K rfl EC GE bE (hr1 (by decide))) (pv 0) (pe_make RC.made GI hr rfl RC.g bI .nil passF (pa_cons (pv 6) (pa_cons (pv 1) (pa_cons (pv 2) (pa_cons (pv 4) pa_nil))))) (nomark _))))) (pss_one (by exact (ps_ret pe_bl))) pss_nil)) (pss_cons (by exact (ps_if (pt_cmpR op_ne (pe_cmpR (op_eqI K rfl EC GE bE (hr1 (by decide))) (pv 0) (pe_make RC.made GI hr rfl RC.g bI .nil passF (pa_cons (pv 3) (pa_cons (pv 1) (pa_cons pe_str (pa_cons (pv 4) pa_nil))))) (nomark _)) (pe_cmpR op_eq (pv 2) pe_str (nomark _)) (nomark _)) (pss_one (by exact (ps_ret pe_bl))) pss_nil)) (pss_one (by exact (ps_ret (pe_cmpR (op_neI K rfl EC GE bE (hr1 (by decide))) (pe_make RC.made GI hr rfl RC.g bI3 dI passF (pa_cons (pv 3) (pa_cons pe_str (pa_cons pe_str pa_nil)))) (pe_make RC.made GI hr rfl RC.g bI3 dI passF (pa_cons (pv 3) (pa_cons pe_str (pa_cons pe_str pa_nil)))) (nomark _))))))))))), ?_⟩
    refine ⟨_, rfl, r, C, dx, _, .str k.sty, rfl, h1, RC.cls, RC.no _ (by simp), rfl, _, rfl, r, C, dx, _, .bl k.root, rfl, h1, RC.cls, RC.no _ (by simp), rfl, _, _, rfl, ?_⟩
    have gA : goodK ⟨k.sty, k.cap, k.low, k.root⟩ := g
    have gB : goodK ⟨k.sty, k.low, k.cap, k.root⟩ := ⟨g.1, g.2.2, g.2.1⟩
    refine ⟨_, rfl, _, rfl, _, rfl, _, rfl, ?_⟩
    intro xa dxa na nda nea
    refine mk_rules (k := ⟨k.sty, k.cap, k.low, k.root⟩) gA na nda nea fun Ha sa Ra => ⟨rfl, ?_⟩
    refine ⟨_, rfl, _, rfl, _, rfl, _, rfl, ?_⟩
    intro xb dxb nb ndb neb
    refine mk_rules (k := ⟨k.sty, k.low, k.cap, k.root⟩) gB nb ndb neb fun Hb sb Rb => ⟨rfl, ?_⟩
    refine ⟨by show 2 ≤ sizeLine; decide, fun l hl => ?_⟩
    have sl := same_new (o := .lst [.ref xa, .ref xb]) hl
    have s1 := (sa.trans sb).trans sl
    have R1 := R.same s1
    have Ra1 := (Ra.same sb).same sl
    have Rb1 := Rb.same sl
    refine ⟨_, rfl, _, rfl, l, _, 0, .ref xa, rfl, rfl, SqL.of upd_same, rfl, ?_⟩
    refine ne_rules RC II R1 Ra1 g gA nf fun H2 s2 => ?_
    refine ⟨false, by rw [decide_eq_true (rfl : k = ⟨k.sty, k.cap, k.low, k.root⟩)]; rfl, ?_⟩
    refine ⟨_, rfl, _, rfl, l, _, 1, .ref xb, rfl, rfl, SqL.of (s2 _ _ upd_same), rfl, ?_⟩
    refine eq_rules RC II (R1.same s2) (Rb1.same s2) g gB nf fun H3 s3 => ?_
    refine ⟨_, rfl, _, rfl, rfl, rfl, ⟨false, neD swapK, ?_⟩⟩
    refine ⟨_, rfl, _, rfl, _, rfl, _, rfl, _, rfl, by show 4 ≤ sizeLine; decide, fun t ht => ?_⟩
    have s4 := (s2.trans s3).trans (same_new (o := .tup [.str k.sty, .str k.cap, .str k.low, .bl k.root]) ht)
    refine eq_tuple (R1.same s4) upd_same nft ?_
    refine ⟨false, rfl, ?_⟩
    refine ⟨by show 2 ≤ sizeLine; decide, fun m hm => ?_⟩
    have sm := same_new (o := .lst [.str "copied", .str "taken"]) hm
    have R4 := (R1.same s4).same sm
    refine ⟨_, rfl, rfl, .inr ⟨_, rfl, m, _, _, .str (othS k.sty), rfl, rfl, SqL.of upd_same, othS_at, ?_⟩⟩
    refine ⟨_, rfl, _, rfl, _, rfl, _, rfl, _, rfl, _, rfl, ?_⟩
    intro xc dxc nc ndc nec
    refine mk_rules (k := ⟨k.sty, k.cap, k.low, !k.root⟩) g nc ndc nec fun Hc sc Rc => ⟨rfl, ?_⟩
    refine eq_rules RC II (R4.same sc) Rc g g nf fun H5 s5 => ?_
    refine ⟨false, ?_, ?_⟩
    · refine congrArg V.bl (decide_eq_false fun z => ?_)
      have z2 : k.root = !k.root := congrArg RK.root z
      revert z2
      cases k.root <;> decide
    have R5 := (R4.same sc).same s5
    refine ⟨_, rfl, _, rfl, _, rfl, _, rfl, _, rfl, ?_⟩
    intro xd dxd nd2 ndd ned
    have gD : goodK ⟨othS k.sty, k.cap, k.low, k.root⟩ := ⟨othS_mem, g.2.1, g.2.2⟩
    refine mk_rules (k := ⟨othS k.sty, k.cap, k.low, k.root⟩) gD nd2 ndd ned fun Hd sd Rd => ⟨rfl, ?_⟩
    refine eq_rules RC II (R5.same sd) Rd g gD nf fun H6 s6 => ?_
    refine ⟨false, ?_, ?_⟩
    · exact congrArg V.bl (decide_eq_false fun z => othS_ne (congrArg RK.sty z))
    have R6 := (R5.same sd).same s6
    refine ⟨_, rfl, _, rfl, _, rfl, _, rfl, ?_⟩
    intro xe dxe ne2 nde nee
    have gE : goodK ⟨k.sty, k.cap, "7", k.root⟩ := ⟨g.1, g.2.1, good7.1⟩
    refine mk_rules (k := ⟨k.sty, k.cap, "7", k.root⟩) gE ne2 nde nee fun He se Re => ⟨rfl, ?_⟩
    refine eq_rules RC II (R6.same se) Re g gE nf fun H7 s7 => ?_
    refine ⟨_, rfl, rfl, rfl, ⟨false, neD lowK, ?_⟩⟩
    have sAll := (((((((((s1.trans s4).trans sm).trans sc).trans s5).trans sd).trans s6).trans se).trans s7))
    refine ⟨_, rfl, ?_⟩
    intro xf dxf nf2 ndf nef
    have gF : goodK ⟨k.sty, "k + 1", "k", true⟩ := ⟨g.1, good7.2.1, good7.2.2.1⟩
    refine mk_rules (k := ⟨k.sty, "k + 1", "k", true⟩) gF nf2 ndf nef fun Hf sf Rf => ⟨rfl, ?_⟩
    refine ⟨_, rfl, ?_⟩
    intro xg dxg ng2 ndg neg
    have gG : goodK ⟨k.sty, "1 + k", "k", true⟩ := ⟨g.1, good7.2.2.2, good7.2.2.1⟩
    refine mk_rules (k := ⟨k.sty, "1 + k", "k", true⟩) gG ng2 ndg neg fun Hg sg Rg => ⟨rfl, ?_⟩
    refine ne_rules RC II (Rf.same sg) Rg gF gG nf fun H8 s8 => ?_
    have e : (!decide ((⟨k.sty, "k + 1", "k", true⟩ : RK) = ⟨k.sty, "1 + k", "k", true⟩)) = true := by
      rw [decide_eq_false fun z => absurd (show ("k + 1" : Str) = "1 + k" from congrArg RK.cap z) (by decide)]
      rfl
    rw [e]
    exact q _ (((sAll.trans sf).trans sg).trans s8)
end
end Pk
namespace Pk
open L2 PyProof.Rows PySem.Spec PySem
/-! ### numbers of up to 30 figures are read back -/
theorem numL_head : ∀ (n : Nat), 1 < (TL.numL n).length → (TL.numL n)[0]? ≠ some 48 := by
  intro n
  induction n using Nat.strongRecOn (motive := _) with
  | _ n ih =>
    intro h
    by_cases g : n < 10
    · rw [TL.numL_lt g] at h
      exact absurd h (Nat.lt_irrefl _)
    · have g : 10 ≤ n := by omega
      rw [TL.numL_step g]
      have ne := TL.numL_ne (n / 10)
      have l0 : 0 < (TL.numL (n / 10)).length := List.length_pos_iff.mpr ne
      rw [List.getElem?_append_left l0]
      by_cases g2 : n / 10 < 10
      · rw [TL.numL_lt g2]
        intro z
        have z2 : 48 + n / 10 = 48 := Option.some.inj z
        omega
      · refine ih (n / 10) (by omega) ?_
        rw [TL.numL_step (by omega), List.length_append]
        have := List.length_pos_iff.mpr (TL.numL_ne (n / 10 / 10))
        show 1 < _ + 1
        omega
theorem digit_ascii : ∀ c : Nat, c < 58 → 48 ≤ c → Unicode.isDigit c = true := by decide +kernel
theorem cps_num (n : Nat) : (numS n).cps.toList = TL.numL n := TL.tl_num n
theorem num_big {n : Nat} (h : n < 10 ^ 30) : numM (numS n) = some n := by
  have hd := TL.numL_digits n
  have ok : okNum (numS n) = true := by
    unfold okNum
    have a : Txt.isascii (numS n) = true := by
      unfold Txt.isascii
      refine Array.all_eq_true_iff_forall_mem.mpr fun c hc => ?_
      have hc : c ∈ (numS n).cps.toList := Array.mem_toList_iff.mpr hc
      rw [cps_num] at hc
      have := hd c hc; exact decide_eq_true (by omega)
    have ln : (numS n).length = (TL.numL n).length := by
      rw [TL.len_tl]
      exact congrArg List.length (cps_num n)
    have l0 : 0 < (numS n).length := by
      rw [ln]
      exact List.length_pos_iff.mpr (TL.numL_ne n)
    have b : Txt.isdigit (numS n) = true := by
      unfold Txt.isdigit
      rw [Bool.and_eq_true]
      refine ⟨decide_eq_true (by exact l0), Array.all_eq_true_iff_forall_mem.mpr fun c hc => ?_⟩
      have hc : c ∈ (numS n).cps.toList := Array.mem_toList_iff.mpr hc
      rw [cps_num] at hc
      have := hd c hc
      exact digit_ascii c (by omega) (by omega)
    rw [a, b, decide_eq_true (show (numS n).length ≤ 30 by rw [ln]; exact TL.numL_len (by decide) h), cps_num]
    by_cases g : 1 < (numS n).length
    · have := numL_head n (by rw [← ln]; exact g)
      rw [decide_eq_true g, decide_eq_false this]
      rfl
    · rw [decide_eq_false g]
      rfl
  unfold numM
  rw [if_pos ok, cps_num, TL.numL_val]
theorem num_ne {n : Nat} {s : Str} (hs : ∃ c ∈ s.cps.toList, c < 48 ∨ 57 < c) : numS n ≠ s := fun e => by
  obtain ⟨c, hc, hb⟩ := hs
  rw [← e, cps_num] at hc
  exact TL.numL_free hb hc
theorem num_atom (n : Nat) : ¬ numS n ∈ ATOMSL := fun h => by
  have all : ∀ s ∈ ATOMSL, ∃ c ∈ s.cps.toList, c < 48 ∨ 57 < c := by decide +kernel
  exact num_ne (all _ h) rfl
theorem num_plain (n : Nat) : numS n ≠ "+" ∧ numS n ≠ "-" ∧ numS n ≠ "//" ∧ ¬ 32 ∈ (numS n).cps.toList :=
  ⟨num_ne (by decide +kernel), num_ne (by decide +kernel), num_ne (by decide +kernel), fun h => by
    rw [cps_num] at h
    exact TL.numL_free (.inl (by decide)) h⟩
theorem num_lay (n : Nat) : ∀ c ∈ TL.numL n, c < 1114112 := fun c hc => by
  have := TL.numL_digits n c hc
  omega
/-! ### the planted shares -/
theorem split_words {ws : List Str} (ne : ws ≠ []) (h : ∀ w ∈ ws, ¬ 32 ∈ w.cps.toList) : Txt.split (Str.join " " ws) " " = ws := by
  have sp := TL.split_join (y := " ") (s := 32) (S := []) (by rfl) (by decide +kernel) ne fun w hw => h w hw
  rw [TL.join_eq] at sp
  exact sp
def fallS (n : Nat) : Str := numS n ++ (" - k" : Str)
def laterS (n : Nat) : Str := ("k - " : Str) ++ numS n
def partS (m : Nat) : Str := ("k // " : Str) ++ numS m
theorem fall_words (n : Nat) : fallS n = Str.join " " [numS n, "-", "k"] := by
  refine TL.ext_tl ?_
  show TL.tl (numS n ++ (" - k" : Str)) = TL.tl (numS n ++ " " ++ (("-" : Str) ++ " " ++ "k"))
  have e : TL.tl " - k" = TL.tl " " ++ (TL.tl "-" ++ (TL.tl " " ++ TL.tl "k")) := by decide +kernel
  simp only [TL.tl_append, List.append_assoc, e]
theorem later_words (n : Nat) : laterS n = Str.join " " ["k", "-", numS n] := by
  refine TL.ext_tl ?_
  show TL.tl (("k - " : Str) ++ numS n) = TL.tl (("k" : Str) ++ " " ++ (("-" : Str) ++ " " ++ numS n))
  have e : TL.tl "k - " = TL.tl "k" ++ (TL.tl " " ++ (TL.tl "-" ++ TL.tl " ")) := by decide +kernel
  simp only [TL.tl_append, List.append_assoc, e]
theorem fall_share {n : Nat} (h : n < 10 ^ 30) : shareM (fallS n) = some (([((n : Int), none), (-1, some ("k" : Str))], none) : Share) := by
  have p := num_plain n
  have k : ¬ 32 ∈ ("-" : Str).cps.toList ∧ ¬ 32 ∈ ("k" : Str).cps.toList := by decide +kernel
  have sp : Txt.split (fallS n) " " = [numS n, ("-" : Str), ("k" : Str)] := by
    rw [fall_words]
    refine split_words (by simp) fun w hw => ?_
    simp only [List.mem_cons, List.not_mem_nil, or_false] at hw
    rcases hw with e | e | e <;> rw [e]
    · exact p.2.2.2
    · exact k.1
    · exact k.2
  have t1 : termM [numS n] = some (n, none) := by
    rw [termM_1, if_neg (num_atom n), num_big h]
    rfl
  have t2 : termM [("k" : Str)] = some ((1 : Nat), some ("k" : Str)) := by decide +kernel
  have sg : sumM [numS n, "-", "k"] = some ([((n : Int), none), (-1, some ("k" : Str))] : List Term) := by
    unfold sumM
    show (match sumGo (numS n :: "-" :: "k" :: [("+" : Str)]) [] [] 1 with
      | none => none
      | some ts => if sumOk ts = true then some ts else none) = _
    have e : sumGo (numS n :: "-" :: "k" :: [("+" : Str)]) [] [] 1 = some ([((n : Int), none), (-1, some ("k" : Str))] : List Term) := by
      rw [sumGo, if_neg (fun z => z.elim p.1 p.2.1), List.nil_append, sumGo, if_pos (.inr rfl), t1]
      show sumGo ["k", "+"] [(1 * (n : Int), none)] [] (if ("-" : Str) = "+" then 1 else -1) = _
      rw [if_neg (by decide +kernel), sumGo, if_neg (by decide +kernel), List.nil_append, sumGo, if_pos (.inl rfl), t2]
      show some [(1 * (n : Int), none), ((-1 * ((1 : Nat) : Int), some ("k" : Str)) : Term)] = _
      rw [Int.one_mul]
      rfl
    rw [e]
    exact if_pos rfl
  unfold shareM
  rw [sp, divM_plain (fun w hw => by
    simp only [List.mem_cons, List.not_mem_nil, or_false] at hw
    rcases hw with e | e | e <;> rw [e]
    · exact p.2.2.1
    · decide +kernel
    · decide +kernel), sg]
  rfl
theorem later_share {n : Nat} (h : n < 10 ^ 30) : shareM (laterS n) = some (([(1, some ("k" : Str)), (-(n : Int), none)], none) : Share) := by
  have p := num_plain n
  have k : ¬ 32 ∈ ("-" : Str).cps.toList ∧ ¬ 32 ∈ ("k" : Str).cps.toList := by decide +kernel
  have sp : Txt.split (laterS n) " " = [("k" : Str), ("-" : Str), numS n] := by
    rw [later_words]
    refine split_words (by simp) fun w hw => ?_
    simp only [List.mem_cons, List.not_mem_nil, or_false] at hw
    rcases hw with e | e | e <;> rw [e]
    · exact k.2
    · exact k.1
    · exact p.2.2.2
  have t1 : termM [numS n] = some (n, none) := by
    rw [termM_1, if_neg (num_atom n), num_big h]
    rfl
  have t2 : termM [("k" : Str)] = some ((1 : Nat), some ("k" : Str)) := by decide +kernel
  have sg : sumM [("k" : Str), "-", numS n] = some ([(1, some ("k" : Str)), (-(n : Int), none)] : List Term) := by
    unfold sumM
    show (match sumGo (("k" : Str) :: "-" :: numS n :: [("+" : Str)]) [] [] 1 with
      | none => none
      | some ts => if sumOk ts = true then some ts else none) = _
    have e : sumGo (("k" : Str) :: "-" :: numS n :: [("+" : Str)]) [] [] 1 = some ([(1, some ("k" : Str)), (-(n : Int), none)] : List Term) := by
      rw [sumGo, if_neg (by decide +kernel), List.nil_append, sumGo, if_pos (.inr rfl), t2]
      show sumGo [numS n, "+"] [(1, some ("k" : Str))] [] (if ("-" : Str) = "+" then 1 else -1) = _
      rw [if_neg (by decide +kernel), sumGo, if_neg (fun z => z.elim p.1 p.2.1), List.nil_append, sumGo, if_pos (.inl rfl), t1]
      show some [((1 : Int), some ("k" : Str)), (-1 * (n : Int), none)] = _
      rw [Int.neg_mul, Int.one_mul]
    rw [e]
    exact if_pos rfl
  unfold shareM
  rw [sp, divM_plain (fun w hw => by
    simp only [List.mem_cons, List.not_mem_nil, or_false] at hw
    rcases hw with e | e | e <;> rw [e]
    · decide +kernel
    · decide +kernel
    · exact p.2.2.1), sg]
  rfl
theorem part_share : ∀ m : Nat, m < 7 → 2 ≤ m → shareM (partS m) = some (([(1, some ("k" : Str))], some m) : Share) := by
  intro m h1 h2
  have cs : m = 2 ∨ m = 3 ∨ m = 4 ∨ m = 5 ∨ m = 6 := by omega
  rcases cs with rfl | rfl | rfl | rfl | rfl <;> decide +kernel
theorem lay_of {a : Str} (h : ∀ c ∈ TL.tl a, c < 1114112) : (PyData.str a).canLay0 = true := by
  show a.cps.all (· < 0x110000) = true
  exact Array.all_eq_true_iff_forall_mem.mpr fun c hc => decide_eq_true (h c (Array.mem_toList_iff.mpr hc))
theorem num_len {n : Nat} (h : n < 10 ^ 30) : (numS n).length ≤ 30 := by
  rw [TL.len_tl]
  exact Nat.le_trans (Nat.le_of_eq (congrArg List.length (cps_num n))) (TL.numL_len (by decide) h)
theorem tl_numS (n : Nat) : TL.tl (numS n) = TL.numL n := cps_num n
theorem fall_good {n : Nat} (h : n < 10 ^ 30) : goodT (fallS n) := by
  refine ⟨?_, lay_of fun c hc => ?_, _, fall_share h⟩
  · have e : (fallS n).length = (numS n).length + (" - k" : Str).length := str_len _ _
    have l := num_len h
    have s : (" - k" : Str).length = 4 := by decide +kernel
    omega
  · rw [show TL.tl (fallS n) = TL.numL n ++ TL.tl " - k" by rw [← tl_numS]; exact TL.tl_append _ _] at hc
    rcases List.mem_append.mp hc with z | z
    · exact num_lay n c z
    · exact (show ∀ c ∈ TL.tl " - k", c < 1114112 by decide +kernel) c z
theorem later_good {n : Nat} (h : n < 10 ^ 30) : goodT (laterS n) := by
  refine ⟨?_, lay_of fun c hc => ?_, _, later_share h⟩
  · have e : (laterS n).length = ("k - " : Str).length + (numS n).length := str_len _ _
    have l := num_len h
    have s : ("k - " : Str).length = 4 := by decide +kernel
    omega
  · rw [show TL.tl (laterS n) = TL.tl "k - " ++ TL.numL n by rw [← tl_numS]; exact TL.tl_append _ _] at hc
    rcases List.mem_append.mp hc with z | z
    · exact (show ∀ c ∈ TL.tl "k - ", c < 1114112 by decide +kernel) c z
    · exact num_lay n c z
theorem part_good {m : Nat} (m2 : 2 ≤ m) (m6 : m ≤ 6) : goodT (partS m) := by
  have h := part_share m (by omega) m2
  have e : (partS m).length ≤ 900000 ∧ (PyData.str (partS m)).canLay0 = true := (show ∀ m : Nat, m < 7 → (partS m).length ≤ 900000 ∧ (PyData.str (partS m)).canLay0 = true by decide +kernel) m (by omega)
  exact ⟨e.1, e.2, _, h⟩
/-! ### when such rules are in use -/
theorem next_is {v1 v2 : V} {x1 x2 : Share} (h1 : shareV v1 = some x1) (h2 : shareV v2 = some x2) {k m : Int} (hk : k ≤ m) (hm : usedL x1 x2 m = true) (hl : ∀ y, k ≤ y → usedL x1 x2 y = true → m ≤ y) : nextM x1 x2 k = some m := by
  obtain ⟨a, b⟩ := next_least h1 h2 k
  cases e : nextM x1 x2 k with
  | none =>
    have q := a e m hk
    rw [hm] at q
    cases q
  | some z =>
    obtain ⟨q1, q2, q3⟩ := b z e
    have r1 := hl z q1 q2
    have r2 := q3 m hk hm
    rw [show z = m by omega]
theorem next_no {v1 v2 : V} {x1 x2 : Share} (h1 : shareV v1 = some x1) (h2 : shareV v2 = some x2) {k : Int} (hl : ∀ y, k ≤ y → usedL x1 x2 y = true → False) : nextM x1 x2 k = none := by
  obtain ⟨a, b⟩ := next_least h1 h2 k
  cases e : nextM x1 x2 k with
  | none => rfl
  | some z =>
    obtain ⟨q1, q2, q3⟩ := b z e
    exact (hl z q1 q2).elim
abbrev fX1 : Share := ([(1, some ("k" : Str))], none)
abbrev fX2 (n : Nat) : Share := ([((n : Int), none), (-1, some ("k" : Str))], none)
theorem fall_used (n : Nat) (y : Int) : usedL fX1 (fX2 n) y = true ↔ 1 ≤ (n : Int) - y ∧ (n : Int) - y ≤ y := by
  have s2 : (lineM (fX2 n)).s = -1 := by
    show slopeT _ = _
    unfold slopeT
    simp
  have c2 : (lineM (fX2 n)).c = n := by
    show constT _ = _
    unfold constT
    simp
  have s1 : (lineM fX1).s = 1 := by decide +kernel
  have c1 : (lineM fX1).c = 0 := by decide +kernel
  unfold usedL Line.at_
  rw [s1, s2, c1, c2, Bool.and_eq_true, decide_eq_true_iff, decide_eq_true_iff, show (lineM (fX2 n)).d = 1 from rfl, show (lineM fX1).d = 1 from rfl]
  omega
abbrev lX1 (m : Nat) : Share := ([(1, some ("k" : Str))], some m)
abbrev lX2 (n : Nat) : Share := ([(1, some ("k" : Str)), (-(n : Int), none)], none)
theorem later_used (n m : Nat) (y : Int) : usedL (lX1 m) (lX2 n) y = true ↔ 1 ≤ y - (n : Int) ∧ y - (n : Int) ≤ y / (m : Int) := by
  have s2 : (lineM (lX2 n)).s = 1 := by
    show slopeT _ = _
    unfold slopeT
    simp
  have c2 : (lineM (lX2 n)).c = -(n : Int) := by
    show constT _ = _
    unfold constT
    simp
  have s1 : (lineM (lX1 m)).s = 1 := by
    show slopeT _ = _
    unfold slopeT
    simp
  have c1 : (lineM (lX1 m)).c = 0 := by
    show constT _ = _
    unfold constT
    simp
  unfold usedL Line.at_
  rw [s1, s2, c1, c2, Bool.and_eq_true, decide_eq_true_iff, decide_eq_true_iff, show (lineM (lX2 n)).d = 1 from rfl, show (lineM (lX1 m)).d = m from rfl, Int.one_mul, Int.add_zero]
  omega
/-- the falling ones: in use from the half on to the number less 1 -/
theorem fall_next {n : Nat} (h10 : 10 ≤ n) (h : n < 10 ^ 30) : nextM fX1 (fX2 n) 1 = some (((n : Int) + 1) / 2) ∧ nextM fX1 (fX2 n) (((n : Int) + 1) / 2) = some (((n : Int) + 1) / 2) ∧ nextM fX1 (fX2 n) ((n : Int) - 1) = some ((n : Int) - 1) ∧ nextM fX1 (fX2 n) (n : Int) = none := by
  have h1 : shareV (.str "k") = some fX1 := by decide +kernel
  have h2 : shareV (.str (fallS n)) = some (fX2 n) := fall_share h
  have U := fall_used n
  refine ⟨next_is h1 h2 (by omega) ((U _).mpr (by omega)) fun y hy u => ?_, next_is h1 h2 (by omega) ((U _).mpr (by omega)) fun y hy u => ?_, next_is h1 h2 (by omega) ((U _).mpr (by omega)) fun y hy u => ?_, next_no h1 h2 fun y hy u => ?_⟩
  all_goals
    have := (U y).mp u
    omega
/-- the later ones: from the number and 1 on to L -/
theorem later_next {n m : Nat} (h10 : 10 ≤ n) (h : n < 10 ^ 30) (m2 : 2 ≤ m) (m6 : m ≤ 6) {L : Int} (h0 : (n : Int) + 1 ≤ L) (hL : L - (n : Int) ≤ L / (m : Int)) (hx : ¬ L + 1 - (n : Int) ≤ (L + 1) / (m : Int)) :
    nextM (lX1 m) (lX2 n) 1 = some ((n : Int) + 1) ∧ nextM (lX1 m) (lX2 n) ((n : Int) + 1) = some ((n : Int) + 1) ∧ nextM (lX1 m) (lX2 n) L = some L ∧ nextM (lX1 m) (lX2 n) (L + 1) = none := by
  have h1 : shareV (.str (partS m)) = some (lX1 m) := part_share m (by omega) m2
  have h2 : shareV (.str (laterS n)) = some (lX2 n) := later_share h
  have U := later_used n m
  have cs : m = 2 ∨ m = 3 ∨ m = 4 ∨ m = 5 ∨ m = 6 := by omega
  have one : (1 : Int) ≤ ((n : Int) + 1) / (m : Int) := by
    rcases cs with e | e | e | e | e <;> rw [e] <;> omega
  refine ⟨next_is h1 h2 (by omega) ((U _).mpr (by omega)) fun y hy u => ?_, next_is h1 h2 (by omega) ((U _).mpr (by omega)) fun y hy u => ?_, next_is h1 h2 (by omega) ((U _).mpr (by omega)) fun y hy u => ?_, next_no h1 h2 fun y hy u => ?_⟩
  · have := (U y).mp u
    omega
  · have := (U y).mp u
    omega
  · exact hy
  · have u := (U y).mp u
    rcases cs with e | e | e | e | e <;> rw [e] at u hx <;> omega
/-- the law's first guess lies beyond -/
theorem later_far {n m : Nat} (m2 : 2 ≤ m) (m6 : m ≤ 6) : ¬ ((n : Int) * (m : Int) / ((m : Int) - 1) + 3 + 1) - (n : Int) ≤ ((n : Int) * (m : Int) / ((m : Int) - 1) + 3 + 1) / (m : Int) := by
  have cs : m = 2 ∨ m = 3 ∨ m = 4 ∨ m = 5 ∨ m = 6 := by omega
  rcases cs with e | e | e | e | e <;> rw [e] <;> simp <;> omega
theorem later_near {n m : Nat} (h10 : 10 ≤ n) (m2 : 2 ≤ m) (m6 : m ≤ 6) : ((n : Int) + 1) - (n : Int) ≤ ((n : Int) + 1) / (m : Int) ∧ (n : Int) + 1 ≤ (n : Int) * (m : Int) / ((m : Int) - 1) + 3 := by
  have cs : m = 2 ∨ m = 3 ∨ m = 4 ∨ m = 5 ∨ m = 6 := by omega
  rcases cs with e | e | e | e | e <;> rw [e] <;> simp <;> omega
end Pk
namespace Pk
open L2 PyProof.Rows PySem.Spec PySem
abbrev sLPlant : Stmt := top 33
def spLPlant : Sp := fun vs H Q _ => ∃ (b c : Addr) (ns : List Int) (n : Int) (o : HO), vs = [.ref b] ∧ H b = some o ∧ BagO c ns.length n o ∧ n ≤ 900000 ∧ H c = some (.lst (ns.map V.int)) ∧
  ∀ (o' : HO) (n' : Int) (H' : Hp), KeepB b H H' → H' b = some o' → BagO c ns.length n' o' → n' ≤ n + 3 → Q (.bl true) H'
/-- the limits drawn from -/
theorem lim_at (r : Int) (h0 : 0 ≤ r) (h1 : r < 4) : ∃ z : Int, 1 ≤ z ∧ z ≤ 10 ^ 29 ∧ atI [V.int 10, .int 1000, .int (10 ^ (12 : Int).toNat), .int (10 ^ (29 : Int).toNat)] r = some (.int z) := by
  have h : r = 0 ∨ r = 1 ∨ r = 2 ∨ r = 3 := by omega
  rcases h with rfl | rfl | rfl | rfl
  · exact ⟨10, by decide, by decide, rfl⟩
  · exact ⟨1000, by decide, by decide, rfl⟩
  · exact ⟨10 ^ 12, by decide, by decide, rfl⟩
  · exact ⟨10 ^ 29, by decide, by decide, rfl⟩
section
variable {K : PySem.W.Frag} {P : Program} {w : World} {base : Heap} {mg : Str → Option Value} {C fI : Addr}
theorem sc_law_planted_right : FnScope ["_law_bag_here", "_law_number", "_law_falling", "_law_half", "_law_at_here", "_law_many", "_law_later", "_law_last", "_law_found"] ["_law_bag_here"] (defScope sLPlant) := ⟨rfl, rfl, rfl, by decide +kernel, rfl, by decide +kernel, by decide +kernel⟩
theorem ok_law_planted_right {f fD fN : Addr} {fd fdD fdI fdN : FuncData} {ds : List Value} (F : FunD K "_law_planted_right" "_law_planted_right" (defArgs sLPlant) (defBody sLPlant) (defScope sLPlant) [] [] f fd) (FD : FunD K "_law_draw" "_law_draw" (defArgs sDraw) (defBody sDraw) (defScope sDraw) [] [] fD fdD)
    (FN : FunD K "next_in_use" "Rules.next_in_use" (defArgs sNextU) (defBody sNextU) (defScope sNextU) [] [] fN fdN) (GD : FnOk P w K mg base CX0 1 fD fdD ["_law_bag_here", "_law_limit"] spDraw) (gD : mg "_law_draw" = some (.ref fD)) (RC : RulesC K mg C fI) (GI : FnOk P w K mg base (L2.CX P w) 6 fI fdI ["self", "style", "cap", "low", "root"] (spInit K C))
    (GN : FnOk P w K mg base (L2.CX P w) 4 fN fdN ["self", "k"] (spNext K C)) (mN : Meth K C "next_in_use" fN) (bI3 : Binds K fdI ["self", "style", "cap", "low", "root"] ds) (dI : Vals [V.bl true] ds) (mInt : mg "int" = none) (mStr : mg "str" = none) : FnOk P w K mg base CX0 8 f fd ["_law_bag_here"] spLPlant := by
  have bD : Binds K fdD ["_law_bag_here", "_law_limit"] [] := FD.bindsN fun _ _ _ _ _ _ us hl => match us, hl with | [_, _], _ => rfl
  have bN : Binds K fdN ["self", "k"] [] := FN.bindsN fun _ _ _ _ _ _ us hl => match us, hl with | [_, _], _ => rfl
  refine F.ok sc_law_planted_right (fun vs H Q E h => ?_) (fun cdv A outer s H vs Q E hr h => ?_)
  · obtain ⟨b, c, ns, n, o, rfl, _⟩ := h
    rfl
  · obtain ⟨b, c, ns, n, o, rfl, hb, hB, hn, hc, q⟩ := h
    obtain ⟨kv0, rfl⟩ := hB.dict
    have ncb : c ≠ b := ne_of hc hb (by intro z; cases z)
    refine ⟨_, PSs.nox (pss_cons (by exact (ps_set (i := 1) sc_law_planted_right.nd rfl (Or.inl rfl) (pe_op op_add pe_int (pe_call GD (hr.mono (by decide)) rfl gD FD.kp bD .nil pass0 (pa_cons (pv 0) (pa_cons (pe_ix (ix_listK K rfl) (pe_lst (pa_cons pe_int (pa_cons pe_int (pa_cons (pe_op op_pow pe_int pe_int) (pa_cons (pe_op op_pow pe_int pe_int) pa_nil))))) (pe_call GD (hr.mono (by decide)) rfl gD FD.kp bD .nil pass0 (pa_cons (pv 0) (pa_cons pe_int pa_nil))) (fun _ _ => rfl)) pa_nil)))))) (pss_cons (by exact (ps_set (i := 2) sc_law_planted_right.nd rfl (Or.inr rfl) (pe_make RC.made GI hr rfl RC.g bI3 dI passF (pa_cons pe_str (pa_cons pe_str (pa_cons (pe_op op_add_str (pe_callTy call_str_int (by rfl) mStr (by decide +kernel) (pa_cons (pv 1) pa_nil)) pe_str) pa_nil)))))) (pss_cons (by exact (ps_set (i := 3) sc_law_planted_right.nd rfl (Or.inl rfl) (pe_op op_fdivW (pe_op op_add (pv 1) pe_int) pe_int))) (pss_cons (by exact (ps_if (pt_cmpR (op_neDK K rfl (Room.units hr)) (pe_lc (own := [("_law_at_here", 4)]) (g := gName 4) (tt := tYes) rfl sc_law_planted_right.nd (pi_list (pe_lst (pa_cons pe_int (pa_cons (pv 3) (pa_cons (pe_op op_sub (pv 1) pe_int) (pa_cons (pv 1) pa_nil)))))) (blkOk_by (N := ["_law_bag_here", "_law_number", "_law_falling", "_law_half", "_law_at_here", "_law_many", "_law_later", "_law_last", "_law_found"]) (sc := defScope sLPlant) (by decide +kernel)) (fun _ _ _ _ _ => pg_name (i := 4) sc_law_planted_right.nd rfl (Or.inl rfl)) (fun _ _ _ _ _ => pts_nil) (fun _ _ _ _ _ => (pe_meth (pv 2) RC.cls mN GN (hr.mono (by decide)) bN .nil passF (pa_cons (pv 4) pa_nil)))) (pe_lst (pa_cons (pv 3) (pa_cons (pv 3) (pa_cons (pe_op op_sub (pv 1) pe_int) (pa_cons pe_non pa_nil))))) (nomark _)) (pss_one (by exact (ps_ret pe_bl))) pss_nil)) (pss_cons (by exact (ps_set (i := 5) sc_law_planted_right.nd rfl (Or.inl rfl) (pe_op op_add pe_int (pe_call GD (hr.mono (by decide)) rfl gD FD.kp bD .nil pass0 (pa_cons (pv 0) (pa_cons pe_int pa_nil)))))) (pss_cons (by exact (ps_set (i := 6) sc_law_planted_right.nd rfl (Or.inr rfl) (pe_make RC.made GI hr rfl RC.g bI3 dI passF (pa_cons pe_str (pa_cons (pe_op op_add_str pe_str (pe_callTy call_str_int (by rfl) mStr (by decide +kernel) (pa_cons (pv 5) pa_nil))) (pa_cons (pe_op op_add_str pe_str (pe_callTy call_str_int (by rfl) mStr (by decide +kernel) (pa_cons (pv 1) pa_nil))) pa_nil)))))) (pss_cons (by exact (ps_set (i := 7) sc_law_planted_right.nd rfl (Or.inl rfl) (pe_op op_add (pe_op op_fdivW (pe_op op_mulW (pv 1) (pv 5)) (pe_op op_sub (pv 5) pe_int)) pe_int))) (pss_cons (by exact (ps_while PassesOwn.never (pt_cmpR op_gt (pe_op op_sub (pv 7) (pv 1)) (pe_op op_fdivW (pv 7) (pv 5)) (nomark _)) (pss_one (by exact (ps_set (i := 7) sc_law_planted_right.nd rfl (Or.inl rfl) (pe_op op_sub (pv 7) pe_int)))))) (pss_cons (by exact (ps_setLc (i := 8) (own := [("_law_at_here", 4)]) (g := gName 4) (tt := tYes) rfl sc_law_planted_right.nd rfl rfl (sw_true rfl rfl rfl (by decide +kernel)) (pi_list (pe_lst (pa_cons pe_int (pa_cons (pe_op op_add (pv 1) pe_int) (pa_cons (pv 7) (pa_cons (pe_op op_add (pv 7) pe_int) pa_nil)))))) (blkOk_by (N := ["_law_bag_here", "_law_number", "_law_falling", "_law_half", "_law_at_here", "_law_many", "_law_later", "_law_last", "_law_found"]) (sc := defScope sLPlant) (by decide +kernel)) (fun _ _ _ _ _ => pg_name (i := 4) sc_law_planted_right.nd rfl (Or.inl rfl)) (fun _ _ _ _ _ => pts_nil) (fun _ _ _ _ _ => (pe_meth (pv 6) RC.cls mN GN (hr.mono (by decide)) bN .nil passF (pa_cons (pv 4) pa_nil))))) (pss_one (by exact (ps_ret (pe_cmpR (op_eqDK K rfl (Room.units hr)) (pv 8) (pe_lst (pa_cons (pe_op op_add (pv 1) pe_int) (pa_cons (pe_op op_add (pv 1) pe_int) (pa_cons (pv 7) (pa_cons pe_non pa_nil))))) (nomark _)))))))))))))), ?_⟩
    refine ⟨_, rfl, _, _, rfl, rfl, ⟨by decide, by decide, by decide⟩, _, _, rfl, rfl, ⟨by decide, by decide, by decide⟩, by show 4 ≤ sizeLine; decide, fun lp hlp => ?_⟩
    have bp : lp ≠ b := fun z => by
      rw [z, hb] at hlp
      cases hlp
    have cp : lp ≠ c := fun z => by
      rw [z, hc] at hlp
      cases hlp
    have sL := same_new (o := .lst [.int 10, .int 1000, .int (10 ^ (12 : Int).toNat), .int (10 ^ (29 : Int).toNat)]) hlp
    refine ⟨_, rfl, b, c, ns, 4, n, _, rfl, by decide, by decide, sL _ _ hb, hB, by omega, sL _ _ hc, fun r1 o1 a1 a2 B1 => ?_⟩
    obtain ⟨kv1, rfl⟩ := B1.dict
    obtain ⟨lim, l0, l1, hat⟩ := lim_at r1 a1 a2
    refine ⟨lp, _, _, .int lim, rfl, rfl, SqL.of (by rw [upd_ne bp]; exact upd_same), hat, ?_⟩
    refine ⟨b, c, ns, lim, n + 1, _, rfl, l0, Int.le_trans l1 (by decide), upd_same, B1, by omega, by rw [upd_ne ncb]; exact sL _ _ hc, fun r2 o2 a3 a4 B2 => ?_⟩
    obtain ⟨kv2, rfl⟩ := B2.dict
    rw [upd_upd]
    have k1 : KeepB b H (upd (upd H lp (.lst [.int 10, .int 1000, .int (10 ^ (12 : Int).toNat), .int (10 ^ (29 : Int).toNat)])) b (.dK kv2)) := sL.keepB.trans KeepB.upd
    have hb1 : upd (upd H lp (.lst [.int 10, .int 1000, .int (10 ^ (12 : Int).toNat), .int (10 ^ (29 : Int).toNat)])) b (.dK kv2) b = some (.dK kv2) := upd_same
    generalize upd (upd H lp (.lst [.int 10, .int 1000, .int (10 ^ (12 : Int).toNat), .int (10 ^ (29 : Int).toNat)])) b (.dK kv2) = H1 at k1 hb1 ⊢
    refine ⟨_, _, rfl, rfl, ?_⟩
    obtain ⟨nn, n10, n30, en⟩ : ∃ nn : Nat, 10 ≤ nn ∧ nn < 10 ^ 30 ∧ 10 + r2 = (nn : Int) := ⟨(10 + r2).toNat, by omega, by omega, by omega⟩
    show gName 1 (V.int (10 + r2)) _ _ _
    rw [en]
    have nb : (nn : Int).natAbs < 2 ^ 150 := Nat.lt_trans n30 (by decide)
    have lg : (nn : Int).natAbs.log2 < 1920 := Nat.lt_of_lt_of_le (PySem.Flt.log2_lt_of (k := 150) (by decide) nb) (by decide)
    have nl := num_len n30
    refine ⟨_, rfl, _, rfl, lg, _, _, rfl, rfl, ?_, ?_⟩
    · show (numS nn).length + (" - k" : Str).length ≤ sizeLine
      rw [show (" - k" : Str).length = 4 by decide +kernel]
      exact Nat.le_trans (Nat.add_le_add_right nl 4) (by decide)
    intro xa dxa na nda nea
    have gA : goodK ⟨"taken", "k", fallS nn, true⟩ := ⟨(by decide : ("taken" : Str) ∈ STYL), good7.2.2.1, fall_good n30⟩
    refine mk_rules (k := ⟨"taken", "k", fallS nn, true⟩) gA na nda nea fun H2 s2 R2 => ⟨rfl, ?_⟩
    refine ⟨_, rfl, _, _, rfl, rfl, _, _, rfl, rfl, wide_div (b := 2) (by decide) (by decide) (by decide) (by decide), ?_⟩
    obtain ⟨f1, f2, f3, f4⟩ := fall_next n10 n30
    have hE : ∃ x1 x2, RulesAt C H2 xa "taken" (.str "k") (.str (fallS nn)) (.bl true) x1 x2 := R2
    obtain ⟨x1, x2, RA⟩ := hE
    obtain ⟨dxA, osA, pA1, pA2, csA, lsA, hA1, hA2, hA3, _⟩ := id RA
    have ex1 : x1 = fX1 := by
      have z : shareV (.str "k") = some fX1 := by decide +kernel
      rw [hA2] at z
      exact Option.some.inj z
    have ex2 : x2 = fX2 nn := by
      have z : shareV (.str (fallS nn)) = some (fX2 nn) := fall_share n30
      rw [hA3] at z
      exact Option.some.inj z
    subst ex1 ex2
    have no : ∀ {G : Prop} {j : Int}, 1 ≤ j → (∀ i : Int, V.int j = .int i → ¬ 1 ≤ i) → G := fun h z => absurd h (z _ rfl)
    have kk : ∀ {j : Int}, j.natAbs < 2 ^ 200 → ∀ i : Int, V.int j = .int i → i.natAbs < 2 ^ 200 := fun h i e => by
      cases e
      exact h
    have half : 1 ≤ ((nn : Int) + 1) / 2 ∧ (((nn : Int) + 1) / 2).natAbs < 2 ^ 150 := by omega
    have b200 : ∀ {j : Int}, j.natAbs < 2 ^ 152 → j.natAbs < 2 ^ 200 := fun h => Nat.lt_trans h (by decide)
    have asks : ∀ (i : Nat) (x : V), [V.int 1, .int (((nn : Int) + 1) / 2), .int ((nn : Int) - 1), .int nn][i]? = some x → ∃ j : Int, x = .int j ∧ 1 ≤ j ∧ j.natAbs < 2 ^ 200 ∧ [V.int (((nn : Int) + 1) / 2), .int (((nn : Int) + 1) / 2), .int ((nn : Int) - 1), .non][i]? = some (intV (nextM fX1 (fX2 nn) j)) := fun i x e => by
      match i, e with
      | 0, e => exact ⟨1, (Option.some.inj e).symm, by decide, by decide, by rw [f1]; rfl⟩
      | 1, e => exact ⟨_, (Option.some.inj e).symm, half.1, b200 (Nat.lt_trans half.2 (by decide)), by rw [f2]; rfl⟩
      | 2, e => exact ⟨_, (Option.some.inj e).symm, by omega, b200 (by omega), by rw [f3]; rfl⟩
      | 3, e => exact ⟨_, (Option.some.inj e).symm, by omega, b200 (Nat.lt_trans nb (by decide)), by rw [f4]; rfl⟩
      | n + 4, e => cases e
    refine ⟨_, rfl, _, rfl, _, _, rfl, rfl, _, rfl, by show 4 ≤ sizeLine; decide, fun l hl => ?_⟩
    refine ⟨l, rfl, ⟨_, SqL.of upd_same⟩, fun D hD => lc_list (K := K) (a := l) (xs := [V.int 1, .int (((nn : Int) + 1) / 2), .int ((nn : Int) - 1), .int nn]) (fun i H' => Same (upd H2 l (.lst [V.int 1, .int (((nn : Int) + 1) / 2), .int ((nn : Int) - 1), .int nn])) H' ∧ H' D = some (.lst ([V.int (((nn : Int) + 1) / 2), .int (((nn : Int) + 1) / 2), .int ((nn : Int) - 1), .non].take i))) ⟨same_new hD, upd_same⟩ (fun i H' _ h => SqL.of (h.1 _ _ upd_same)) (fun i x H' hi hp => ?_) (fun H' hp => ?_)⟩
    · obtain ⟨j, rfl, j1, j2, ej⟩ := asks i x hi
      have sH := (same_new (o := .lst [V.int 1, .int (((nn : Int) + 1) / 2), .int ((nn : Int) - 1), .int nn]) hl).trans hp.1
      refine ⟨rfl, ?_⟩
      refine ⟨_, rfl, xa, dxA, _, rfl, sH _ _ hA1, rfl, _, rfl, xa, .int j, _, _, _, _, _, _, _, rfl, RA.same sH, Kd.int, kk j2, fun i2 e2 _ H3 s3 => ?_, no j1⟩
      cases e2
      have st : ∀ acc, Same (upd H2 l (.lst [V.int 1, .int (((nn : Int) + 1) / 2), .int ((nn : Int) - 1), .int nn])) (upd H3 D (.lst acc)) := fun acc u o e => by
        rw [upd_ne (fun z => by rw [z, hD] at e; cases e)]
        exact s3 _ _ (hp.1 u o e)
      refine ⟨_, s3 _ _ hp.2, ?_, st _, ?_⟩
      · exact Nat.lt_of_le_of_lt (List.length_take_le _ _) (Nat.lt_of_lt_of_le (show i < 1000 by
          have := (List.getElem?_eq_some_iff.mp hi).1; exact Nat.lt_trans this (by show 4 < 1000; decide)) (by decide))
      · rw [upd_same, List.take_succ, ej]
        rfl
    obtain ⟨sH, hD2⟩ := hp
    have hD2 : H' D = some (.lst [V.int (((nn : Int) + 1) / 2), .int (((nn : Int) + 1) / 2), .int ((nn : Int) - 1), .non]) := hD2
    have sH2 := (same_new (o := .lst [V.int 1, .int (((nn : Int) + 1) / 2), .int ((nn : Int) - 1), .int nn]) hl).trans sH
    refine ⟨_, rfl, _, rfl, _, rfl, _, _, rfl, rfl, by show 4 ≤ sizeLine; decide, fun m hm => ?_⟩
    have four : ∀ {Hx : Hp} {z : Addr} {a b c : Int}, Hx z = some (.lst [V.int a, .int b, .int c, .non]) → Dp K Hx (.ref z) (.list [.int a, .int b, .int c, .none]) := fun e => .lst (SqL.of e) (.cons (.int _) (.cons (.int _) (.cons (.int _) (.cons .non .nil))))
    have sM := same_new (o := .lst [V.int (((nn : Int) + 1) / 2), .int (((nn : Int) + 1) / 2), .int ((nn : Int) - 1), .non]) hm
    refine ⟨_, _, four (sM _ _ hD2), four upd_same, rfl, rfl, ?_⟩
    rw [eqv_self _ rfl]
    refine ⟨_, rfl, ?_⟩
    have k2 : KeepB b H (upd H' m (.lst [V.int (((nn : Int) + 1) / 2), .int (((nn : Int) + 1) / 2), .int ((nn : Int) - 1), .non])) := k1.trans ((s2.trans (sH2.trans sM)).keepB)
    have hb2 := (s2.trans (sH2.trans sM)) _ _ hb1
    generalize upd H' m (.lst [V.int (((nn : Int) + 1) / 2), .int (((nn : Int) + 1) / 2), .int ((nn : Int) - 1), .non]) = H3 at k2 hb2 ⊢
    refine ⟨_, rfl, b, c, ns, 5, n + 1 + 1, _, rfl, by decide, by decide, hb2, B2, by omega, k2 _ _ ncb hc, fun r3 o3 c1 c2 B3 => ?_⟩
    obtain ⟨kv3, rfl⟩ := B3.dict
    have k3 : KeepB b H (upd H3 b (.dK kv3)) := k2.trans KeepB.upd
    have hb3 : upd H3 b (.dK kv3) b = some (.dK kv3) := upd_same
    generalize upd H3 b (.dK kv3) = H4 at k3 hb3 ⊢
    refine ⟨_, _, rfl, rfl, ?_⟩
    obtain ⟨m, m2, m6, em⟩ : ∃ m : Nat, 2 ≤ m ∧ m ≤ 6 ∧ 2 + r3 = (m : Int) := ⟨(2 + r3).toNat, by omega, by omega, by omega⟩
    show gName 5 (V.int (2 + r3)) _ _ _
    rw [em]
    have mg2 : (m : Int).natAbs.log2 < 1920 := Nat.lt_of_lt_of_le (PySem.Flt.log2_lt_of (k := 10) (by decide) (by omega)) (by decide)
    refine ⟨_, rfl, _, rfl, mg2, _, _, rfl, rfl, ?_, _, rfl, _, rfl, lg, _, _, rfl, rfl, ?_, ?_⟩
    · show ("k // " : Str).length + (numS m).length ≤ sizeLine
      rw [show ("k // " : Str).length = 5 by decide +kernel]
      exact Nat.le_trans (Nat.add_le_add_left (num_len (n := m) (Nat.lt_of_le_of_lt m6 (by decide))) 5) (by decide)
    · show ("k - " : Str).length + (numS nn).length ≤ sizeLine
      rw [show ("k - " : Str).length = 4 by decide +kernel]
      exact Nat.le_trans (Nat.add_le_add_left nl 4) (by decide)
    intro xb dxb nxb ndb neb
    have gB : goodK ⟨"copied", partS m, laterS nn, true⟩ := ⟨(by decide : ("copied" : Str) ∈ STYL), part_good m2 m6, later_good n30⟩
    refine mk_rules (k := ⟨"copied", partS m, laterS nn, true⟩) gB nxb ndb neb fun H5 s5 R5 => ⟨rfl, ?_⟩
    have hb5 := s5 _ _ hb3
    have k5 := k3.trans s5.keepB
    obtain ⟨y1, y2, RB⟩ : ∃ x1 x2, RulesAt C H5 xb "copied" (.str (partS m)) (.str (laterS nn)) (.bl true) x1 x2 := R5
    obtain ⟨dxB, osB, pB1, pB2, csB, lsB, hB1, hB2, hB3, _⟩ := id RB
    have ey1 : y1 = lX1 m := by
      have z : shareV (.str (partS m)) = some (lX1 m) := part_share m (by omega) m2
      rw [hB2] at z
      exact Option.some.inj z
    have ey2 : y2 = lX2 nn := by
      have z : shareV (.str (laterS nn)) = some (lX2 nn) := later_share n30
      rw [hB3] at z
      exact Option.some.inj z
    subst ey1 ey2
    refine ⟨_, rfl, _, rfl, _, _, rfl, rfl, wide_mul (a := 150) (b := 10) nb (by omega) (by decide) (by decide) (by decide), _, rfl, _, _, rfl, rfl, _, _, rfl, rfl, wide_div (b := 10) (by show (0 : Int) < (m : Int) - 1; omega) (by show ((m : Int) - 1).natAbs < 2 ^ 10; omega) (by decide) (by decide), _, _, rfl, rfl, ?_⟩
    obtain ⟨near1, near2⟩ := later_near (n := nn) n10 m2 m6
    have far := later_far (n := nn) m2 m6
    have up : (nn : Int) * (m : Int) / ((m : Int) - 1) + 3 ≤ 2 * (nn : Int) + 3 := by
      have cs : m = 2 ∨ m = 3 ∨ m = 4 ∨ m = 5 ∨ m = 6 := by omega
      rcases cs with e | e | e | e | e <;> rw [e] <;> simp <;> omega
    have step1 : ∀ {L : Int}, ¬ L + 1 - (nn : Int) ≤ (L + 1) / (m : Int) → L - (nn : Int) > L / (m : Int) → ¬ L - 1 + 1 - (nn : Int) ≤ (L - 1 + 1) / (m : Int) := fun {L} _ h => by
      rw [Int.sub_add_cancel]
      omega
    refine while_by (fun σ H' => ∃ L : Int, σ = [some (.ref b), some (.int nn), some (.ref xa), some (.int (((nn : Int) + 1) / 2)), none, some (.int m), some (.ref xb), some (.int L), none] ∧ H' = H5 ∧ (nn : Int) + 1 ≤ L ∧ L ≤ 2 * (nn : Int) + 3 ∧ ¬ L + 1 - (nn : Int) ≤ (L + 1) / (m : Int)) (fun σ _ => match σ with
      | [_, _, _, _, _, _, _, some (.int z), _] => (z - (nn : Int)).toNat
      | _ => 0) ⟨(nn : Int) * (m : Int) / ((m : Int) - 1) + 3, rfl, rfl, near2, up, far⟩ ?_ ?_
    · rintro σ H9 ⟨L, rfl, rfl, h1, h2, h3⟩
      refine ⟨_, rfl, _, rfl, _, _, rfl, rfl, _, rfl, _, rfl, _, _, rfl, rfl, wide_div (b := 10) (by show (0 : Int) < (m : Int); omega) (by show (m : Int).natAbs < 2 ^ 10; omega) (by decide) (by decide), _, _, rfl, rfl, _, rfl, ite2 (fun e => ?_) fun e => ?_⟩
      · have e' : L - (nn : Int) > L / (m : Int) := of_decide_eq_true e
        have ne : L ≠ (nn : Int) + 1 := fun z => by
          rw [z] at e'
          omega
        refine ⟨_, rfl, _, _, rfl, rfl, ⟨L - 1, rfl, rfl, by omega, by omega, step1 h3 e'⟩, ?_⟩
        show (L - 1 - (nn : Int)).toNat < (L - (nn : Int)).toNat
        omega
      · have e' : L - (nn : Int) ≤ L / (m : Int) := by
          have z : ¬ L - (nn : Int) > L / (m : Int) := fun z => e (decide_eq_true z)
          omega
        obtain ⟨g1, g2, g3, g4⟩ := later_next n10 n30 m2 m6 h1 e' h3
        have asks2 : ∀ (i : Nat) (x : V), [V.int 1, .int ((nn : Int) + 1), .int L, .int (L + 1)][i]? = some x → ∃ j : Int, x = .int j ∧ 1 ≤ j ∧ j.natAbs < 2 ^ 200 ∧ [V.int ((nn : Int) + 1), .int ((nn : Int) + 1), .int L, .non][i]? = some (intV (nextM (lX1 m) (lX2 nn) j)) := fun i x e => by
          match i, e with
          | 0, e => exact ⟨1, (Option.some.inj e).symm, by decide, by decide, by rw [g1]; rfl⟩
          | 1, e => exact ⟨_, (Option.some.inj e).symm, by omega, b200 (by omega), by rw [g2]; rfl⟩
          | 2, e => exact ⟨_, (Option.some.inj e).symm, by omega, b200 (by omega), by rw [g3]; rfl⟩
          | 3, e => exact ⟨_, (Option.some.inj e).symm, by omega, b200 (by omega), by rw [g4]; rfl⟩
          | n + 4, e => cases e
        refine ⟨_, rfl, _, _, rfl, rfl, _, rfl, _, rfl, _, _, rfl, rfl, by show 4 ≤ sizeLine; decide, fun l hl => ?_⟩
        refine ⟨l, rfl, ⟨_, SqL.of upd_same⟩, fun D hD => lc_list (K := K) (a := l) (xs := [V.int 1, .int ((nn : Int) + 1), .int L, .int (L + 1)]) (fun i H' => Same (upd H9 l (.lst [V.int 1, .int ((nn : Int) + 1), .int L, .int (L + 1)])) H' ∧ H' D = some (.lst ([V.int ((nn : Int) + 1), .int ((nn : Int) + 1), .int L, .non].take i))) ⟨same_new hD, upd_same⟩ (fun i H' _ h => SqL.of (h.1 _ _ upd_same)) (fun i x H' hi hp => ?_) (fun H' hp => ?_)⟩
        · obtain ⟨j, rfl, j1, j2, ej⟩ := asks2 i x hi
          have sH := (same_new (o := .lst [V.int 1, .int ((nn : Int) + 1), .int L, .int (L + 1)]) hl).trans hp.1
          refine ⟨rfl, ?_⟩
          refine ⟨_, rfl, xb, dxB, _, rfl, sH _ _ hB1, rfl, _, rfl, xb, .int j, _, _, _, _, _, _, _, rfl, RB.same sH, Kd.int, kk j2, fun i2 e2 _ H3 s3 => ?_, no j1⟩
          cases e2
          have st : ∀ acc, Same (upd H9 l (.lst [V.int 1, .int ((nn : Int) + 1), .int L, .int (L + 1)])) (upd H3 D (.lst acc)) := fun acc u o e => by
            rw [upd_ne (fun z => by rw [z, hD] at e; cases e)]
            exact s3 _ _ (hp.1 u o e)
          refine ⟨_, s3 _ _ hp.2, ?_, st _, ?_⟩
          · exact Nat.lt_of_le_of_lt (List.length_take_le _ _) (Nat.lt_of_lt_of_le (show i < 1000 by
              have := (List.getElem?_eq_some_iff.mp hi).1; exact Nat.lt_trans this (by show 4 < 1000; decide)) (by decide))
          · rw [upd_same, List.take_succ, ej]
            rfl
        · obtain ⟨sH, hD2⟩ := hp
          have hD2 : H' D = some (.lst [V.int ((nn : Int) + 1), .int ((nn : Int) + 1), .int L, .non]) := hD2
          have sH2 := (same_new (o := .lst [V.int 1, .int ((nn : Int) + 1), .int L, .int (L + 1)]) hl).trans sH
          refine ⟨_, rfl, _, rfl, _, _, rfl, rfl, _, rfl, _, _, rfl, rfl, _, rfl, by show 4 ≤ sizeLine; decide, fun m hm => ?_⟩
          have sM := same_new (o := .lst [V.int ((nn : Int) + 1), .int ((nn : Int) + 1), .int L, .non]) hm
          refine ⟨_, _, four (sM _ _ hD2), four upd_same, rfl, rfl, ?_⟩
          rw [eqv_self _ rfl]
          exact q _ _ _ (k5.trans ((sH2.trans sM).keepB)) ((sH2.trans sM) _ _ hb5) B3 (by omega)
    · rintro σ H' R R' hm ⟨x, hx, y, hy, i, j, rfl, rfl, x2, hx2, y2, hy2, i3, j3, h3, h4, hc, i2, j2, h1, h2, z, hz, r⟩
      exact ⟨_, hx, _, hy, i, j, rfl, rfl, _, hx2, _, hy2, i3, j3, h3, h4, hc, i2, j2, h1, h2, z, hz, hm _ _ r⟩
end
end Pk
namespace Pk
open L2 PyProof.Rows PySem.Spec PySem
abbrev sLCap : Stmt := top 36
abbrev qLam : Str := (("_law_capacity_refused" : Str) ++ ".<locals>.") ++ "<lambda>"
abbrev lamA : Arguments := { posonlyargs := [], args := [], vararg := none, kwonlyargs := [], kw_defaults := [], kwarg := none, defaults := [] }
abbrev lamSc : Scope := { kind := .function, names := [("_law_odd", .free), ("_law_rules", .free)], isGenerator := false, isCoroutine := false, more := [] }
inductive L4 where
  | a | b | c | d
def lamB : L4 → Expr
  | .a => .Call (.Attribute (.Name "_law_rules" ⟨224, 41, 224, 51⟩) "cap_at" ⟨224, 41, 224, 58⟩) [.Name "_law_odd" ⟨224, 59, 224, 67⟩] [] ⟨224, 41, 224, 68⟩
  | .b => .Call (.Attribute (.Name "_law_rules" ⟨225, 32, 225, 42⟩) "low_at" ⟨225, 32, 225, 49⟩) [.Name "_law_odd" ⟨225, 50, 225, 58⟩] [] ⟨225, 32, 225, 59⟩
  | .c => .Call (.Attribute (.Name "_law_rules" ⟨226, 32, 226, 42⟩) "in_use" ⟨226, 32, 226, 49⟩) [.Name "_law_odd" ⟨226, 50, 226, 58⟩] [] ⟨226, 32, 226, 59⟩
  | .d => .Call (.Attribute (.Name "_law_rules" ⟨227, 32, 227, 42⟩) "next_in_use" ⟨227, 32, 227, 54⟩) [.Name "_law_odd" ⟨227, 55, 227, 63⟩] [] ⟨227, 32, 227, 64⟩
def lamM : L4 → Str
  | .a => "cap_at"
  | .b => "low_at"
  | .c => "in_use"
  | .d => "next_in_use"
def lamP (K : PySem.W.Frag) (C : Addr) : L4 → Sp
  | .a => spCapQ K C fun x1 x2 k => .int ((lineM x1).at_ k)
  | .b => spCapQ K C fun x1 x2 k => .int ((lineM x2).at_ k)
  | .c => spCapQ K C fun x1 x2 k => .bl (usedL x1 x2 k)
  | .d => spNext K C
def lamT (K : PySem.W.Frag) (C : Addr) (j : L4) (E : XK) : TE := tMeth C (lamM j) (lamP K C j) [] E (tVar 0) (tCons (tVar 1) tNil)
theorem ShareAt.extN {H H' : Hp} {p : Addr} {x : Share} (h : ShareAt H p x) (s : LamX.ExtN H H') : ShareAt H' p x := by
  obtain ⟨q, refs, h1, h2, h3⟩ := h
  exact ⟨q, refs, s _ _ h1 (fun _ z => by cases z), s _ _ h2 (fun _ z => by cases z), Paired.mapP h3 fun a t e => s _ _ e (fun _ z => by cases z)⟩
theorem RulesAt.extN {C : Addr} {H H' : Hp} {r : Addr} {sty : Str} {cap low root : V} {x1 x2 : Share} (h : RulesAt C H r sty cap low root x1 x2) (s : LamX.ExtN H H') : RulesAt C H' r sty cap low root x1 x2 := by
  obtain ⟨dx, os, p1, p2, cs, ls, h1, h2, h3, h4, h5, h6, h7, h8⟩ := h
  have n : ∀ {b : Addr} {o : HO}, H b = some o → (∀ ps, o ≠ .tbl ps) → H' b = some o := fun e k => s _ _ e k
  exact ⟨dx, os, p1, p2, cs, ls, n h1 (fun _ z => by cases z), h2, h3, n h4 (fun _ z => by cases z), ShareAt.extN h5 s, ShareAt.extN h6 s, n h7 (fun _ z => by cases z), n h8 (fun _ z => by cases z)⟩
/-- a lambda that is kept -/
structure Lam1 (ce : List (Str × Addr)) (H : Hp) (j : L4) (f c : Addr) : Prop where
  o : H f = some (LamX.LamO ce qLam lamA (lamB j) lamSc c f)
  k : H c = some (LamX.CodeO c qLam)
def ExB (l : Addr) (H H' : Hp) : Prop := ∀ b o, b ≠ l → H b = some o → (∀ ps, o ≠ .tbl ps) → H' b = some o
theorem ExB.trans {l : Addr} {H H1 H2 : Hp} (a : ExB l H H1) (b : ExB l H1 H2) : ExB l H H2 := fun c o n h k => b c o n (a c o n h k) k
theorem Lam1.exB {ce : List (Str × Addr)} {H H' : Hp} {j : L4} {f c l : Addr} {xs : List V} (h : Lam1 ce H j f c) (hl : H l = some (.lst xs)) (x : ExB l H H') : Lam1 ce H' j f c :=
  have e1 := h.o
  have e2 := h.k
  ⟨x _ _ (fun z => by rw [z, hl] at e1; cases e1) h.o (fun _ z => by cases z), x _ _ (fun z => by rw [z, hl] at e2; cases e2) h.k LamX.codeO_ne⟩
theorem lam_step {ce : List (Str × Addr)} {Ha H1 : Hp} {T : List (Addr × Str)} {xs : List V} {l0 f1 c1 : Addr} (j : L4) (x1 : LamX.ExtN Ha H1) (Tc : LamX.Tabs T H1) (nb : H1 f1 = none) (kb : H1 c1 = some (LamX.CodeO c1 qLam)) (q0 : Ha l0 = some (.lst xs)) :
    upd H1 f1 (LamX.LamO ce qLam lamA (lamB j) lamSc c1 f1) l0 = some (.lst xs) ∧ ∀ Hb, Hb = upd (upd H1 f1 (LamX.LamO ce qLam lamA (lamB j) lamSc c1 f1)) l0 (.lst (xs ++ [.ref f1])) → ExB l0 Ha Hb ∧ LamX.Tabs T Hb ∧ Lam1 ce Hb j f1 c1 ∧ Hb l0 = some (.lst (xs ++ [.ref f1])) := by
  have e0 : H1 l0 = some (.lst xs) := x1 _ _ q0 (fun _ z => by cases z)
  have e1 := same_new (o := LamX.LamO ce qLam lamA (lamB j) lamSc c1 f1) nb
  refine ⟨e1 _ _ e0, fun Hb e => ?_⟩
  subst e
  have nf : f1 ≠ l0 := fun z => by
    rw [z, e0] at nb
    cases nb
  have nc : c1 ≠ l0 := fun z => by
    rw [z, e0] at kb
    cases kb
  refine ⟨fun b o hb h k => ?_, fun p hp => ?_, ⟨?_, ?_⟩, upd_same⟩
  · rw [upd_ne hb]
    exact e1 _ _ (x1 _ _ h k)
  · obtain ⟨ps, a1, a2, a3⟩ := Tc p hp
    refine ⟨ps, ?_, a2, fun pos cv hc => ?_⟩
    · rw [upd_ne (fun z => by rw [z, e0] at a1; cases a1)]
      exact e1 _ _ a1
    · obtain ⟨c, z1, z2⟩ := a3 pos cv hc
      refine ⟨c, z1, ?_⟩
      rw [upd_ne (fun z => by rw [z, e0] at z2; cases z2)]
      exact e1 _ _ z2
  · rw [upd_ne nf]
    exact upd_same
  · rw [upd_ne nc]
    exact e1 _ _ kb
/-- a value that is no capacity; it stays what it is -/
def spLCap (K : PySem.W.Frag) (C Pt : Addr) : Sp := fun vs H Q _ => ∃ (r : Addr) (x : V) (t : Value) (d : PyData) (sty : Str) (cap low root : V) (x1 x2 : Share), vs = [.ref r, x] ∧ RulesAt C H r sty cap low root x1 x2 ∧ (∀ k : Int, x = .int k → ¬ 1 ≤ k ∧ k.natAbs < 2 ^ 10) ∧ SeqAt.shaped d = true ∧
  (∀ H', LamX.ExtN H H' → Kd K H' x t ∧ Dp K H' x d) ∧ LamX.Tabs [(Pt, qLam)] H ∧ ∀ H', Q (.bl true) H'
section
variable {K : PySem.W.Frag} {P : Program} {w : World} {base : Heap} {mg : Str → Option Value} {C fI : Addr}
theorem sc_law_capacity_refused : FnScope ["_law_rules", "_law_odd", "_law_actions", "_law_found", "_law_action", "e"] ["_law_rules", "_law_odd"] (defScope sLCap) := ⟨rfl, rfl, rfl, by decide +kernel, rfl, by decide +kernel, by decide +kernel⟩
theorem lamS : LamX.LamS (defScope sLCap) lamSc := LamX.lamS_by (by decide +kernel)
theorem ok_law_capacity_refused {f fC fL fU fN cP Pt : Addr} {fd fdC fdL fdU fdN : FuncData} (F : FunD K "_law_capacity_refused" "_law_capacity_refused" (defArgs sLCap) (defBody sLCap) (defScope sLCap) [] [] f fd) (RC : RulesC K mg C fI)
    (FC : FunD K "cap_at" "Rules.cap_at" (defArgs sCapAt) (defBody sCapAt) (defScope sCapAt) [] [] fC fdC) (FL : FunD K "low_at" "Rules.low_at" (defArgs sLowAt) (defBody sLowAt) (defScope sLowAt) [] [] fL fdL) (FU : FunD K "in_use" "Rules.in_use" (defArgs sInUse) (defBody sInUse) (defScope sInUse) [] [] fU fdU) (FN : FunD K "next_in_use" "Rules.next_in_use" (defArgs sNextU) (defBody sNextU) (defScope sNextU) [] [] fN fdN)
    (GC : FnOk P w K mg base (L2.CX P w) 4 fC fdC ["self", "k"] (spCapQ K C fun x1 x2 k => .int ((lineM x1).at_ k))) (GL : FnOk P w K mg base (L2.CX P w) 4 fL fdL ["self", "k"] (spCapQ K C fun x1 x2 k => .int ((lineM x2).at_ k)))
    (GU : FnOk P w K mg base (L2.CX P w) 4 fU fdU ["self", "k"] (spCapQ K C fun x1 x2 k => .bl (usedL x1 x2 k))) (GN : FnOk P w K mg base (L2.CX P w) 4 fN fdN ["self", "k"] (spNext K C)) (mC : Meth K C "cap_at" fC) (mL : Meth K C "low_at" fL) (mU : Meth K C "in_use" fU) (mN : Meth K C "next_in_use" fN)
    (ER : Errs P K mg) (kk : PySem.W.exmOne K (.ref (He.ga K "BadCapacity")) (.ref (He.ga K "BadCapacity")) = some true) (xC : XfC K (He.ga K "BadCapacity")) (TB : LamX.TabB base mg cP Pt) (hcode : fd.code = .ref cP) : FnOk P w K mg base CX0 7 f fd ["_law_rules", "_law_odd"] (spLCap K C Pt) := by
  have bC : Binds K fdC ["self", "k"] [] := FC.bindsN fun _ _ _ _ _ _ us hl => match us, hl with | [_, _], _ => rfl
  have bL : Binds K fdL ["self", "k"] [] := FL.bindsN fun _ _ _ _ _ _ us hl => match us, hl with | [_, _], _ => rfl
  have bU : Binds K fdU ["self", "k"] [] := FU.bindsN fun _ _ _ _ _ _ us hl => match us, hl with | [_, _], _ => rfl
  have bN : Binds K fdN ["self", "k"] [] := FN.bindsN fun _ _ _ _ _ _ us hl => match us, hl with | [_, _], _ => rfl
  refine LamX.okC F sc_law_capacity_refused (fun vs H Q E h => ?_) (fun A outer s H vs Q E hr h => ?_)
  · obtain ⟨r, x, t, d, sty, cap, low, root, x1, x2, rfl, _⟩ := h
    rfl
  · obtain ⟨r, x, t, d, sty, cap, low, root, x1, x2, rfl, R, nk, sd, kd, T0, q⟩ := h
    have hbody : ∀ (j : L4) (A2 : Around) (outer2 : List Env) (s2 : Shared) (H2 : Hp) (E2 : XK) (f2 c2 : Addr), Room 4 (A2.deeper (LamX.lamEnv (cxOf CX0 P w K mg base ["_law_rules", "_law_odd", "_law_actions", "_law_found", "_law_action", "e"] "_law_capacity_refused" (defScope sLCap) f fd.code A outer s H E).nox lamSc s2.heap.objs.size f2 c2)) →
        PE (LamX.lamCx (cxOf CX0 P w K mg base ["_law_rules", "_law_odd", "_law_actions", "_law_found", "_law_action", "e"] "_law_capacity_refused" (defScope sLCap) f fd.code A outer s H E).nox A2 outer2 s2 H2 E2 lamSc f2 c2) (lamB j) (lamT K C j E2) := fun j A2 outer2 s2 H2 E2 f2 c2 hr2 => by
      have v0 : Vis lamSc ("_law_rules" : Str) := .inr (.inr rfl)
      have v1 : Vis lamSc ("_law_odd" : Str) := .inr (.inr rfl)
      cases j with
      | a => exact pe_meth (pe_var (i := 0) rfl v0) RC.cls mC GC hr2 bC .nil (passes_call (takes_of rfl rfl rfl rfl) (fun _ _ _ _ h => h)) (pa_cons (pe_var (i := 1) rfl v1) pa_nil)
      | b => exact pe_meth (pe_var (i := 0) rfl v0) RC.cls mL GL hr2 bL .nil (passes_call (takes_of rfl rfl rfl rfl) (fun _ _ _ _ h => h)) (pa_cons (pe_var (i := 1) rfl v1) pa_nil)
      | c => exact pe_meth (pe_var (i := 0) rfl v0) RC.cls mU GU hr2 bU .nil (passes_call (takes_of rfl rfl rfl rfl) (fun _ _ _ _ h => h)) (pa_cons (pe_var (i := 1) rfl v1) pa_nil)
      | d => exact pe_meth (pe_var (i := 0) rfl v0) RC.cls mN GN hr2 bN .nil (passes_call (takes_of rfl rfl rfl rfl) (fun _ _ _ _ h => h)) (pa_cons (pe_var (i := 1) rfl v1) pa_nil)
    have hu64 : (A.deeper (envOfC "_law_capacity_refused" (defScope sLCap) s.heap.objs.size f fd.code)).units + 64 < cLine := Room.units hr
    refine ⟨_, PSs.nox (pss_cons (by exact (ps_par (i := 2) (j := 3) rfl sc_law_capacity_refused.nd rfl rfl (by decide) rfl rfl (pa_cons (pe_lst (pa_cons (LamX.pe_lamV (params := lamA) (body := lamB .a) (scope := lamSc) (T := [(Pt, qLam)]) (ce := (envOfC "_law_capacity_refused" (defScope sLCap) s.heap.objs.size f fd.code).cells) (q := qLam) rfl rfl TB hcode (by simp) (by simp) lamS rfl) pa_nil)) (pa_cons (pe_lst pa_nil) pa_nil)) rfl)) (pss_cons (by exact (ps_expr (pe_bm PySem.F.plainAttrs_list PySem.F.slot_list_append PySem.F.type_list_append mt_append (pv 2) (pa_cons (LamX.pe_lamV (params := lamA) (body := lamB .b) (scope := lamSc) (T := [(Pt, qLam)]) (ce := (envOfC "_law_capacity_refused" (defScope sLCap) s.heap.objs.size f fd.code).cells) (q := qLam) rfl rfl TB hcode (by simp) (by simp) lamS rfl) pa_nil)))) (pss_cons (by exact (ps_expr (pe_bm PySem.F.plainAttrs_list PySem.F.slot_list_append PySem.F.type_list_append mt_append (pv 2) (pa_cons (LamX.pe_lamV (params := lamA) (body := lamB .c) (scope := lamSc) (T := [(Pt, qLam)]) (ce := (envOfC "_law_capacity_refused" (defScope sLCap) s.heap.objs.size f fd.code).cells) (q := qLam) rfl rfl TB hcode (by simp) (by simp) lamS rfl) pa_nil)))) (pss_cons (by exact (ps_expr (pe_bm PySem.F.plainAttrs_list PySem.F.slot_list_append PySem.F.type_list_append mt_append (pv 2) (pa_cons (LamX.pe_lamV (params := lamA) (body := lamB .d) (scope := lamSc) (T := [(Pt, qLam)]) (ce := (envOfC "_law_capacity_refused" (defScope sLCap) s.heap.objs.size f fd.code).cells) (q := qLam) rfl rfl TB hcode (by simp) (by simp) lamS rfl) pa_nil)))) (pss_cons (by exact (ps_for PassesOwn.never rfl (pi_list (pv 2)) (pg_name (i := 4) sc_law_capacity_refused.nd rfl (Or.inl rfl)) (pss_one (by exact (ps_try_allD K rfl rfl rfl sc_law_capacity_refused.nd rfl takes_noX (fun W pn xe tkW po => pss_one (by exact (ps_expr (LamX.pe_lamS (ι := L4) (params := fun _ => lamA) (body := lamB) (scope := fun _ => lamSc) (ce := (envOfC "_law_capacity_refused" (defScope sLCap) s.heap.objs.size f fd.code).cells) (q := qLam) (i := 4) (k := 4) (tb := lamT K C) rfl rfl (fun _ => lamS) tkW (hr.mono (by decide)) (fun _ _ _ _ _ _ => rfl) (fun j A outer s2 H2 E2 f2 c2 hr2 => hbody j A outer s2 H2 E2 f2 c2 hr2) rfl (Or.inl rfl))))) (HdsA.as_ (i := 5) ⟨rfl, rfl, .inl ER.gBadCapacity⟩ rfl rfl (fun a pn => (pss_one (by exact (ps_expr (pe_bmK K rfl PySem.F.plainAttrs_list PySem.F.slot_list_append PySem.F.type_list_append mt_append (pv 3) (pa_cons (pe_cmpR (op_eqDK K rfl hu64) (pe_xfTK K rfl (pv 5)) (pv 1) (nomark _)) pa_nil)))))) HdsA.nil)))))) (pss_one (by exact (ps_ret (pe_cmpR (op_eqDK K rfl hu64) (pv 3) (pe_lst (pa_cons pe_bl (pa_cons pe_bl (pa_cons pe_bl (pa_cons pe_bl pa_nil))))) (nomark _)))))))))), ?_⟩
    refine ⟨T0, fun f0 c0 H0 x0 Ta na ka => ⟨by show 1 ≤ sizeLine; decide, fun l0 hl0 => ⟨by show 0 ≤ sizeLine; decide, fun l1 hl1 => ?_⟩⟩⟩
    have S1 : Same H0 (upd (upd (upd H0 f0 (LamX.LamO _ qLam lamA (lamB .a) lamSc c0 f0)) l0 (.lst [.ref f0])) l1 (.lst [])) := ((same_new na).step hl0).step hl1
    have nl : l0 ≠ l1 := fun z => by
      rw [← z, upd_same] at hl1
      cases hl1
    have q1 : upd (upd (upd H0 f0 (LamX.LamO (envOfC "_law_capacity_refused" (defScope sLCap) s.heap.objs.size f fd.code).cells qLam lamA (lamB .a) lamSc c0 f0)) l0 (.lst [.ref f0])) l1 (.lst []) l1 = some (.lst []) := upd_same
    have q0 : upd (upd (upd H0 f0 (LamX.LamO (envOfC "_law_capacity_refused" (defScope sLCap) s.heap.objs.size f fd.code).cells qLam lamA (lamB .a) lamSc c0 f0)) l0 (.lst [.ref f0])) l1 (.lst []) l0 = some (.lst [.ref f0]) := by
      rw [upd_ne nl]
      exact upd_same
    have qf : upd (upd (upd H0 f0 (LamX.LamO (envOfC "_law_capacity_refused" (defScope sLCap) s.heap.objs.size f fd.code).cells qLam lamA (lamB .a) lamSc c0 f0)) l0 (.lst [.ref f0])) l1 (.lst []) f0 = some (LamX.LamO (envOfC "_law_capacity_refused" (defScope sLCap) s.heap.objs.size f fd.code).cells qLam lamA (lamB .a) lamSc c0 f0) := ((same_new hl0).step hl1) _ _ upd_same
    have qc := S1 _ _ ka
    have Tb := Ta.ext S1
    have xb := x0.trans (LamX.ExtN.of S1)
    generalize upd (upd (upd H0 f0 (LamX.LamO (envOfC "_law_capacity_refused" (defScope sLCap) s.heap.objs.size f fd.code).cells qLam lamA (lamB .a) lamSc c0 f0)) l0 (.lst [.ref f0])) l1 (.lst []) = Ha at q1 q0 qf qc Tb xb ⊢
    have hn : ∀ o, H l0 = some o → (∀ ps, o ≠ .tbl ps) → False := fun o e k => by
      have z := same_new (o := LamX.LamO (envOfC "_law_capacity_refused" (defScope sLCap) s.heap.objs.size f fd.code).cells qLam lamA (lamB .a) lamSc c0 f0) na _ _ (x0 _ _ e k)
      have z2 : none = some o := hl0.symm.trans z
      cases z2
    have hn1 : ∀ o, H l1 = some o → (∀ ps, o ≠ .tbl ps) → False := fun o e k => by
      have z := ((same_new (o := LamX.LamO (envOfC "_law_capacity_refused" (defScope sLCap) s.heap.objs.size f fd.code).cells qLam lamA (lamB .a) lamSc c0 f0) na).step (o := .lst [.ref f0]) hl0) _ _ (x0 _ _ e k)
      have z2 : none = some o := hl1.symm.trans z
      cases z2
    have La : Lam1 (envOfC "_law_capacity_refused" (defScope sLCap) s.heap.objs.size f fd.code).cells Ha .a f0 c0 := ⟨qf, qc⟩
    refine ⟨_, _, rfl, _, rfl, .inl ⟨rfl, _, SqL.of q0⟩, Tb, fun f1 c1 H1 xx1 Tc nb kb => ?_⟩
    obtain ⟨e1, z1⟩ := lam_step (ce := (envOfC "_law_capacity_refused" (defScope sLCap) s.heap.objs.size f fd.code).cells) .b xx1 Tc nb kb q0
    refine ⟨l0, _, _, rfl, rfl, e1, by show 1 < sizeLine; decide, ?_⟩
    obtain ⟨xB, T1, L1, r0⟩ := z1 _ rfl
    generalize upd (upd H1 f1 (LamX.LamO (envOfC "_law_capacity_refused" (defScope sLCap) s.heap.objs.size f fd.code).cells qLam lamA (lamB .b) lamSc c1 f1)) l0 (.lst ([V.ref f0] ++ [.ref f1])) = Hb at xB T1 L1 r0 ⊢
    refine ⟨_, rfl, .inl ⟨rfl, _, SqL.of r0⟩, T1, fun f2 c2 H2 xx2 Td nc kc => ?_⟩
    obtain ⟨e2, z2⟩ := lam_step (ce := (envOfC "_law_capacity_refused" (defScope sLCap) s.heap.objs.size f fd.code).cells) .c xx2 Td nc kc r0
    refine ⟨l0, _, _, rfl, rfl, e2, by show 2 < sizeLine; decide, ?_⟩
    obtain ⟨xC', T2, L2', s0⟩ := z2 _ rfl
    generalize upd (upd H2 f2 (LamX.LamO (envOfC "_law_capacity_refused" (defScope sLCap) s.heap.objs.size f fd.code).cells qLam lamA (lamB .c) lamSc c2 f2)) l0 (.lst (([V.ref f0] ++ [.ref f1]) ++ [.ref f2])) = Hc at xC' T2 L2' s0 ⊢
    refine ⟨_, rfl, .inl ⟨rfl, _, SqL.of s0⟩, T2, fun f3 c3 H3 x3 Te nd kd3 => ?_⟩
    obtain ⟨e3, z3⟩ := lam_step (ce := (envOfC "_law_capacity_refused" (defScope sLCap) s.heap.objs.size f fd.code).cells) .d x3 Te nd kd3 s0
    refine ⟨l0, _, _, rfl, rfl, e3, by show 3 < sizeLine; decide, ?_⟩
    obtain ⟨xD, T3, L3, t0⟩ := z3 _ rfl
    generalize upd (upd H3 f3 (LamX.LamO (envOfC "_law_capacity_refused" (defScope sLCap) s.heap.objs.size f fd.code).cells qLam lamA (lamB .d) lamSc c3 f3)) l0 (.lst ((([V.ref f0] ++ [.ref f1]) ++ [.ref f2]) ++ [.ref f3])) = HF at xD T3 L3 t0 ⊢
    have xF : LamX.ExtN H HF := fun b o e k => ((xB.trans xC').trans xD) b o (fun z => by rw [z] at e; exact hn o e k) (xb b o e k) k
    have La' := La.exB q0 ((xB.trans xC').trans xD)
    have L1' := L1.exB r0 (xC'.trans xD)
    have L2'' := L2'.exB s0 xD
    have lams : ∀ (i : Nat) (y : V), [V.ref f0, .ref f1, .ref f2, .ref f3][i]? = some y → ∃ j f c, y = .ref f ∧ Lam1 (envOfC "_law_capacity_refused" (defScope sLCap) s.heap.objs.size f fd.code).cells HF j f c := fun i y e => by
      match i, e with
      | 0, e => exact ⟨.a, f0, c0, (Option.some.inj e).symm, La'⟩
      | 1, e => exact ⟨.b, f1, c1, (Option.some.inj e).symm, L1'⟩
      | 2, e => exact ⟨.c, f2, c2, (Option.some.inj e).symm, L2''⟩
      | 3, e => exact ⟨.d, f3, c3, (Option.some.inj e).symm, L3⟩
      | n + 4, e => cases e
    have t0 : HF l0 = some (.lst [V.ref f0, .ref f1, .ref f2, .ref f3]) := t0
    have t1 : HF l1 = some (.lst []) := ((xB.trans xC').trans xD) _ _ (Ne.symm nl) q1 (fun _ z => by cases z)
    have RF := R.extN xF
    clear La L1 L2' L3 e1 e2 e3 z1 z2 z3
    refine ⟨_, rfl, l0, rfl, ⟨_, SqL.of t0⟩, for_list (K := K) (a := l0) (xs := [V.ref f0, .ref f1, .ref f2, .ref f3]) (fun i σ H' => ∃ (y4 y5 : Option V), σ = [some (.ref r), some x, some (.ref l0), some (.ref l1), y4, y5] ∧ KeepB l1 HF H' ∧ H' l1 = some (.lst (List.replicate i (.bl true)))) ?_ ?_ ?_ ?_⟩
    · exact ⟨_, _, rfl, fun b o n e => e, t1⟩
    · rintro i σ H' _ ⟨y4, y5, rfl, kB, _⟩
      exact SqL.of (kB _ _ nl t0)
    · rintro i y σ H' hi ⟨y4, y5, rfl, kB, hl⟩
      obtain ⟨j, fj, cj, rfl, LJ⟩ := lams i y hi
      have LJo := kB _ _ (fun z => by have e := LJ.o; rw [z, t1] at e; cases e) LJ.o
      have LJk := kB _ _ (fun z => by have e := LJ.k; rw [z, t1] at e; cases e) LJ.k
      have xH : LamX.ExtN H H' := fun b o e k => kB b o (fun z => hn1 o (by rw [← z]; exact e) k) (xF b o e k)
      have RH := R.extN xH
      have nlr : r ≠ l1 := fun z => by
        obtain ⟨dx, os, p1, p2, cs, ls, h1, _⟩ := id RF
        rw [z, t1] at h1
        cases h1
      obtain ⟨kdH, dpH⟩ := kd H' xH
      obtain ⟨dx, os, p1, p2, cs, ls, h1, _⟩ := id RH
      have core : ∀ (E' : XK) (Q' : VK), Err1 K "BadCapacity" "k" x H' E' → lamT K C j E' [some (.ref r), some x, some (.ref l0), some (.ref l1), some (.ref fj), y5] H' Q' := fun E' Q' err => by
        have b400 : ∀ k : Int, x = .int k → k.natAbs < 2 ^ 400 := fun k e => Nat.lt_trans (nk k e).2 (by decide)
        have b200 : ∀ k : Int, x = .int k → k.natAbs < 2 ^ 200 := fun k e => Nat.lt_trans (nk k e).2 (by decide)
        cases j with
        | a => exact ⟨_, rfl, r, dx, _, rfl, h1, rfl, _, rfl, r, x, t, sty, cap, low, root, _, _, rfl, RH, kdH, b400, fun k e hk => absurd hk (nk k e).1, fun _ => err⟩
        | b => exact ⟨_, rfl, r, dx, _, rfl, h1, rfl, _, rfl, r, x, t, sty, cap, low, root, _, _, rfl, RH, kdH, b400, fun k e hk => absurd hk (nk k e).1, fun _ => err⟩
        | c => exact ⟨_, rfl, r, dx, _, rfl, h1, rfl, _, rfl, r, x, t, sty, cap, low, root, _, _, rfl, RH, kdH, b400, fun k e hk => absurd hk (nk k e).1, fun _ => err⟩
        | d => exact ⟨_, rfl, r, dx, _, rfl, h1, rfl, _, rfl, r, x, t, sty, cap, low, root, _, _, rfl, RH, kdH, b200, fun k e hk => absurd hk (nk k e).1, fun _ => err⟩
      refine ⟨j, fj, cj, rfl, LJo, LJk, core _ _ fun dd Ha2 s1 n1 => ?_⟩
      refine ⟨true, kk, fun _ e he => ?_, fun z => (nomatch z)⟩
      have sX := (s1.step (o := .xd [("k", x)]) n1).step (o := excE e (.ref (He.ga K "BadCapacity")) (some dd)) he
      obtain ⟨_, IC⟩ := ER.iBadCapacity
      have hl2 := sX _ _ hl
      refine ⟨_, rfl, .inl ⟨rfl, _, SqL.of hl2⟩, _, rfl, e, _, dd, _, _, rfl, upd_same, same_new he _ _ upd_same, xC, IC.no "k" (by simp), rfl, _, rfl, ?_⟩
      have dp2 := (kd _ (xH.trans (LamX.ExtN.of sX))).2
      refine ⟨d, d, dp2, dp2, sd, sd, ?_⟩
      rw [eqv_self _ (SeqAt.canLay_of_shaped sd)]
      refine ⟨l1, _, _, rfl, rfl, hl2, ?_, ?_⟩
      · rw [List.length_replicate]
        exact Nat.lt_of_lt_of_le (show i < 1000 by
          have := (List.getElem?_eq_some_iff.mp hi).1; exact Nat.lt_trans this (by show 4 < 1000; decide)) (by decide)
      · refine ⟨_, _, rfl, fun b o n h => ?_, ?_⟩
        · rw [upd_ne n]
          exact sX _ _ (kB b o n h)
        · rw [upd_same, List.replicate_succ']
    · rintro σ H' ⟨y4, y5, rfl, kB, hl⟩
      refine ⟨_, rfl, by show 4 ≤ sizeLine; decide, fun m hm => ?_⟩
      have hl : H' l1 = some (.lst [.bl true, .bl true, .bl true, .bl true]) := hl
      have four : ∀ {Hx : Hp} {z : Addr}, Hx z = some (.lst [.bl true, .bl true, .bl true, .bl true]) → Dp K Hx (.ref z) (.list [.bool true, .bool true, .bool true, .bool true]) := fun e => .lst (SqL.of e) (.cons (.bl _) (.cons (.bl _) (.cons (.bl _) (.cons (.bl _) .nil))))
      refine ⟨_, _, four (same_new hm _ _ hl), four upd_same, rfl, rfl, ?_⟩
      rw [eqv_self _ rfl]
      exact q _
end
end Pk
namespace Pk
open L2 PyProof.Rows PySem.Spec PySem
/-! ### what the law's own def rests on -/
theorem join_bound : ∀ ws : List Str, (∀ w ∈ ws, w.length ≤ 30 ∧ ∀ c ∈ TL.tl w, c < 1114112) → (Str.join " " ws).length ≤ 31 * ws.length ∧ ∀ c ∈ TL.tl (Str.join " " ws), c < 1114112
  | [], _ => by decide +kernel
  | [x], h => by
    obtain ⟨a, b⟩ := h x (by simp)
    refine ⟨?_, b⟩
    show x.length ≤ 31 * 1
    omega
  | x :: y :: r, h => by
    obtain ⟨a, b⟩ := h x (by simp)
    obtain ⟨a2, b2⟩ := join_bound (y :: r) fun w hw => h w (List.mem_cons_of_mem _ hw)
    have s1 : (" " : Str).length = 1 := by decide +kernel
    have s2 : ∀ c ∈ TL.tl " ", c < 1114112 := by decide +kernel
    refine ⟨?_, fun c hc => ?_⟩
    · show (x ++ " " ++ Str.join " " (y :: r)).length ≤ 31 * ((y :: r).length + 1)
      rw [str_len, str_len, s1]
      omega
    · have hc' : c ∈ TL.tl (x ++ " " ++ Str.join " " (y :: r)) := hc
      rw [TL.tl_append, TL.tl_append] at hc'
      rcases List.mem_append.mp hc' with z | z
      · rcases List.mem_append.mp z with z | z
        · exact b c z
        · exact s2 c z
      · exact b2 c z
theorem numS_b (n : Nat) (h : n < 13) : (numS n).length ≤ 30 ∧ ∀ c ∈ TL.tl (numS n), c < 1114112 := ⟨num_len (Nat.lt_trans h (by decide)), fun c hc => num_lay n c (by rw [← tl_numS]; exact hc)⟩
theorem itW_b {i : It} (h : itOk i = true) : (itW i).length ≤ 3 ∧ ∀ w ∈ itW i, w.length ≤ 30 ∧ ∀ c ∈ TL.tl w, c < 1114112 := by
  have k : ("k" : Str).length ≤ 30 ∧ ∀ c ∈ TL.tl ("k" : Str), c < 1114112 := by decide +kernel
  have s : ("*" : Str).length ≤ 30 ∧ ∀ c ∈ TL.tl ("*" : Str), c < 1114112 := by decide +kernel
  cases i with
  | num n =>
    have h' : n < 12 := of_decide_eq_true h
    refine ⟨by show 1 ≤ 3; decide, fun w hw => ?_⟩
    rw [List.mem_singleton.mp (show w ∈ [numS n] from hw)]
    exact numS_b n (by omega)
  | fac f =>
    obtain ⟨h1, h2⟩ := Bool.and_eq_true_iff.mp (show (decide (1 ≤ f) && decide (f ≤ 12)) = true from h)
    have h2 := of_decide_eq_true h2
    by_cases hf : f ≤ 1
    · have e : itW (.fac f) = [("k" : Str)] := if_pos hf
      rw [e]
      refine ⟨by show 1 ≤ 3; decide, fun w hw => ?_⟩
      rw [List.mem_singleton.mp hw]
      exact k
    · have e : itW (.fac f) = [numS f, ("*" : Str), ("k" : Str)] := if_neg hf
      rw [e]
      refine ⟨by show 3 ≤ 3; decide, fun w hw => ?_⟩
      simp only [List.mem_cons, List.not_mem_nil, or_false] at hw
      rcases hw with e | e | e <;> rw [e]
      · exact numS_b f (by omega)
      · exact s
      · exact k
theorem restW_b : ∀ {r : List (Bool × It)}, (∀ p ∈ r, itOk p.2 = true) → (restW r).length ≤ 4 * r.length ∧ ∀ w ∈ restW r, w.length ≤ 30 ∧ ∀ c ∈ TL.tl w, c < 1114112
  | [], _ => ⟨Nat.le_refl _, fun w hw => by cases hw⟩
  | p :: r, h => by
    obtain ⟨a, b⟩ := itW_b (h p (by simp))
    obtain ⟨a2, b2⟩ := restW_b (r := r) fun q hq => h q (List.mem_cons_of_mem _ hq)
    refine ⟨?_, fun w hw => ?_⟩
    · show (sgW p.1 :: (itW p.2 ++ restW r)).length ≤ 4 * (r.length + 1)
      rw [List.length_cons, List.length_append]
      omega
    · rcases List.mem_cons.mp hw with e | e
      · rw [e]
        cases p.1 <;> decide +kernel
      · rcases List.mem_append.mp e with e | e
        · exact b w e
        · exact b2 w e
theorem text_good {i : It} {r : List (Bool × It)} {d : Nat} (h : itOk i = true) (hr : ∀ p ∈ r, itOk p.2 = true) (lr : r.length ≤ 3) (ok : sumOk (termsOf false i r) = true) (hd : d ≤ 6) : goodT (textOf i r d) := by
  have b := join_bound (wordsOf i r d) fun w hw => by
    rcases List.mem_append.mp hw with e | e
    · rcases List.mem_append.mp e with e | e
      · exact (itW_b h).2 w e
      · exact (restW_b hr).2 w e
    · unfold dW at e
      split at e
      · cases e
      · simp only [List.mem_cons, List.not_mem_nil, or_false] at e
        rcases e with e | e <;> rw [e]
        · decide +kernel
        · exact numS_b d (by omega)
  have l : (wordsOf i r d).length ≤ 17 := by
    have l1 := (itW_b h).1
    have l2 := (restW_b hr).1
    have l3 : (dW d).length ≤ 2 := by
      unfold dW
      split
      · exact Nat.zero_le _
      · exact Nat.le_refl _
    show (itW i ++ restW r ++ dW d).length ≤ 17
    rw [List.length_append, List.length_append]
    omega
  exact ⟨by show (Str.join " " (wordsOf i r d)).length ≤ 900000; omega, lay_of b.2, _, share_text h hr ok hd⟩
theorem const_b : ∀ (r : List (Bool × It)) (s : Bool) (i : It), itOk i = true → (∀ p ∈ r, itOk p.2 = true) → (constT (termsOf s i r)).natAbs ≤ 11 * (r.length + 1) := by
  have one : ∀ (s : Bool) (i : It) (ts : List Term), itOk i = true → (constT ((sgZ s * ((itT i).1 : Nat), (itT i).2) :: ts)).natAbs ≤ 11 + (constT ts).natAbs := fun s i ts h => by
    cases i with
    | num n =>
      have h' : n < 12 := of_decide_eq_true h
      have e : constT ((sgZ s * ((itT (.num n)).1 : Nat), (itT (.num n)).2) :: ts) = sgZ s * (n : Int) + constT ts := by
        unfold constT
        show ((((sgZ s * (n : Int), none) : Term) :: ts).filterMap fun t => if t.2 = none then some t.1 else none).sum = _
        simp
      rw [e]
      cases s
      · show ((1 : Int) * n + constT ts).natAbs ≤ _
        omega
      · show ((-1 : Int) * n + constT ts).natAbs ≤ _
        omega
    | fac f =>
      have e : constT ((sgZ s * ((itT (.fac f)).1 : Nat), (itT (.fac f)).2) :: ts) = constT ts := rfl
      rw [e]
      omega
  intro r
  induction r with
  | nil => intro s i h _; exact one s i [] h
  | cons p r ih =>
    intro s i h hr
    have a := one s i (termsOf p.1 p.2 r) h
    have b := ih p.1 p.2 (hr p (by simp)) fun q hq => hr q (List.mem_cons_of_mem _ hq)
    show (constT (_ :: termsOf p.1 p.2 r)).natAbs ≤ 11 * (r.length + 1 + 1)
    omega
/-- what is known of a drawn share -/
structure Drawn1 (tx : Str) (x : Share) : Prop where
  sh : shareM tx = some x
  good : goodT tx
  d : (lineM x).d = 1 ∨ (lineM x).d = 2 ∨ (lineM x).d = 3 ∨ (lineM x).d = 6
  c : -44 ≤ (lineM x).c ∧ (lineM x).c ≤ 44
theorem dO_d {d : Nat} (h : d ∈ dvs) : (dO d).getD 1 = d ∧ (d = 1 ∨ d = 2 ∨ d = 3 ∨ d = 6) ∧ d ≤ 6 := by
  unfold dvs at h
  simp only [List.mem_cons, List.not_mem_nil, or_false] at h
  rcases h with e | e | e | e | e <;> rw [e] <;> decide
theorem drawn_of {i : It} {r : List (Bool × It)} {d : Nat} (h : itOk i = true) (hr : ∀ p ∈ r, itOk p.2 = true) (lr : r.length ≤ 3) (ok : sumOk (termsOf false i r) = true) (hd : d ∈ dvs) : Drawn1 (textOf i r d) (termsOf false i r, dO d) := by
  obtain ⟨e1, e2, e3⟩ := dO_d hd
  refine ⟨share_text h hr ok e3, text_good h hr lr ok e3, ?_, ?_⟩
  · show (dO d).getD 1 = 1 ∨ _
    rw [show (lineM (termsOf false i r, dO d)).d = (dO d).getD 1 from rfl, e1]
    exact e2
  · have b := const_b r false i h hr
    show -44 ≤ constT (termsOf false i r) ∧ constT (termsOf false i r) ≤ 44
    omega
theorem drawn_line {i : It} {r : List (Bool × It)} {d : Nat} {H : Hp} {t : Addr} (hd : d ∈ dvs) (h : H t = some (.tup [.int (slopeT (termsOf false i r)), .int (constT (termsOf false i r)), .int (d : Nat)])) : LineAt H t (lineM (termsOf false i r, dO d)) := by
  unfold LineAt
  rw [h, show (lineM (termsOf false i r, dO d)).d = (dO d).getD 1 from rfl, (dO_d hd).1]
  rfl
/-- the capacities in use from first on, below 700 -/
def usedI (x1 x2 : Share) (first : Int) (i : Nat) : List Int := ((List.range i).map fun (j : Nat) => first + (j : Int)).filter fun k => usedL x1 x2 k
theorem usedI_step {x1 x2 : Share} {first : Int} {i : Nat} : usedI x1 x2 first (i + 1) = if usedL x1 x2 (first + (i : Int)) = true then usedI x1 x2 first i ++ [first + (i : Int)] else usedI x1 x2 first i := by
  unfold usedI
  rw [List.range_succ, List.map_append, List.filter_append]
  show _ ++ List.filter _ [first + (i : Int)] = _
  by_cases h : usedL x1 x2 (first + (i : Int)) = true
  · rw [if_pos h, List.filter_cons_of_pos h]
    rfl
  · rw [if_neg h, List.filter_cons_of_neg h, List.filter_nil, List.append_nil]
theorem usedI_len (x1 x2 : Share) (first : Int) (i : Nat) : (usedI x1 x2 first i).length ≤ i := by
  unfold usedI
  refine Nat.le_trans (List.length_filter_le _ _) ?_
  rw [List.length_map, List.length_range]; exact Nat.le_refl _
theorem usedI_mem {x1 x2 : Share} {first : Int} {i : Nat} {k : Int} : k ∈ usedI x1 x2 first i ↔ (∃ j : Nat, j < i ∧ k = first + (j : Int)) ∧ usedL x1 x2 k = true := by
  unfold usedI
  rw [List.mem_filter, List.mem_map]
  constructor
  · rintro ⟨⟨j, hj, rfl⟩, h⟩
    exact ⟨⟨j, List.mem_range.mp hj, rfl⟩, h⟩
  · rintro ⟨⟨j, hj, rfl⟩, h⟩
    exact ⟨⟨j, List.mem_range.mpr hj, rfl⟩, h⟩
theorem usedI_head {x1 x2 : Share} {first : Int} : ∀ {i : Nat} {k : Int} {r : List Int}, usedI x1 x2 first i = k :: r → ∀ y ∈ usedI x1 x2 first i, k ≤ y
  | 0, k, r, e => by cases e
  | i + 1, k, r, e => by
    intro y hy
    rw [usedI_step] at e hy
    by_cases h : usedL x1 x2 (first + (i : Int)) = true
    · rw [if_pos h] at e hy
      cases q : usedI x1 x2 first i with
      | nil =>
        rw [q] at e hy
        cases e
        rw [List.mem_singleton.mp hy]
        exact Int.le_refl _
      | cons z zs =>
        rw [q] at e
        cases e; rcases List.mem_append.mp hy with hy | hy
        · exact usedI_head q y hy
        · rw [List.mem_singleton.mp hy]
          have zm : k ∈ usedI x1 x2 first i := by
            rw [q]
            simp
          obtain ⟨⟨j, hj, rfl⟩, _⟩ := usedI_mem.mp zm
          omega
    · rw [if_neg h] at e hy
      exact usedI_head e y hy
/-- the law's own look -/
theorem next_used {s1 s2 : Str} {x1 x2 : Share} (h1 : Drawn1 s1 x1) (h2 : Drawn1 s2 x2) {first : Int} (f1 : 1 ≤ first) (f2 : first ≤ 40) : nextM x1 x2 first = (usedI x1 x2 first (700 - first).toNat).head? := by
  have v1 : shareV (.str s1) = some x1 := h1.sh
  have v2 : shareV (.str s2) = some x2 := h2.sh
  have far : ∀ y : Int, 700 ≤ y → usedL x1 x2 y = true → ∃ z : Int, 690 ≤ z ∧ z < 700 ∧ usedL x1 x2 z = true := fun y hy u => by
    unfold usedL at u
    rw [Bool.and_eq_true, decide_eq_true_iff, decide_eq_true_iff] at u
    obtain ⟨z, z1, z2, z3, z4⟩ := below h1.d h2.d h1.c h2.c hy u.1 u.2
    refine ⟨z, z1, z2, ?_⟩
    unfold usedL
    rw [Bool.and_eq_true, decide_eq_true_iff, decide_eq_true_iff]
    exact ⟨z3, z4⟩
  have memI : ∀ y : Int, first ≤ y → y < 700 → usedL x1 x2 y = true → y ∈ usedI x1 x2 first (700 - first).toNat := fun y a b u => usedI_mem.mpr ⟨⟨(y - first).toNat, by omega, by omega⟩, u⟩
  cases e : usedI x1 x2 first (700 - first).toNat with
  | nil =>
    refine next_no v1 v2 fun y hy u => ?_
    have z : ∀ y : Int, first ≤ y → y < 700 → usedL x1 x2 y = true → False := fun y a b u => by
      have m := memI y a b u
      rw [e] at m
      cases m
    by_cases g : y < 700
    · exact z y hy g u
    · obtain ⟨w, w1, w2, w3⟩ := far y (by omega) u
      exact z w (by omega) w2 w3
  | cons k r =>
    have km : k ∈ usedI x1 x2 first (700 - first).toNat := by
      rw [e]
      simp
    have hd := usedI_head e
    obtain ⟨⟨j, hj, rfl⟩, hu⟩ := usedI_mem.mp km
    refine next_is v1 v2 (by omega) hu fun y hy u => ?_
    by_cases g : y < 700
    · exact hd y (memI y hy g u)
    · omega
/-! ### the law's own list of what is no share -/
abbrev badA : List V := [.str "", .str "k +", .str "2k", .str "02 * k", .str "k * 2", .str "k // 7", .str "k // 1", .str "a", .str "cap", .str "k + k", .str "1 * k", .str "13 * k"]
abbrev badB : List V := [.str "- k", .str "k / 2", .str "k  + 1", .str " k", .str "k // 2 // 3", .str "1 + 2 + 3 + 4 + 5", .str "2 * 3", .str "own"]
abbrev badC (l : Addr) : List V := [.str (repS "1" 31), .str "+3", .str "k//2", .int 5, .non, .ref l, .str "01", .str "k + 007", .str "k // 02", .str "0 * k", .str "low"]
abbrev badE : List V := [.str "k - - 1", .str "k // 6 "]
abbrev badL (l : Addr) : List V := ((badA ++ badB) ++ badC l) ++ badE
def isNo : V → Bool
  | .str s => decide (shareM s = none) && decide (s.length ≤ 900000) && (PyData.str s).canLay0
  | .int _ => true
  | .non => true
  | _ => false
theorem bad_no : ∀ v ∈ badA ++ badB ++ [V.str (repS "1" 31), .str "+3", .str "k//2", .int 5, .non, .str "01", .str "k + 007", .str "k // 02", .str "0 * k", .str "low"] ++ badE, isNo v = true := by decide +kernel
end Pk
namespace Pk
open L2 PyProof.Rows PySem.Spec PySem
abbrev sLaw : Stmt := top 37
/-- all but dicts stay -/
def ExD (H H' : Hp) : Prop := ∀ b o, H b = some o → (∀ kvs, o ≠ .dK kvs) → H' b = some o
theorem ExD.trans {H H1 H2 : Hp} (a : ExD H H1) (b : ExD H1 H2) : ExD H H2 := fun c o h k => b c o (a c o h k) k
theorem ExD.refl (H : Hp) : ExD H H := fun _ _ h _ => h
theorem _root_.L2.Same.exD {H H' : Hp} (s : Same H H') : ExD H H' := fun b o h _ => s b o h
theorem exD_keep {b : Addr} {H H' : Hp} {kvs : List (Key × V)} (k : KeepB b H H') (h : H b = some (.dK kvs)) : ExD H H' := fun c o e n => k c o (fun z => by rw [z, h] at e; exact n _ (Option.some.inj e).symm) e
theorem ShareAt.exD {H H' : Hp} {p : Addr} {x : Share} (h : ShareAt H p x) (s : ExD H H') : ShareAt H' p x := by
  obtain ⟨q, refs, h1, h2, h3⟩ := h
  exact ⟨q, refs, s _ _ h1 (fun _ z => by cases z), s _ _ h2 (fun _ z => by cases z), Paired.mapP h3 fun a t e => s _ _ e (fun _ z => by cases z)⟩
theorem RulesAt.exD {C : Addr} {H H' : Hp} {r : Addr} {sty : Str} {cap low root : V} {x1 x2 : Share} (h : RulesAt C H r sty cap low root x1 x2) (s : ExD H H') : RulesAt C H' r sty cap low root x1 x2 := by
  obtain ⟨dx, os, p1, p2, cs, ls, h1, h2, h3, h4, h5, h6, h7, h8⟩ := h
  have n : ∀ {b : Addr} {o : HO}, H b = some o → (∀ ps, o ≠ .dK ps) → H' b = some o := fun e k => s _ _ e k
  exact ⟨dx, os, p1, p2, cs, ls, n h1 (fun _ z => by cases z), h2, h3, n h4 (fun _ z => by cases z), ShareAt.exD h5 s, ShareAt.exD h6 s, n h7 (fun _ z => by cases z), n h8 (fun _ z => by cases z)⟩
theorem LineAt.exD {H H' : Hp} {p : Addr} {l : Line} (h : LineAt H p l) (s : ExD H H') : LineAt H' p l := s _ _ h (fun _ z => by cases z)
theorem dp_ints {K : PySem.W.Frag} {H : Hp} : ∀ us : List Int, DpAll K H (us.map V.int) (us.map PyData.int)
  | [] => .nil
  | u :: us => .cons (.int u) (dp_ints us)
theorem ints_lay : ∀ us : List Int, PyData.canLayAll0 (us.map PyData.int) = true ∧ PyData.depthAll (us.map PyData.int) ≤ 1
  | [] => ⟨rfl, by decide⟩
  | u :: us => by
    obtain ⟨a, b⟩ := ints_lay us
    refine ⟨?_, ?_⟩
    · show (PyData.canLay0 (.int u) && PyData.canLayAll0 (us.map PyData.int)) = true
      rw [a]
      rfl
    · simp only [List.map_cons, PyData.depthAll, PyData.depth]
      omega
theorem ints_shaped (us : List Int) : SeqAt.shaped (.list (us.map PyData.int)) = true := by
  obtain ⟨a, b⟩ := ints_lay us
  have h : (PyData.list (us.map PyData.int)).canLay0 = true := a
  have d : (PyData.list (us.map PyData.int)).depth ≤ 64 := by
    simp only [PyData.depth]
    omega
  show (_ && decide _) = true
  rw [h, decide_eq_true d]
  rfl
theorem if_head {K : PySem.W.Frag} {us : List Int} {σ : L2.St} {H : Hp} {D : Addr} {Q : VK} (hs : σ[11]? = some (some (.ref D))) (h : SqL K H D (us.map V.int)) (q : Q (intV us.head?) H) : if decide (us ≠ []) = true then tOp (rIxL K) (tVar 11) (tC (.int 0)) σ H Q else tC .non σ H Q := by
  cases us with
  | nil => exact q
  | cons u r => exact ⟨_, hs, D, _, 0, .int u, rfl, rfl, h, atI_nat (xs := (u :: r).map V.int) (j := 0) rfl, q⟩
theorem eqv_nil (us : List Int) : V.bl (!(PyData.list (us.map PyData.int)).eqv (.list [])) = V.bl (decide (us ≠ [])) := by
  cases us with
  | nil => simp [PyData.eqv, PyData.eqvAll]
  | cons u r => simp [PyData.eqv, PyData.eqvAll]
theorem dp_opt {K : PySem.W.Frag} {H : Hp} (o : Option Int) : ∃ d, Dp K H (intV o) d ∧ SeqAt.shaped d = true := by
  cases o with
  | none => exact ⟨_, .non, rfl⟩
  | some n => exact ⟨_, .int n, rfl⟩
/-- a value of the law's lists -/
structure Odd (K : PySem.W.Frag) (H : Hp) (v : V) : Prop where
  ex : ∃ t d, (∀ H', ExD H H' → Kd K H' v t ∧ Dp K H' v d) ∧ SeqAt.shaped d = true ∧ d.depth ≤ 10
  ok : okLen v = true
theorem Odd.exD {K : PySem.W.Frag} {H H' : Hp} {v : V} (h : Odd K H v) (s : ExD H H') : Odd K H' v :=
  ⟨let ⟨t, d, a, b⟩ := h.ex; ⟨t, d, fun H2 s2 => a H2 (s.trans s2), b⟩, h.ok⟩
theorem odd_str {K : PySem.W.Frag} {H : Hp} {s : Str} (h : (PyData.str s).canLay0 = true) (l : s.length ≤ 900000) : Odd K H (.str s) := by
  refine ⟨⟨_, _, fun H' _ => ⟨Kd.str, .str s⟩, ?_, by simp [PyData.depth]⟩, decide_eq_true l⟩
  show (_ && _) = true
  rw [h]
  rfl
theorem odd_int {K : PySem.W.Frag} {H : Hp} {i : Int} : Odd K H (.int i) := ⟨⟨_, _, fun H' _ => ⟨Kd.int, .int i⟩, rfl, by simp [PyData.depth]⟩, rfl⟩
theorem odd_non {K : PySem.W.Frag} {H : Hp} : Odd K H .non := ⟨⟨_, _, fun H' _ => ⟨Kd.non, .non⟩, rfl, by simp [PyData.depth]⟩, rfl⟩
theorem odd_lst {K : PySem.W.Frag} {H : Hp} {l : Addr} {s : Str} (h : (PyData.str s).canLay0 = true) (e : H l = some (.lst [.str s])) : Odd K H (.ref l) := by
  refine ⟨⟨_, .list [.str s], fun H' x => ⟨Kd.lst (x _ _ e (fun _ z => by cases z)), .lst (SqL.of (x _ _ e (fun _ z => by cases z))) (.cons (.str s) .nil)⟩, ?_, by simp [PyData.depth, PyData.depthAll]⟩, rfl⟩
  have z : (PyData.list [.str s]).canLay0 = true := by
    show ((PyData.str s).canLay0 && true) = true
    rw [h]
    rfl
  show (_ && _) = true
  rw [z]
  rfl
theorem no_odd {K : PySem.W.Frag} {H : Hp} {v : V} (h : isNo v = true) : Odd K H v ∧ shareV v = none := by
  cases v with
  | str s =>
    have h' : (decide (shareM s = none) && decide (s.length ≤ 900000) && (PyData.str s).canLay0) = true := h
    rw [Bool.and_eq_true, Bool.and_eq_true, decide_eq_true_iff, decide_eq_true_iff] at h'
    exact ⟨odd_str h'.2 h'.1.2, h'.1.1⟩
  | int i => exact ⟨odd_int, rfl⟩
  | non => exact ⟨odd_non, rfl⟩
  | _ => cases h
theorem bad_at {K : PySem.W.Frag} {H : Hp} {l : Addr} (e : H l = some (.lst [.str "k"])) {a : Int} (h0 : 0 ≤ a) (h1 : a < 33) : ∃ v, atI (badL l) a = some v ∧ Odd K H v ∧ shareV v = none := by
  obtain ⟨n, rfl⟩ : ∃ n : Nat, a = (n : Int) := ⟨a.toNat, by omega⟩
  have hn : n < (badL l).length := by
    show n < 33
    omega
  refine ⟨(badL l)[n], atI_nat (List.getElem?_eq_getElem hn), ?_⟩
  have m : (badL l)[n] ∈ badL l := List.getElem_mem hn
  generalize (badL l)[n] = v at m
  by_cases g : v = .ref l
  · rw [g]
    exact ⟨odd_lst (by decide +kernel) e, rfl⟩
  · refine no_odd (bad_no v ?_)
    have c : v ∈ badC l → v ∈ [V.str (repS "1" 31), .str "+3", .str "k//2", .int 5, .non, .str "01", .str "k + 007", .str "k // 02", .str "0 * k", .str "low"] := fun z => by
      have z' : v ∈ [V.str (repS "1" 31), .str "+3", .str "k//2", .int 5, .non] ++ V.ref l :: [.str "01", .str "k + 007", .str "k // 02", .str "0 * k", .str "low"] := z
      rcases List.mem_append.mp z' with y | y
      · exact List.mem_append_left [V.str "01", .str "k + 007", .str "k // 02", .str "0 * k", .str "low"] y
      · rcases List.mem_cons.mp y with y | y
        · exact absurd y g
        · exact List.mem_append_right [V.str (repS "1" 31), .str "+3", .str "k//2", .int 5, .non] y
    rcases List.mem_append.mp m with z | z
    · refine List.mem_append_left _ ?_
      rcases List.mem_append.mp z with z | z
      · exact (List.mem_append_left _ z)
      · exact List.mem_append_right _ (c z)
    · exact List.mem_append_right _ z
abbrev strL (l : Addr) : List V := [.str "Taken", .str "", .non, .int 0, .ref l, .str "sorted"]
theorem str_at {K : PySem.W.Frag} {H : Hp} {l : Addr} (e : H l = some (.lst [.str "taken"])) {a : Int} (h0 : 0 ≤ a) (h1 : a < 6) : ∃ v, atI (strL l) a = some v ∧ Odd K H v ∧ styV v = none := by
  have h : a = 0 ∨ a = 1 ∨ a = 2 ∨ a = 3 ∨ a = 4 ∨ a = 5 := by omega
  rcases h with rfl | rfl | rfl | rfl | rfl | rfl
  · exact ⟨_, rfl, odd_str (by decide +kernel) (by decide +kernel), by decide +kernel⟩
  · exact ⟨_, rfl, odd_str (by decide +kernel) (by decide +kernel), by decide +kernel⟩
  · exact ⟨_, rfl, odd_non, rfl⟩
  · exact ⟨_, rfl, odd_int, rfl⟩
  · exact ⟨_, rfl, odd_lst (by decide +kernel) e, rfl⟩
  · exact ⟨_, rfl, odd_str (by decide +kernel) (by decide +kernel), by decide +kernel⟩
abbrev capL (t l : Addr) : List V := [.int 0, .int (-1), .non, .str "1", .bl true, .ref t, .ref l]
theorem cap_at' {K : PySem.W.Frag} {H : Hp} {tp l : Addr} (e1 : H tp = some (.tup [.int 1])) (e2 : H l = some (.lst [.int 1])) {a : Int} (h0 : 0 ≤ a) (h1 : a < 7) :
    ∃ v t d, atI (capL tp l) a = some v ∧ (∀ k : Int, v = .int k → ¬ 1 ≤ k ∧ k.natAbs < 2 ^ 10) ∧ SeqAt.shaped d = true ∧ ∀ H', LamX.ExtN H H' → Kd K H' v t ∧ Dp K H' v d := by
  have h : a = 0 ∨ a = 1 ∨ a = 2 ∨ a = 3 ∨ a = 4 ∨ a = 5 ∨ a = 6 := by omega
  rcases h with rfl | rfl | rfl | rfl | rfl | rfl | rfl
  · exact ⟨_, _, _, rfl, fun k e => (by cases e; decide), rfl, fun H' _ => ⟨Kd.int, .int _⟩⟩
  · exact ⟨_, _, _, rfl, fun k e => (by cases e; decide), rfl, fun H' _ => ⟨Kd.int, .int _⟩⟩
  · exact ⟨_, _, _, rfl, fun k e => (by cases e), rfl, fun H' _ => ⟨Kd.non, .non⟩⟩
  · exact ⟨_, _, .str "1", rfl, fun k e => (by cases e), by decide +kernel, fun H' _ => ⟨Kd.str, .str _⟩⟩
  · exact ⟨_, _, _, rfl, fun k e => (by cases e), rfl, fun H' _ => ⟨Kd.bl, .bl _⟩⟩
  · exact ⟨_, _, .tuple [.int 1], rfl, fun k e => (by cases e), rfl, fun H' x => ⟨Kd.tup (x _ _ e1 (fun _ z => by cases z)), .tup (SqT.of (x _ _ e1 (fun _ z => by cases z))) (.cons (.int 1) .nil)⟩⟩
  · exact ⟨_, _, .list [.int 1], rfl, fun k e => (by cases e), rfl, fun H' x => ⟨Kd.lst (x _ _ e2 (fun _ z => by cases z)), .lst (SqL.of (x _ _ e2 (fun _ z => by cases z))) (.cons (.int 1) .nil)⟩⟩
/-- a pair of a word and a value: itself again -/
theorem pair_shaped {w : Str} {d : PyData} (hw : (PyData.str w).canLay0 = true) (h : d.canLay0 = true) (hd : d.depth ≤ 60) : SeqAt.shaped (.tuple [.str w, d]) = true := by
  have z : (PyData.tuple [.str w, d]).canLay0 = true := by
    show ((PyData.str w).canLay0 && (d.canLay0 && true)) = true
    rw [hw, h]
    rfl
  have k : (PyData.tuple [.str w, d]).depth ≤ 64 := by
    simp only [PyData.depth, PyData.depthAll]; omega
  show (_ && decide _) = true
  rw [z, decide_eq_true k]
  rfl
def spLaw (K : PySem.W.Frag) (Pt : Addr) : Sp := fun vs H Q _ => ∃ (a : Addr) (ns : List Int), vs = [.ref a] ∧ SqL K H a (ns.map V.int) ∧ ns.length ≤ 63 ∧ H Pt = some (.tbl #[]) ∧ ∀ H', Q (.bl true) H'
section
variable {K : PySem.W.Frag} {P : Program} {w : World} {base : Heap} {mg : Str → Option Value} {C fI : Addr}
theorem sc_law : FnScope ["_law_script", "_law_bag_here", "_law_cap_text", "_law_cap", "_law_low_text", "_law_low", "_law_style", "_law_root", "_law_rules", "_law_k", "_law_first", "_law_used", "_law_bad", "_law_odd", "_law_other", "_law_strange"] ["_law_script"] (defScope sLaw) := ⟨rfl, rfl, rfl, by decide +kernel, rfl, by decide +kernel, by decide +kernel⟩
theorem ok_law {f fB fD fS fR fA fE fP fF fC fN Pt : Addr} {fd fdB fdD fdS fdR fdA fdE fdP fdF fdC fdI fdN : FuncData} (F : FunD K "law" "law" (defArgs sLaw) (defBody sLaw) (defScope sLaw) [] [] f fd)
    (FB : FunD K "_law_bag" "_law_bag" (defArgs sBag) (defBody sBag) (defScope sBag) [] [] fB fdB) (FD : FunD K "_law_draw" "_law_draw" (defArgs sDraw) (defBody sDraw) (defScope sDraw) [] [] fD fdD) (FS : FunD K "_law_share" "_law_share" (defArgs sLShare) (defBody sLShare) (defScope sLShare) [] [] fS fdS)
    (FR : FunD K "_law_right" "_law_right" (defArgs sLRight) (defBody sLRight) (defScope sLRight) [] [] fR fdR) (FA : FunD K "_law_at" "_law_at" (defArgs sLAt) (defBody sLAt) (defScope sLAt) [] [] fA fdA) (FE : FunD K "_law_equal_right" "_law_equal_right" (defArgs sLEq) (defBody sLEq) (defScope sLEq) [] [] fE fdE)
    (FP : FunD K "_law_planted_right" "_law_planted_right" (defArgs sLPlant) (defBody sLPlant) (defScope sLPlant) [] [] fP fdP) (FF : FunD K "_law_refused" "_law_refused" (defArgs sLRef) (defBody sLRef) (defScope sLRef) [] [] fF fdF) (FC : FunD K "_law_capacity_refused" "_law_capacity_refused" (defArgs sLCap) (defBody sLCap) (defScope sLCap) [] [] fC fdC)
    (FN : FunD K "next_in_use" "Rules.next_in_use" (defArgs sNextU) (defBody sNextU) (defScope sNextU) [] [] fN fdN)
    (GB : FnOk P w K mg base CX0 1 fB fdB ["_law_script"] (spBag K)) (GD : FnOk P w K mg base CX0 1 fD fdD ["_law_bag_here", "_law_limit"] spDraw) (GS : FnOk P w K mg base CX0 2 fS fdS ["_law_bag_here"] spLShare) (GR : FnOk P w K mg base CX0 5 fR fdR ["_law_rules", "_law_cap", "_law_low", "_law_k"] (spLRight C))
    (GA : FnOk P w K mg base CX0 1 fA fdA ["_law_share_here", "_law_k"] spLAt) (GE : FnOk P w K mg base CX0 8 fE fdE ["_law_rules", "_law_cap", "_law_low"] (spLEq C)) (GP : FnOk P w K mg base CX0 8 fP fdP ["_law_bag_here"] spLPlant) (GF : FnOk P w K mg base CX0 8 fF fdF ["_law_style", "_law_cap", "_law_low"] (spLRef K))
    (GC : FnOk P w K mg base CX0 7 fC fdC ["_law_rules", "_law_odd"] (spLCap K C Pt)) (RC : RulesC K mg C fI) (GI : FnOk P w K mg base (L2.CX P w) 6 fI fdI ["self", "style", "cap", "low", "root"] (spInit K C)) (GN : FnOk P w K mg base (L2.CX P w) 4 fN fdN ["self", "k"] (spNext K C)) (mN : Meth K C "next_in_use" fN)
    (bI : Binds K fdI ["self", "style", "cap", "low", "root"] []) (gB : mg "_law_bag" = some (.ref fB)) (gD : mg "_law_draw" = some (.ref fD)) (gS : mg "_law_share" = some (.ref fS)) (gR : mg "_law_right" = some (.ref fR)) (gA : mg "_law_at" = some (.ref fA)) (gE : mg "_law_equal_right" = some (.ref fE)) (gP : mg "_law_planted_right" = some (.ref fP))
    (gF : mg "_law_refused" = some (.ref fF)) (gC : mg "_law_capacity_refused" = some (.ref fC)) (mRange : mg "range" = none) (mLen : mg "len" = none) (mInt : mg "int" = none) : FnOk P w K mg base CX0 9 f fd ["_law_script"] (spLaw K Pt) := by
  have bB : Binds K fdB ["_law_script"] [] := FB.bindsN fun _ _ _ _ _ _ us hl => match us, hl with | [_], _ => rfl
  have bD : Binds K fdD ["_law_bag_here", "_law_limit"] [] := FD.bindsN fun _ _ _ _ _ _ us hl => match us, hl with | [_, _], _ => rfl
  have bS : Binds K fdS ["_law_bag_here"] [] := FS.bindsN fun _ _ _ _ _ _ us hl => match us, hl with | [_], _ => rfl
  have bR : Binds K fdR ["_law_rules", "_law_cap", "_law_low", "_law_k"] [] := FR.bindsN fun _ _ _ _ _ _ us hl => match us, hl with | [_, _, _, _], _ => rfl
  have bA : Binds K fdA ["_law_share_here", "_law_k"] [] := FA.bindsN fun _ _ _ _ _ _ us hl => match us, hl with | [_, _], _ => rfl
  have bE : Binds K fdE ["_law_rules", "_law_cap", "_law_low"] [] := FE.bindsN fun _ _ _ _ _ _ us hl => match us, hl with | [_, _, _], _ => rfl
  have bP : Binds K fdP ["_law_bag_here"] [] := FP.bindsN fun _ _ _ _ _ _ us hl => match us, hl with | [_], _ => rfl
  have bF : Binds K fdF ["_law_style", "_law_cap", "_law_low"] [] := FF.bindsN fun _ _ _ _ _ _ us hl => match us, hl with | [_, _, _], _ => rfl
  have bC : Binds K fdC ["_law_rules", "_law_odd"] [] := FC.bindsN fun _ _ _ _ _ _ us hl => match us, hl with | [_, _], _ => rfl
  have bN : Binds K fdN ["self", "k"] [] := FN.bindsN fun _ _ _ _ _ _ us hl => match us, hl with | [_, _], _ => rfl
  refine F.ok sc_law (fun vs H Q E h => ?_) (fun cdv A outer s H vs Q E hr h => ?_)
  · obtain ⟨a, ns, rfl, _⟩ := h
    rfl
  · obtain ⟨a, ns, rfl, hS, hl, ht, q⟩ := h
    refine ⟨_, PSs.nox (pss_cons (by exact (ps_set (i := 1) sc_law.nd rfl (Or.inl rfl) (pe_call GB (hr.mono (by decide)) rfl gB FB.kp bB .nil pass0 (pa_cons (pv 0) pa_nil)))) (pss_cons (by exact (ps_asg (pe_call GS (hr.mono (by decide)) rfl gS FS.kp bS .nil pass0 (pa_cons (pv 1) pa_nil)) (pg_tupK (n := 2) K rfl rfl (pgs_cons (pg_name (i := 2) sc_law.nd rfl (Or.inl rfl)) (pgs_cons (pg_name (i := 3) sc_law.nd rfl (Or.inr rfl)) pgs_nil))))) (pss_cons (by exact (ps_asg (pe_call GS (hr.mono (by decide)) rfl gS FS.kp bS .nil pass0 (pa_cons (pv 1) pa_nil)) (pg_tupK (n := 2) K rfl rfl (pgs_cons (pg_name (i := 4) sc_law.nd rfl (Or.inl rfl)) (pgs_cons (pg_name (i := 5) sc_law.nd rfl (Or.inr rfl)) pgs_nil))))) (pss_cons (by exact (ps_par (i := 6) (j := 7) rfl sc_law.nd rfl rfl (by decide) rfl rfl (pa_cons (pe_ix (ix_listK K rfl) (pe_lst (pa_cons pe_str (pa_cons pe_str pa_nil))) (pe_call GD (hr.mono (by decide)) rfl gD FD.kp bD .nil pass0 (pa_cons (pv 1) (pa_cons pe_int pa_nil))) (fun _ _ => rfl)) (pa_cons (pe_cmpR op_eq (pe_call GD (hr.mono (by decide)) rfl gD FD.kp bD .nil pass0 (pa_cons (pv 1) (pa_cons pe_int pa_nil))) pe_int (nomark _)) pa_nil)) rfl)) (pss_cons (by exact (ps_set (i := 8) sc_law.nd rfl (Or.inl rfl) (pe_make RC.made GI (hr.mono (by decide)) rfl RC.g bI .nil passF (pa_cons (pv 6) (pa_cons (pv 2) (pa_cons (pv 4) (pa_cons (pv 7) pa_nil))))))) (pss_cons (by exact (ps_if (pt_cmpR (op_neDK K rfl (Room.units hr)) (pe_tup (pa_cons (pe_fld (pv 8) rfl) (pa_cons (pe_fld (pv 8) rfl) (pa_cons (pe_fld (pv 8) rfl) (pa_cons (pe_fld (pv 8) rfl) pa_nil))))) (pe_tup (pa_cons (pv 6) (pa_cons (pv 2) (pa_cons (pv 4) (pa_cons (pv 7) pa_nil))))) (nomark _)) (pss_one (by exact (ps_ret pe_bl))) pss_nil)) (pss_cons (by exact (ps_for PassesOwn.never rfl (pi_list (pe_lst (pa_cons pe_int (pa_cons pe_int (pa_cons pe_int (pa_cons (pe_op op_add pe_int (pe_call GD (hr.mono (by decide)) rfl gD FD.kp bD .nil pass0 (pa_cons (pv 1) (pa_cons pe_int pa_nil)))) (pa_cons (pe_op op_add pe_int (pe_call GD (hr.mono (by decide)) rfl gD FD.kp bD .nil pass0 (pa_cons (pv 1) (pa_cons (pe_op op_pow pe_int pe_int) pa_nil)))) pa_nil))))))) (pg_name (i := 9) sc_law.nd rfl (Or.inl rfl)) (pss_one (by exact (ps_if (pt_not (pt_val (pe_call GR (hr.mono (by decide)) rfl gR FR.kp bR .nil pass0 (pa_cons (pv 8) (pa_cons (pv 3) (pa_cons (pv 5) (pa_cons (pv 9) pa_nil))))))) (pss_one (by exact (ps_ret pe_bl))) pss_nil))))) (pss_cons (by exact (ps_set (i := 10) sc_law.nd rfl (Or.inl rfl) (pe_op op_add pe_int (pe_call GD (hr.mono (by decide)) rfl gD FD.kp bD .nil pass0 (pa_cons (pv 1) (pa_cons pe_int pa_nil)))))) (pss_cons (by exact (ps_setLc (i := 11) (own := [("_law_k", 9)]) (g := gName 9) rfl sc_law.nd rfl rfl (sw_true rfl rfl rfl (by decide +kernel)) (pi_range2 rfl mRange (pa_cons (pv 10) (pa_cons pe_int pa_nil))) (blkOk_by (N := ["_law_script", "_law_bag_here", "_law_cap_text", "_law_cap", "_law_low_text", "_law_low", "_law_style", "_law_root", "_law_rules", "_law_k", "_law_first", "_law_used", "_law_bad", "_law_odd", "_law_other", "_law_strange"]) (sc := defScope sLaw) (by decide +kernel)) (fun _ _ _ _ _ => pg_name (i := 9) sc_law.nd rfl (Or.inl rfl)) (fun _ _ _ _ _ => (pts_one (PW.pt (pw_and (pt_cmpR op_le pe_int (pe_call GA (hr.mono (by decide)) rfl gA FA.kp bA .nil pass0 (pa_cons (pv 5) (pa_cons (pv 9) pa_nil))) (nomark _)) (pw_and1 (pt_cmpR op_le (pe_call GA (hr.mono (by decide)) rfl gA FA.kp bA .nil pass0 (pa_cons (pv 5) (pa_cons (pv 9) pa_nil))) (pe_call GA (hr.mono (by decide)) rfl gA FA.kp bA .nil pass0 (pa_cons (pv 3) (pa_cons (pv 9) pa_nil))) (nomark _))))))) (fun _ _ _ _ _ => (pv 9)))) (pss_cons (by exact (ps_if (pt_cmpR (op_neDK K rfl (Room.units hr)) (pe_meth (pv 8) RC.cls mN GN (hr.mono (by decide)) bN .nil passF (pa_cons (pv 10) pa_nil)) (pe_ifExp (pt_cmpR (op_neDK K rfl (Room.units hr)) (pv 11) (pe_lst pa_nil) (nomark _)) (pe_ix (ix_listK K rfl) (pv 11) pe_int (fun _ _ => rfl)) pe_non) (nomark _)) (pss_one (by exact (ps_ret pe_bl))) pss_nil)) (pss_cons (by exact (ps_if (PW.pt (pw_or (pt_not (pt_val (pe_call GE hr rfl gE FE.kp bE .nil pass0 (pa_cons (pv 8) (pa_cons (pv 2) (pa_cons (pv 4) pa_nil)))))) (pw_or1 (pt_not (pt_val (pe_call GP hr rfl gP FP.kp bP .nil pass0 (pa_cons (pv 1) pa_nil))))))) (pss_one (by exact (ps_ret pe_bl))) pss_nil)) (pss_cons (by exact (ps_set (i := 12) sc_law.nd rfl (Or.inl rfl) (pe_lst (pa_cons pe_str (pa_cons pe_str (pa_cons pe_str (pa_cons pe_str (pa_cons pe_str (pa_cons pe_str (pa_cons pe_str (pa_cons pe_str (pa_cons pe_str (pa_cons pe_str (pa_cons pe_str (pa_cons pe_str pa_nil))))))))))))))) (pss_cons (by exact (ps_set (i := 12) sc_law.nd rfl (Or.inl rfl) (pe_op op_cat (pv 12) (pe_lst (pa_cons pe_str (pa_cons pe_str (pa_cons pe_str (pa_cons pe_str (pa_cons pe_str (pa_cons pe_str (pa_cons pe_str (pa_cons pe_str pa_nil)))))))))))) (pss_cons (by exact (ps_set (i := 12) sc_law.nd rfl (Or.inl rfl) (pe_op op_cat (pv 12) (pe_lst (pa_cons (pe_op op_timesN pe_str pe_int) (pa_cons pe_str (pa_cons pe_str (pa_cons pe_int (pa_cons pe_non (pa_cons (pe_lst (pa_cons pe_str pa_nil)) (pa_cons pe_str (pa_cons pe_str (pa_cons pe_str (pa_cons pe_str (pa_cons pe_str pa_nil))))))))))))))) (pss_cons (by exact (ps_set (i := 12) sc_law.nd rfl (Or.inl rfl) (pe_op op_cat (pv 12) (pe_lst (pa_cons pe_str (pa_cons pe_str pa_nil)))))) (pss_cons (by exact (ps_par (i := 13) (j := 14) rfl sc_law.nd rfl rfl (by decide) rfl rfl (pa_cons (pe_ix (ix_listK K rfl) (pv 12) (pe_call GD (hr.mono (by decide)) rfl gD FD.kp bD .nil pass0 (pa_cons (pv 1) (pa_cons (pe_callB call_len_seq (by rfl) mLen PySem.boot_len (pa_cons (pv 12) pa_nil)) pa_nil))) (fun _ _ => rfl)) (pa_cons (pe_ix (ix_listK K rfl) (pv 12) (pe_call GD (hr.mono (by decide)) rfl gD FD.kp bD .nil pass0 (pa_cons (pv 1) (pa_cons (pe_callB call_len_seq (by rfl) mLen PySem.boot_len (pa_cons (pv 12) pa_nil)) pa_nil))) (fun _ _ => rfl)) pa_nil)) rfl)) (pss_cons (by exact (ps_set (i := 15) sc_law.nd rfl (Or.inl rfl) (pe_ix (ix_listK K rfl) (pe_lst (pa_cons pe_str (pa_cons pe_str (pa_cons pe_non (pa_cons pe_int (pa_cons (pe_lst (pa_cons pe_str pa_nil)) (pa_cons pe_str pa_nil))))))) (pe_call GD (hr.mono (by decide)) rfl gD FD.kp bD .nil pass0 (pa_cons (pv 1) (pa_cons pe_int pa_nil))) (fun _ _ => rfl)))) (pss_cons (by exact (ps_if (PW.pt (pw_or (pt_cmpR (op_neDK K rfl (Room.units hr)) (pe_call GF hr rfl gF FF.kp bF .nil pass0 (pa_cons (pv 15) (pa_cons (pv 13) (pa_cons (pv 14) pa_nil)))) (pe_tup (pa_cons pe_str (pa_cons (pv 15) pa_nil))) (nomark _)) (pw_or1 (pt_cmpR (op_neDK K rfl (Room.units hr)) (pe_call GF hr rfl gF FF.kp bF .nil pass0 (pa_cons (pv 6) (pa_cons (pv 13) (pa_cons (pv 14) pa_nil)))) (pe_tup (pa_cons pe_str (pa_cons (pv 13) pa_nil))) (nomark _))))) (pss_one (by exact (ps_ret pe_bl))) pss_nil)) (pss_cons (by exact (ps_if (pt_cmpR (op_neDK K rfl (Room.units hr)) (pe_call GF hr rfl gF FF.kp bF .nil pass0 (pa_cons (pv 6) (pa_cons pe_str (pa_cons (pv 13) pa_nil)))) (pe_tup (pa_cons pe_str (pa_cons (pv 13) pa_nil))) (nomark _)) (pss_one (by exact (ps_ret pe_bl))) pss_nil)) (pss_one (by exact (ps_ret (pe_call GC (hr.mono (by decide)) rfl gC FC.kp bC .nil pass0 (pa_cons (pv 8) (pa_cons (pe_ix (ix_listK K rfl) (pe_lst (pa_cons pe_int (pa_cons (pe_un un_neg pe_int) (pa_cons pe_non (pa_cons pe_str (pa_cons pe_bl (pa_cons (pe_tup (pa_cons pe_int pa_nil)) (pa_cons (pe_lst (pa_cons pe_int pa_nil)) pa_nil)))))))) (pe_call GD (hr.mono (by decide)) rfl gD FD.kp bD .nil pass0 (pa_cons (pv 1) (pa_cons pe_int pa_nil))) (fun _ _ => rfl)) pa_nil))))))))))))))))))))))))), ?_⟩
    refine ⟨_, rfl, a, ns, rfl, hS, hl, fun b c o hb hc hcb hB => ?_⟩
    have htb : Pt ≠ b := fun z => by
      rw [z, hb] at ht
      cases ht
    have htc : Pt ≠ c := fun z => by
      rw [z, hc] at ht
      cases ht
    have t1 : upd (upd (upd H b (.dK [])) c (.lst (ns.map V.int))) b o Pt = some (.tbl #[]) := by
      rw [upd_ne htb, upd_ne htc, upd_ne htb]
      exact ht
    have b1 : upd (upd (upd H b (.dK [])) c (.lst (ns.map V.int))) b o b = some o := upd_same
    have c1 : upd (upd (upd H b (.dK [])) c (.lst (ns.map V.int))) b o c = some (.lst (ns.map V.int)) := by
      rw [upd_ne hcb]
      exact upd_same
    generalize upd (upd (upd H b (.dK [])) c (.lst (ns.map V.int))) b o = H1 at t1 b1 c1 ⊢
    clear hb hc ht hS
    refine ⟨_, rfl, b, c, ns, 0, o, rfl, b1, hB, by decide, c1, fun i1 r1 d1 p1 u1 o2 n2 H2 w1 w2 w3 w4 w5 k2 b2 B2 m2 np1 hp1 hu1 => ?_⟩
    refine ⟨p1, _, rfl, SqT.of hp1, rfl, _, _, rfl, _, _, rfl, rfl, ?_⟩
    obtain ⟨kv2, rfl⟩ := B2.dict
    have e12 : ∀ a o, a ≠ b → H1 a = some o → H2 a = some o := k2
    have c2 := k2 _ _ hcb c1
    have t2 := k2 _ _ htb t1
    refine ⟨_, rfl, b, c, ns, n2, _, rfl, b2, B2, by omega, c2, fun i2 r2 d2 p2 u2 o3 n3 H3 v1 v2 v3 v4 v5 k3 b3 B3 m3 np2 hp2 hu2 => ?_⟩
    refine ⟨p2, _, rfl, SqT.of hp2, rfl, _, _, rfl, _, _, rfl, rfl, ?_⟩
    have D1 := drawn_of w1 w2 w3 w4 w5
    have D2 := drawn_of v1 v2 v3 v4 v5
    have L1 : LineAt H3 u1 (lineM (termsOf false i1 r1, dO d1)) := (drawn_line w5 hu1).exD (exD_keep k3 b2)
    have L2 : LineAt H3 u2 (lineM (termsOf false i2 r2, dO d2)) := drawn_line v5 hu2
    generalize (termsOf false i1 r1, dO d1) = x1 at D1 L1
    generalize (termsOf false i2 r2, dO d2) = x2 at D2 L2
    generalize textOf i1 r1 d1 = tx1 at D1 hp1 ⊢
    generalize textOf i2 r2 d2 = tx2 at D2 hp2 ⊢
    have c3 := k3 _ _ hcb c2
    have t3 := k3 _ _ htb t2
    have m3' : n3 ≤ 22 := by omega
    obtain ⟨kv3, rfl⟩ := B3.dict
    clear hu1 hu2 hp1 hp2 np1 np2 k2 k3 w1 w2 w3 w4 w5 v1 v2 v3 v4 v5 t1 t2 b1 b2 c1 c2 e12 m2 m3 B2 hB
    refine ⟨by show 2 ≤ sizeLine; decide, fun l hl => ?_⟩
    have bl : b ≠ l := fun z => by
      rw [← z, b3] at hl
      cases hl
    have S4 := same_new (o := .lst [.str "taken", .str "copied"]) hl
    refine ⟨_, rfl, b, c, ns, 2, n3, _, rfl, by decide, by decide, S4 _ _ b3, B3, by omega, S4 _ _ c3, fun a4 o4 a40 a41 B4 => ?_⟩
    obtain ⟨kv4, rfl⟩ := B4.dict
    have b4 : upd (upd H3 l (.lst [.str "taken", .str "copied"])) b (.dK kv4) b = some (.dK kv4) := upd_same
    have x4 : ExD H3 (upd (upd H3 l (.lst [.str "taken", .str "copied"])) b (.dK kv4)) := S4.exD.trans (exD_keep KeepB.upd (S4 _ _ b3))
    have c4 : upd (upd H3 l (.lst [.str "taken", .str "copied"])) b (.dK kv4) c = some (.lst (ns.map V.int)) := x4 _ _ c3 (fun _ z => by cases z)
    have t4 : upd (upd H3 l (.lst [.str "taken", .str "copied"])) b (.dK kv4) Pt = some (.tbl #[]) := x4 _ _ t3 (fun _ z => by cases z)
    have l4 : upd (upd H3 l (.lst [.str "taken", .str "copied"])) b (.dK kv4) l = some (.lst [.str "taken", .str "copied"]) := by
      rw [upd_ne (Ne.symm bl)]
      exact upd_same
    have L1 := L1.exD x4
    have L2 := L2.exD x4
    generalize upd (upd H3 l (.lst [.str "taken", .str "copied"])) b (.dK kv4) = H4 at b4 c4 t4 l4 L1 L2 ⊢
    clear x4 S4 hl b3 c3 t3
    obtain ⟨sty, hsty, hat⟩ : ∃ sty : Str, sty ∈ STYL ∧ atI [V.str "taken", .str "copied"] a4 = some (.str sty) := by
      have h : a4 = 0 ∨ a4 = 1 := by omega
      rcases h with rfl | rfl
      · exact ⟨"taken", by decide, rfl⟩
      · exact ⟨"copied", by decide, rfl⟩
    refine ⟨l, _, _, .str sty, rfl, rfl, SqL.of l4, hat, ?_⟩
    refine ⟨_, rfl, b, c, ns, 2, n3 + 1, _, rfl, by decide, by decide, b4, B4, by omega, c4, fun a5 o5 a50 a51 B5 => ?_⟩
    obtain ⟨kv5, rfl⟩ := B5.dict
    have b5 : upd H4 b (.dK kv5) b = some (.dK kv5) := upd_same
    have x5 : ExD H4 (upd H4 b (.dK kv5)) := exD_keep KeepB.upd b4
    have c5 := x5 _ _ c4 (fun _ z => by cases z)
    have t5 := x5 _ _ t4 (fun _ z => by cases z)
    have L1 := L1.exD x5
    have L2 := L2.exD x5
    generalize upd H4 b (.dK kv5) = H5 at b5 c5 t5 L1 L2 ⊢
    clear x5 b4 c4 t4 l4
    refine ⟨rfl, _, _, rfl, ?_⟩
    generalize ert : decide (V.int a5 = V.int 0) = rt
    clear ert
    have g : goodK ⟨sty, tx1, tx2, rt⟩ := ⟨hsty, D1.good, D2.good⟩
    refine ⟨_, rfl, _, rfl, _, rfl, _, rfl, ?_⟩
    intro x dx nx nd ndx
    refine mk_rules (k := ⟨sty, tx1, tx2, rt⟩) g nx nd ndx fun H6 s6 R6 => ⟨rfl, ?_⟩
    have b6 := s6 _ _ b5
    have c6 := s6 _ _ c5
    have t6 := s6 _ _ t5
    have L1 := L1.exD s6.exD
    have L2 := L2.exD s6.exD
    obtain ⟨y1, y2, RA⟩ : ∃ x1 x2, RulesAt C H6 x sty (.str tx1) (.str tx2) (.bl rt) x1 x2 := R6
    obtain ⟨dxA, osA, pA1, pA2, csA, lsA, hA1, hA2, hA3, _⟩ := id RA
    have ey1 : y1 = x1 := Option.some.inj ((show shareV (.str tx1) = some y1 from hA2).symm.trans D1.sh)
    have ey2 : y2 = x2 := Option.some.inj ((show shareV (.str tx2) = some y2 from hA3).symm.trans D2.sh)
    subst ey1 ey2
    clear s6 b5 c5 t5 nx nd ndx
    refine ⟨_, rfl, x, C, dxA, _, .str sty, rfl, hA1, RC.cls, RC.no _ (by simp), rfl, _, rfl, x, C, dxA, _, .str tx1, rfl, hA1, RC.cls, RC.no _ (by simp), rfl, _, rfl, x, C, dxA, _, .str tx2, rfl, hA1, RC.cls, RC.no _ (by simp), rfl, _, rfl, x, C, dxA, _, .bl rt, rfl, hA1, RC.cls, RC.no _ (by simp), rfl, by show 4 ≤ sizeLine; decide, fun q1 hq1 => ?_⟩
    have S7 := same_new (o := .tup [.str sty, .str tx1, .str tx2, .bl rt]) hq1
    refine ⟨_, rfl, _, rfl, _, rfl, _, rfl, by show 4 ≤ sizeLine; decide, fun q2 hq2 => ?_⟩
    have S8 := same_new (o := .tup [.str sty, .str tx1, .str tx2, .bl rt]) hq2
    have dpk : DpAll K (upd (upd H6 q1 (.tup [.str sty, .str tx1, .str tx2, .bl rt])) q2 (.tup [.str sty, .str tx1, .str tx2, .bl rt])) [.str sty, .str tx1, .str tx2, .bl rt] [.str sty, .str tx1, .str tx2, .bool rt] := .cons (.str _) (.cons (.str _) (.cons (.str _) (.cons (.bl _) .nil)))
    have shk : SeqAt.shaped (.tuple [.str sty, .str tx1, .str tx2, .bool rt]) = true := by
      have z : (PyData.tuple [.str sty, .str tx1, .str tx2, .bool rt]).canLay0 = true := g.lay
      show ((PyData.tuple [.str sty, .str tx1, .str tx2, .bool rt]).canLay0 && _) = true
      rw [z]
      rfl
    refine ⟨_, _, .tup (SqT.of (S8 _ _ upd_same)) dpk, .tup (SqT.of upd_same) dpk, shk, shk, ?_⟩
    rw [eqv_self _ (SeqAt.canLay_of_shaped shk)]
    refine ⟨_, rfl, ?_⟩
    have S9 := S7.trans S8
    have b9 := S9 _ _ b6
    have c9 := S9 _ _ c6
    have t9 := S9 _ _ t6
    have RA := RA.same S9
    have L1 := L1.exD S9.exD
    have L2 := L2.exD S9.exD
    clear hA1
    generalize upd (upd H6 q1 (.tup [.str sty, .str tx1, .str tx2, .bl rt])) q2 (.tup [.str sty, .str tx1, .str tx2, .bl rt]) = H9 at b9 c9 t9 RA L1 L2 ⊢
    clear S7 S8 S9 hq1 hq2 b6 c6 t6 dpk
    refine ⟨_, rfl, b, c, ns, 60, n3 + 1 + 1, _, rfl, by decide, by decide, b9, B5, by omega, c9, fun a10 o10 a100 a101 B10 => ?_⟩
    obtain ⟨kv10, rfl⟩ := B10.dict
    refine ⟨_, _, rfl, rfl, ?_⟩
    have b10 : upd H9 b (.dK kv10) b = some (.dK kv10) := upd_same
    have x10 : ExD H9 (upd H9 b (.dK kv10)) := exD_keep KeepB.upd b9
    have c10 := x10 _ _ c9 (fun _ z => by cases z)
    refine ⟨_, rfl, _, _, rfl, rfl, ⟨by decide, by decide, by decide⟩, b, c, ns, 10 ^ (40 : Int).toNat, n3 + 1 + 1 + 1, _, rfl, by decide, by decide, b10, B10, by omega, c10, fun a11 o11 a110 a111 B11 => ?_⟩
    obtain ⟨kv11, rfl⟩ := B11.dict
    rw [upd_upd]
    refine ⟨_, _, rfl, rfl, by show 5 ≤ sizeLine; decide, fun l hl => ?_⟩
    have x11 : ExD H9 (upd H9 b (.dK kv11)) := exD_keep KeepB.upd b9
    have S12 := same_new (o := .lst [.int 1, .int 2, .int 3, .int (1 + a10), .int (1 + a11)]) hl
    have x12 : ExD H9 (upd (upd H9 b (.dK kv11)) l (.lst [.int 1, .int 2, .int 3, .int (1 + a10), .int (1 + a11)])) := x11.trans S12.exD
    have b12 := S12 _ _ (upd_same (a := b) (o := .dK kv11))
    have c12 := x12 _ _ c9 (fun _ z => by cases z)
    have t12 := x12 _ _ t9 (fun _ z => by cases z)
    have l12 : upd (upd H9 b (.dK kv11)) l (.lst [.int 1, .int 2, .int 3, .int (1 + a10), .int (1 + a11)]) l = some (.lst [.int 1, .int 2, .int 3, .int (1 + a10), .int (1 + a11)]) := upd_same
    have RA := RA.exD x12
    have L1 := L1.exD x12
    have L2 := L2.exD x12
    have caps : ∀ (i : Nat) (v : V), [V.int 1, .int 2, .int 3, .int (1 + a10), .int (1 + a11)][i]? = some v → ∃ j : Int, v = .int j ∧ 1 ≤ j ∧ j.natAbs < 2 ^ 400 := fun i v e => by
      have big : ∀ {j : Int}, j.natAbs < 2 ^ 200 → j.natAbs < 2 ^ 400 := fun h => Nat.lt_trans h (by decide)
      have top : (1 + a11).natAbs < 2 ^ 200 := by
        have z : a11 < 10 ^ 40 := a111
        omega
      match i, e with
      | 0, e => exact ⟨1, (Option.some.inj e).symm, by decide, big (by decide)⟩
      | 1, e => exact ⟨2, (Option.some.inj e).symm, by decide, big (by decide)⟩
      | 2, e => exact ⟨3, (Option.some.inj e).symm, by decide, big (by decide)⟩
      | 3, e => exact ⟨_, (Option.some.inj e).symm, by omega, big (by omega)⟩
      | 4, e => exact ⟨_, (Option.some.inj e).symm, by omega, big top⟩
      | n + 5, e => cases e
    generalize upd (upd H9 b (.dK kv11)) l (.lst [.int 1, .int 2, .int 3, .int (1 + a10), .int (1 + a11)]) = H12 at b12 c12 t12 l12 RA L1 L2 ⊢
    clear x10 x11 x12 S12 hl b9 c9 t9 b10 c10
    refine ⟨l, rfl, ⟨_, SqL.of l12⟩, for_list (K := K) (a := l) (xs := [V.int 1, .int 2, .int 3, .int (1 + a10), .int (1 + a11)]) (fun i σ H' => ∃ y9 : Option V, σ = [some (.ref a), some (.ref b), some (.str tx1), some (.ref u1), some (.str tx2), some (.ref u2), some (.str sty), some (.bl rt), some (.ref x), y9, none, none, none, none, none, none] ∧ Same H12 H') ?_ ?_ ?_ ?_⟩
    · exact ⟨_, rfl, Same.refl _⟩
    · rintro i σ H' _ ⟨y9, rfl, sH⟩
      exact SqL.of (sH _ _ l12)
    · rintro i v σ H' hi ⟨y9, rfl, sH⟩
      obtain ⟨j, rfl, j1, j2⟩ := caps i v hi
      refine ⟨_, rfl, _, rfl, _, rfl, _, rfl, x, u1, u2, j, sty, _, _, _, _, _, rfl, RA.same sH, L1.exD sH.exD, L2.exD sH.exD, j1, j2, fun H'' s2 => ?_⟩
      refine ⟨true, rfl, ?_⟩
      exact ⟨_, rfl, sH.trans s2⟩
    · rintro σ H' ⟨y9, rfl, sH⟩
      have b13 := sH _ _ b12
      have c13 := sH _ _ c12
      have t13 := sH _ _ t12
      have RA := RA.same sH
      have L1 := L1.exD sH.exD
      have L2 := L2.exD sH.exD
      clear sH b12 c12 t12 l12 caps
      refine ⟨_, rfl, b, c, ns, 40, n3 + 1 + 1 + 1 + 1, _, rfl, by decide, by decide, b13, B11, by omega, c13, fun a14 o14 a140 a141 B14 => ?_⟩
      obtain ⟨kv14, rfl⟩ := B14.dict
      have x14 : ExD H' (upd H' b (.dK kv14)) := exD_keep KeepB.upd b13
      have b14 : upd H' b (.dK kv14) b = some (.dK kv14) := upd_same
      have c14 := x14 _ _ c13 (fun _ z => by cases z)
      have t14 := x14 _ _ t13 (fun _ z => by cases z)
      have RA := RA.exD x14
      have L1 := L1.exD x14
      have L2 := L2.exD x14
      generalize upd H' b (.dK kv14) = H14 at b14 c14 t14 RA L1 L2 ⊢
      clear x14 b13 c13 t13
      refine ⟨_, _, rfl, rfl, ?_⟩
      obtain ⟨first, f1, f2, ef⟩ : ∃ first : Int, 1 ≤ first ∧ first ≤ 40 ∧ 1 + a14 = first := ⟨_, by omega, by omega, rfl⟩
      show gName 10 (V.int (1 + a14)) _ _ _
      rw [ef]
      refine ⟨_, rfl, first, 700, rfl, ⟨by omega, by omega, by decide, by decide⟩, fun D hD => lc_range (lo := first) (n := (700 - first).toNat) (fun i H' => Same H14 H' ∧ H' D = some (.lst ((usedI y1 y2 first i).map V.int))) ⟨same_new hD, upd_same⟩ (fun i H' hi hp => ?_) (fun H' hp => ?_)⟩
      · refine ⟨rfl, ?_⟩
        have z1 := shA (v := .str tx1) D1.sh
        have z2 := shA (v := .str tx2) D2.sh
        have e1 : (lineM y1).d < 2 ^ 100 := Nat.lt_of_le_of_lt (shareV_lt (v := .str tx1) D1.sh).2.2.2 (by decide)
        have e2 : (lineM y2).d < 2 ^ 100 := Nat.lt_of_le_of_lt (shareV_lt (v := .str tx2) D2.sh).2.2.2 (by decide)
        have kb : (first + (i : Int)).natAbs < 2 ^ 400 := Nat.lt_trans (show (first + (i : Int)).natAbs < 2 ^ 20 by omega) (by decide)
        refine ⟨_, rfl, _, rfl, u2, (lineM y2).s, (lineM y2).c, (lineM y2).d, first + (i : Int), rfl, (L2.exD hp.1.exD), z2.1, e2, z2.2.2, kb, ?_⟩
        have st : ∀ acc, Same H14 (upd H' D (.lst acc)) := fun acc u o e => by
          rw [upd_ne (fun z => by rw [z, hD] at e; cases e)]
          exact hp.1 u o e
        refine ⟨_, _, rfl, rfl, _, rfl, ite2 (fun g1 => ?_) fun g1 => ?_⟩
        · refine ⟨_, rfl, _, rfl, u2, (lineM y2).s, (lineM y2).c, (lineM y2).d, first + (i : Int), rfl, (L2.exD hp.1.exD), z2.1, e2, z2.2.2, kb, ?_⟩
          refine ⟨_, rfl, _, rfl, u1, (lineM y1).s, (lineM y1).c, (lineM y1).d, first + (i : Int), rfl, (L1.exD hp.1.exD), z1.1, e1, z1.2.2, kb, ?_⟩
          refine ⟨_, _, rfl, rfl, _, rfl, ite2 (fun g2 => ?_) fun g2 => ?_⟩
          · have hu : usedL y1 y2 (first + (i : Int)) = true := by
              unfold usedL
              rw [Bool.and_eq_true]
              exact ⟨g1, g2⟩
            refine ⟨_, rfl, _, hp.2, ?_, st _, ?_⟩
            · rw [List.length_map]
              exact Nat.lt_of_le_of_lt (usedI_len _ _ _ _) (Nat.lt_of_lt_of_le (show i < 1000 by omega) (by decide))
            · rw [upd_same, usedI_step, if_pos hu, List.map_append]
              rfl
          · have hu : ¬ usedL y1 y2 (first + (i : Int)) = true := fun z => by
              unfold usedL at z
              rw [Bool.and_eq_true] at z
              exact g2 z.2
            refine ⟨hp.1, ?_⟩
            rw [usedI_step, if_neg hu]
            exact hp.2
        · have hu : ¬ usedL y1 y2 (first + (i : Int)) = true := fun z => by
            unfold usedL at z
            rw [Bool.and_eq_true] at z
            exact g1 z.1
          refine ⟨hp.1, ?_⟩
          rw [usedI_step, if_neg hu]
          exact hp.2
      · obtain ⟨sH, hD2⟩ := hp
        have nx := next_used D1 D2 f1 f2
        generalize usedI y1 y2 first (700 - first).toNat = us at hD2 nx
        have b15 := sH _ _ b14
        have c15 := sH _ _ c14
        have t15 := sH _ _ t14
        have RA := RA.same sH
        have L1 := L1.exD sH.exD
        have L2 := L2.exD sH.exD
        clear sH b14 c14 t14 hD
        obtain ⟨dx, os, p3, p4, cs, ls, hx1, _⟩ := id RA
        refine ⟨_, rfl, x, dx, _, rfl, hx1, rfl, _, rfl, x, .int first, _, sty, _, _, _, _, _, rfl, RA, Kd.int, fun k e => ?_, fun k e k1 H15 s15 => ?_, fun z => absurd f1 (z first rfl)⟩
        · cases e
          exact Nat.lt_trans (show first.natAbs < 2 ^ 10 by omega) (by decide)
        cases e
        have hD3 := s15 _ _ hD2
        rw [nx]
        refine ⟨_, rfl, by show 0 ≤ sizeLine; decide, fun l hl => ?_⟩
        have S16 := same_new (o := .lst []) hl
        have dps : DpAll K (upd H15 l (.lst [])) (us.map V.int) (us.map PyData.int) := dp_ints us
        refine ⟨.list (us.map PyData.int), .list [], .lst (SqL.of (S16 _ _ hD3)) dps, .lst (SqL.of upd_same) .nil, ints_shaped us, rfl, ?_⟩
        refine ⟨decide (us ≠ []), eqv_nil us, if_head (D := D) rfl (SqL.of (S16 _ _ hD3)) ?_⟩
        obtain ⟨dd, hdd, sdd⟩ := dp_opt (K := K) (H := upd H15 l (.lst [])) us.head?
        refine ⟨dd, dd, hdd, hdd, sdd, sdd, ?_⟩
        rw [eqv_self _ (SeqAt.canLay_of_shaped sdd)]
        refine ⟨_, rfl, ?_⟩
        have S17 := s15.trans S16
        have b17 := S17 _ _ b15
        have c17 := S17 _ _ c15
        have t17 := S17 _ _ t15
        have RA := RA.same S17
        clear hx1 hD2 hD3 dps hdd
        generalize upd H15 l (.lst []) = H17 at b17 c17 t17 RA ⊢
        clear s15 S16 S17 hl b15 c15 t15
        refine ⟨_, rfl, _, rfl, _, rfl, x, ⟨sty, tx1, tx2, rt⟩, rfl, ⟨_, _, RA⟩, g, fun H18 s18 => ⟨true, rfl, ?_⟩⟩
        have b18 := s18 _ _ b17
        have c18 := s18 _ _ c17
        have t18 := s18 _ _ t17
        have RA := RA.same s18
        clear s18 b17 c17 t17
        refine ⟨_, rfl, b, c, ns, n3 + 1 + 1 + 1 + 1 + 1, _, rfl, b18, B14, by omega, c18, fun o19 n19 H19 k19 b19 B19 m19 => ⟨true, rfl, ?_⟩⟩
        obtain ⟨kv19, rfl⟩ := B19.dict
        have x19 : ExD H18 H19 := exD_keep k19 b18
        have c19 := x19 _ _ c18 (fun _ z => by cases z)
        have t19 := x19 _ _ t18 (fun _ z => by cases z)
        have RA := RA.exD x19
        clear x19 k19 b18 c18 t18
        refine ⟨by show 12 ≤ sizeLine; decide, fun q1 hq1 => ?_⟩
        have S20 := same_new (o := .lst badA) hq1
        refine ⟨_, rfl, by show 8 ≤ sizeLine; decide, fun q2 hq2 => ?_⟩
        have S21 := same_new (o := .lst badB) hq2
        refine ⟨q1, q2, badA, badB, rfl, rfl, S21 _ _ upd_same, upd_same, by show 20 ≤ sizeLine; decide, fun q3 hq3 => ?_⟩
        have S22 := same_new (o := .lst (badA ++ badB)) hq3
        refine ⟨_, rfl, "1", 31, rfl, rfl, by decide, by decide, by decide +kernel, by decide +kernel, by decide +kernel, by decide +kernel, by show 1 ≤ sizeLine; decide, fun lk hlk => ⟨by show 11 ≤ sizeLine; decide, fun q4 hq4 => ?_⟩⟩
        have S23 := same_new (o := .lst [.str "k"]) hlk
        have S24 := same_new (o := .lst (badC lk)) hq4
        refine ⟨q3, q4, badA ++ badB, badC lk, rfl, rfl, S24 _ _ (S23 _ _ upd_same), upd_same, by show 31 ≤ sizeLine; decide, fun q5 hq5 => ?_⟩
        have S25 := same_new (o := .lst ((badA ++ badB) ++ badC lk)) hq5
        refine ⟨_, rfl, by show 2 ≤ sizeLine; decide, fun q6 hq6 => ?_⟩
        have S26 := same_new (o := .lst badE) hq6
        refine ⟨q5, q6, (badA ++ badB) ++ badC lk, badE, rfl, rfl, S26 _ _ upd_same, upd_same, by show 33 ≤ sizeLine; decide, fun q7 hq7 => ?_⟩
        have S27 := same_new (o := .lst (badL lk)) hq7
        have S28 := S20.trans (S21.trans (S22.trans (S23.trans (S24.trans (S25.trans (S26.trans S27))))))
        have b28 := S28 _ _ b19
        have c28 := S28 _ _ c19
        have t28 := S28 _ _ t19
        have k28 := (S24.trans (S25.trans (S26.trans S27))) _ _ (upd_same (a := lk) (o := .lst [.str "k"]))
        have q28 := upd_same (H := upd (upd (upd (upd (upd (upd (upd H19 q1 (.lst badA)) q2 (.lst badB)) q3 (.lst (badA ++ badB))) lk (.lst [.str "k"])) q4 (.lst (badC lk))) q5 (.lst ((badA ++ badB) ++ badC lk))) q6 (.lst badE)) (a := q7) (o := .lst (badL lk))
        have RA := RA.same S28
        clear S20 S21 S22 S23 S24 S25 S26 S27 S28 b19 c19 t19
        generalize upd (upd (upd (upd (upd (upd (upd (upd H19 q1 (.lst badA)) q2 (.lst badB)) q3 (.lst (badA ++ badB))) lk (.lst [.str "k"])) q4 (.lst (badC lk))) q5 (.lst ((badA ++ badB) ++ badC lk))) q6 (.lst badE)) q7 (.lst (badL lk)) = H28 at b28 c28 t28 k28 q28 RA ⊢
        clear hq1 hq2 hq3 hq4 hq5 hq6 hq7 hlk
        have len7 : (badL lk).length = 33 := rfl
        have nqb : q7 ≠ b := fun z => by
          rw [z, b28] at q28
          cases q28
        refine ⟨_, rfl, _, rfl, _, rfl, q7, _, rfl, .inl (SqL.of q28), b, c, ns, 33, n19, .dK kv19, rfl, by decide, by decide, b28, B19, by omega, c28, fun a29 o29 a290 a291 B29 => ?_⟩
        obtain ⟨kv29, rfl⟩ := B29.dict
        have x29 : ExD H28 (upd H28 b (.dK kv29)) := exD_keep KeepB.upd b28
        have b29 : upd H28 b (.dK kv29) b = some (.dK kv29) := upd_same
        have c29 := x29 _ _ c28 (fun _ z => by cases z)
        have t29 := x29 _ _ t28 (fun _ z => by cases z)
        have k29 := x29 _ _ k28 (fun _ z => by cases z)
        have q29 := x29 _ _ q28 (fun _ z => by cases z)
        have RA := RA.exD x29
        generalize upd H28 b (.dK kv29) = H29 at b29 c29 t29 k29 q29 RA ⊢
        clear x29 b28 c28 t28 k28 q28
        obtain ⟨odd, hodd, Od, no⟩ := bad_at (K := K) k29 a290 a291
        refine ⟨q7, _, _, odd, rfl, rfl, SqL.of q29, hodd, ?_⟩
        refine ⟨_, rfl, _, rfl, _, rfl, q7, _, rfl, .inl (SqL.of q29), b, c, ns, 33, n19 + 1, .dK kv29, rfl, by decide, by decide, b29, B29, by omega, c29, fun a30 o30 a300 a301 B30 => ?_⟩
        obtain ⟨kv30, rfl⟩ := B30.dict
        have x30 : ExD H29 (upd H29 b (.dK kv30)) := exD_keep KeepB.upd b29
        have b30 : upd H29 b (.dK kv30) b = some (.dK kv30) := upd_same
        have c30 := x30 _ _ c29 (fun _ z => by cases z)
        have t30 := x30 _ _ t29 (fun _ z => by cases z)
        have k30 := x30 _ _ k29 (fun _ z => by cases z)
        have q30 := x30 _ _ q29 (fun _ z => by cases z)
        have RA := RA.exD x30
        have Od := Od.exD x30
        generalize upd H29 b (.dK kv30) = H30 at b30 c30 t30 k30 q30 RA Od ⊢
        clear x30 b29 c29 t29 k29 q29 hodd
        obtain ⟨oth, hoth, Ot, no2⟩ := bad_at (K := K) k30 a300 a301
        refine ⟨q7, _, _, oth, rfl, rfl, SqL.of q30, hoth, ?_⟩
        refine ⟨_, _, rfl, ?_⟩
        clear hoth q30 k30 no2
        refine ⟨by show 1 ≤ sizeLine; decide, fun ls hls => ⟨by show 6 ≤ sizeLine; decide, fun l6 hl6 => ?_⟩⟩
        have S31 := (same_new (o := .lst [.str "taken"]) hls).step (o := .lst (strL ls)) hl6
        have b31 := S31 _ _ b30
        have c31 := S31 _ _ c30
        have t31 := S31 _ _ t30
        have k31 := same_new (o := .lst (strL ls)) hl6 _ _ (upd_same (a := ls) (o := .lst [.str "taken"]))
        have q31 := upd_same (H := upd H30 ls (.lst [.str "taken"])) (a := l6) (o := .lst (strL ls))
        have RA := RA.same S31
        have Od := Od.exD S31.exD
        have Ot := Ot.exD S31.exD
        generalize upd (upd H30 ls (.lst [.str "taken"])) l6 (.lst (strL ls)) = H31 at b31 c31 t31 k31 q31 RA Od Ot ⊢
        clear S31 hls hl6 b30 c30 t30
        refine ⟨_, rfl, b, c, ns, 6, n19 + 1 + 1, _, rfl, by decide, by decide, b31, B30, by omega, c31, fun a32 o32 a320 a321 B32 => ?_⟩
        obtain ⟨kv32, rfl⟩ := B32.dict
        have x32 : ExD H31 (upd H31 b (.dK kv32)) := exD_keep KeepB.upd b31
        have b32 : upd H31 b (.dK kv32) b = some (.dK kv32) := upd_same
        have c32 := x32 _ _ c31 (fun _ z => by cases z)
        have t32 := x32 _ _ t31 (fun _ z => by cases z)
        have k32 := x32 _ _ k31 (fun _ z => by cases z)
        have q32 := x32 _ _ q31 (fun _ z => by cases z)
        have RA := RA.exD x32
        have Od := Od.exD x32
        have Ot := Ot.exD x32
        generalize upd H31 b (.dK kv32) = H32 at b32 c32 t32 k32 q32 RA Od Ot ⊢
        clear x32 b31 c31 t31 k31 q31
        obtain ⟨sg, hsg, Sg, nsg⟩ := str_at (K := K) k32 a320 a321
        refine ⟨l6, _, _, sg, rfl, rfl, SqL.of q32, hsg, ?_⟩
        clear hsg q32 k32
        obtain ⟨to, do_, ko, so, eo⟩ := Od.ex
        obtain ⟨tt, dt, kt, st, et⟩ := Ot.ex
        obtain ⟨tg, dg, kg, sgs, eg⟩ := Sg.ex
        have sP : ∀ {w : Str} {d : PyData}, (PyData.str w).canLay0 = true → SeqAt.shaped d = true → d.depth ≤ 60 → SeqAt.shaped (.tuple [.str w, d]) = true := fun hw h hd => pair_shaped hw (SeqAt.canLay_of_shaped h) hd
        refine ⟨_, rfl, _, rfl, _, rfl, sg, odd, oth, tg, to, tt, rfl, (kg _ (ExD.refl _)).1, (ko _ (ExD.refl _)).1, (kt _ (ExD.refl _)).1, Od.ok, Ot.ok, fun _ p33 H33 s33 np33 hp33 => ?_, fun z e => by rw [nsg] at e; cases e⟩
        have pairs : ∀ {Hx : Hp} {p p' : Addr} {w : Str} {v : V} {d : PyData}, Hx p = some (.tup [.str w, v]) → Hx p' = some (.tup [.str w, v]) → Dp K Hx v d → SeqAt.shaped d = true → d.depth ≤ 10 → (PyData.str w).canLay0 = true → ∀ {G : VK}, G (.bl false) Hx → rNeD K (.ref p) (.ref p') Hx G := fun {Hx p p' w v d} h1 h2 hd hs he hw {G} hq => by
          have sh := sP hw hs (Nat.le_trans he (by decide))
          refine ⟨_, _, .tup (SqT.of h1) (.cons (.str w) (.cons hd .nil)), .tup (SqT.of h2) (.cons (.str w) (.cons hd .nil)), sh, sh, ?_⟩
          rw [eqv_self _ (SeqAt.canLay_of_shaped sh)]
          exact hq
        have ws : (PyData.str "style").canLay0 = true ∧ (PyData.str "sum").canLay0 = true := by decide +kernel
        have sb : styV (.str sty) = some sty := if_pos hsty
        refine ⟨_, rfl, by show 2 ≤ sizeLine; decide, fun p34 hp34 => ?_⟩
        have S34 := s33.step (o := .tup [.str "style", sg]) hp34
        refine pairs (same_new hp34 _ _ hp33) upd_same (kg _ S34.exD).2 sgs eg ws.1 ⟨false, rfl, ?_⟩
        have x34 := S34.exD
        have t34 := S34 _ _ t32
        have b34 := S34 _ _ b32
        have c34 := S34 _ _ c32
        have RA := RA.same S34
        generalize upd H33 p34 (.tup [.str "style", sg]) = H34 at x34 t34 b34 c34 RA ⊢
        clear S34 s33 np33 hp33 hp34
        refine ⟨_, rfl, _, rfl, _, rfl, .str sty, odd, oth, _, to, tt, rfl, Kd.str, (ko _ x34).1, (kt _ x34).1, Od.ok, Ot.ok, fun z => (by rw [sb] at z; cases z), fun sty' e => ⟨fun _ p35 H35 s35 np35 hp35 => ?_, fun z e => by rw [no] at e; cases e⟩⟩
        refine ⟨_, rfl, by show 2 ≤ sizeLine; decide, fun p36 hp36 => ?_⟩
        have S36 := s35.step (o := .tup [.str "sum", odd]) hp36
        have x36 := x34.trans S36.exD
        refine pairs (same_new hp36 _ _ hp35) upd_same (ko _ x36).2 so eo ws.2 ⟨false, rfl, ?_⟩
        have t36 := S36 _ _ t34
        have b36 := S36 _ _ b34
        have c36 := S36 _ _ c34
        have RA := RA.same S36
        generalize upd H35 p36 (.tup [.str "sum", odd]) = H36 at x36 t36 b36 c36 RA ⊢
        clear S36 s35 np35 hp35 hp36
        have kk1 : shareV (.str "k") = some fX1 := by decide +kernel
        refine ⟨_, rfl, _, rfl, .str sty, .str "k", odd, _, _, to, rfl, Kd.str, Kd.str, (ko _ x36).1, by decide +kernel, Od.ok, fun z => (by rw [sb] at z; cases z), fun sty' e => ⟨fun z => (by rw [kk1] at z; cases z), fun z1 e1 => ⟨fun _ p37 H37 s37 np37 hp37 => ?_, fun z e => by rw [no] at e; cases e⟩⟩⟩
        refine ⟨_, rfl, by show 2 ≤ sizeLine; decide, fun p38 hp38 => ?_⟩
        have S38 := s37.step (o := .tup [.str "sum", odd]) hp38
        have x38 := x36.trans S38.exD
        refine pairs (same_new hp38 _ _ hp37) upd_same (ko _ x38).2 so eo ws.2 ⟨false, rfl, ?_⟩
        have t38 := S38 _ _ t36
        have b38 := S38 _ _ b36
        have c38 := S38 _ _ c36
        have RA := RA.same S38
        generalize upd H37 p38 (.tup [.str "sum", odd]) = H38 at x38 t38 b38 c38 RA ⊢
        clear S38 s37 np37 hp37 hp38
        refine ⟨_, rfl, _, rfl, by show 1 ≤ sizeLine; decide, fun tp htp => ⟨by show 1 ≤ sizeLine; decide, fun lq hlq => ⟨by show 7 ≤ sizeLine; decide, fun l7 hl7 => ?_⟩⟩⟩
        have S39 := ((same_new (o := .tup [.int 1]) htp).step (o := .lst [.int 1]) hlq).step (o := .lst (capL tp lq)) hl7
        have b39 := S39 _ _ b38
        have c39 := S39 _ _ c38
        have t39 := S39 _ _ t38
        have RA := RA.same S39
        have p39 := ((same_new (o := .lst [.int 1]) hlq).step (o := .lst (capL tp lq)) hl7) _ _ (upd_same (a := tp) (o := .tup [.int 1]))
        have m39 := (same_new (o := .lst (capL tp lq)) hl7) _ _ (upd_same (a := lq) (o := .lst [.int 1]))
        have q39 := upd_same (H := upd (upd H38 tp (.tup [.int 1])) lq (.lst [.int 1])) (a := l7) (o := .lst (capL tp lq))
        generalize upd (upd (upd H38 tp (.tup [.int 1])) lq (.lst [.int 1])) l7 (.lst (capL tp lq)) = H39 at b39 c39 t39 RA p39 m39 q39 ⊢
        clear S39 htp hlq hl7
        refine ⟨_, rfl, b, c, ns, 7, n19 + 1 + 1 + 1, _, rfl, by decide, by decide, b39, B32, by omega, c39, fun a40 o40 a400 a401 B40 => ?_⟩
        obtain ⟨kv40, rfl⟩ := B40.dict
        have x40 : ExD H39 (upd H39 b (.dK kv40)) := exD_keep KeepB.upd b39
        have t40 := x40 _ _ t39 (fun _ z => by cases z)
        have p40 := x40 _ _ p39 (fun _ z => by cases z)
        have m40 := x40 _ _ m39 (fun _ z => by cases z)
        have q40 := x40 _ _ q39 (fun _ z => by cases z)
        have RA := RA.exD x40
        obtain ⟨v, tv, dv, hv, nv, sv, kv⟩ := cap_at' (K := K) p40 m40 a400 a401
        refine ⟨l7, _, _, v, rfl, rfl, SqL.of q40, hv, ?_⟩
        exact ⟨x, v, tv, dv, sty, _, _, _, _, _, rfl, RA, nv, sv, kv, fun p hp => by
          rw [List.mem_singleton.mp hp]
          exact LamX.TabS.nil t40, fun H' => q H'⟩
end
end Pk
namespace Pk
open L2 PyProof.Rows PySem.Spec PySem
/-! ### facts of the class -/
def insB (x : Str) (K : PySem.W.Frag) : Bool := He.eqO (PySem.W.findIn K (.ref (He.ga K x)) "__class__") (some (some (.builtin "object.__class__"))) && (He.eqO (PySem.W.specialIn K (.builtin "object.__class__") "__get__") (some (some (.builtin "getset_descriptor.__get__"))) && (decide (PySem.W.takesIn K (.builtin "object.__class__") = some true) &&
  (decide (PySem.W.mroIn K (He.ga K x) (.type "object") = some true) && (decide (PySem.W.kitOne K (.ref (He.ga K x)) (.ref (He.ga K x)) = some true) && decide (PySem.W.kitOne K (.type "tuple") (.ref (He.ga K x)) = some false)))))
theorem insB_ok {x : Str} {K : PySem.W.Frag} (h : insB x K = true) : InsIs K (He.ga K x) := by
  unfold insB at h
  obtain ⟨h1, h⟩ := He.ba h
  obtain ⟨h2, h⟩ := He.ba h
  obtain ⟨h3, h⟩ := He.ba h
  obtain ⟨h4, h⟩ := He.ba h
  obtain ⟨h5, h6⟩ := He.ba h
  exact ⟨He.eqO_ok h1, He.eqO_ok h2, of_decide_eq_true h3, of_decide_eq_true h4, of_decide_eq_true h5, of_decide_eq_true h6⟩
def eqB (x : Str) (K : PySem.W.Frag) : Bool := He.eqO (PySem.W.findIn K (.ref (He.ga K x)) "__eq__") (some (some (.ref (He.ma K (He.ga K x) "__eq__")))) && (PySem.W.isFn K (.ref (He.ma K (He.ga K x) "__eq__")) && (He.eqO (PySem.W.findIn K (.ref (He.ga K x)) "__ne__") (some (some (.builtin "object.__ne__"))) &&
  decide (PySem.W.subIn K (.ref (He.ga K x)) (.type "object") = some true)))
theorem eqB_ok {x : Str} {K : PySem.W.Frag} (h : eqB x K = true) : EqC K (He.ga K x) (He.ma K (He.ga K x) "__eq__") := by
  unfold eqB at h
  obtain ⟨h1, h⟩ := He.ba h
  obtain ⟨h2, h⟩ := He.ba h
  obtain ⟨h3, h4⟩ := He.ba h
  exact ⟨He.eqO_ok h1, h2, He.eqO_ok h3, of_decide_eq_true h4⟩
def nfB (x : Str) (K : PySem.W.Frag) : Bool := PySem.W.notFirst K (He.ga K x) (.ref (He.ga K x)) && PySem.W.notFirst K (He.ga K x) (.type "tuple")
theorem nfB_ok {x : Str} {K : PySem.W.Frag} (h : nfB x K = true) : PySem.W.notFirst K (He.ga K x) (.ref (He.ga K x)) = true ∧ PySem.W.notFirst K (He.ga K x) (.type "tuple") = true := He.ba h
def fnL : List Hx.DefE := [⟨("BadStyle", some "__init__"), "__init__", "BadStyle.__init__", sIBadStyle, ["__class__"], []⟩,
  ⟨("BadSum", some "__init__"), "__init__", "BadSum.__init__", sIBadSum, ["__class__"], []⟩,
  ⟨("BadCapacity", some "__init__"), "__init__", "BadCapacity.__init__", sIBadCapacity, ["__class__"], []⟩,
  ⟨("_law_draw", none), "_law_draw", "_law_draw", sDraw, [], []⟩,
  ⟨("_law_bag", none), "_law_bag", "_law_bag", sBag, [], []⟩,
  ⟨("number_of", none), "number_of", "number_of", sNum, [], []⟩,
  ⟨("term_of", none), "term_of", "term_of", sTerm, [], []⟩,
  ⟨("sum_of", none), "sum_of", "sum_of", sSumOf, [], []⟩,
  ⟨("divided", none), "divided", "divided", sDiv, [], []⟩,
  ⟨("is_whole", none), "is_whole", "is_whole", sWhole, [], []⟩,
  ⟨("common", none), "common", "common", sCommon, [], []⟩,
  ⟨("share_at", none), "share_at", "share_at", sShareAt, [], []⟩,
  ⟨("least_from", none), "least_from", "least_from", sLeast, [], []⟩,
  ⟨("need_capacity", none), "need_capacity", "need_capacity", sNeed, [], []⟩,
  ⟨("read_share", none), "read_share", "read_share", sShare, [], []⟩,
  ⟨("line_of", none), "line_of", "line_of", sLine, [], []⟩,
  ⟨("Rules", some "__init__"), "__init__", "Rules.__init__", sRI, [], [.bl true]⟩,
  ⟨("Rules", some "cap_at"), "cap_at", "Rules.cap_at", sCapAt, [], []⟩,
  ⟨("Rules", some "low_at"), "low_at", "Rules.low_at", sLowAt, [], []⟩,
  ⟨("Rules", some "bounds"), "bounds", "Rules.bounds", sBounds, [], []⟩,
  ⟨("Rules", some "in_use"), "in_use", "Rules.in_use", sInUse, [], []⟩,
  ⟨("Rules", some "next_of_class"), "next_of_class", "Rules.next_of_class", sNextC, [], []⟩,
  ⟨("Rules", some "next_in_use"), "next_in_use", "Rules.next_in_use", sNextU, [], []⟩,
  ⟨("Rules", some "__eq__"), "__eq__", "Rules.__eq__", sEqR, [], []⟩,
  ⟨("_law_share", none), "_law_share", "_law_share", sLShare, [], []⟩,
  ⟨("_law_at", none), "_law_at", "_law_at", sLAt, [], []⟩,
  ⟨("_law_right", none), "_law_right", "_law_right", sLRight, [], []⟩,
  ⟨("_law_refused", none), "_law_refused", "_law_refused", sLRef, [], []⟩,
  ⟨("_law_equal_right", none), "_law_equal_right", "_law_equal_right", sLEq, [], []⟩,
  ⟨("_law_planted_right", none), "_law_planted_right", "_law_planted_right", sLPlant, [], []⟩,
  ⟨("_law_capacity_refused", none), "_law_capacity_refused", "_law_capacity_refused", sLCap, [], []⟩,
  ⟨("law", none), "law", "law", sLaw, [], []⟩]
def faL : List He.Fa := [.free "int", .free "len", .free "list", .int "MOST_FIGURES" 30, .glo "number_of", .int "MOST_FACTOR" 12, .glo "term_of", .free "tuple", .int "MOST_TERMS" 4, .glo "sum_of", .free "isinstance", .free "bool", .free "max", .glo "is_whole", .glo "divided", .free "str", .free "any", .int "MOST_SHARE" 6, .free "sum", .glo "read_share", .glo "line_of", .glo "need_capacity", .glo "share_at", .meth "Rules" "bounds", .glo "least_from", .free "min", .glo "common", .meth "Rules" "next_of_class", .free "range", .glo "_law_draw", .glo "_law_at", .meth "Rules" "cap_at", .meth "Rules" "low_at", .meth "Rules" "in_use", .meth "Rules" "next_in_use", .exm "BadCapacity" "BadCapacity" true, .glo "_law_bag", .glo "_law_share", .glo "_law_right", .glo "_law_equal_right", .glo "_law_planted_right", .glo "_law_refused", .glo "_law_capacity_refused", .free "super", .cls "Rules", .mkr "Rules", .glo "Rules", .noat "Rules" "own_shares", .noat "Rules" "cap_share", .noat "Rules" "low_share", .noat "Rules" "style", .noat "Rules" "cap", .noat "Rules" "low", .noat "Rules" "root", .exm "BadStyle" "BadStyle" true, .exm "BadSum" "BadStyle" false, .exm "BadSum" "BadSum" true, .glo "law"]
def fbL : List (PySem.W.Frag → Bool) := [fun K => Hx.supB progOf K "BadStyle" ["style"],
  fun K => Hx.supB progOf K "BadSum" ["text"],
  fun K => Hx.supB progOf K "BadCapacity" ["k"],
  insB "Rules",
  eqB "Rules",
  nfB "Rules",
  Hx.tupB "ATOMS" (ATOMSL.map V.str),
  Hx.tupB "FACTORED" (FACTL.map V.str),
  Hx.tupB "STYLES" (STYL.map V.str)]
abbrev RR : PySem.W.OpenRow := PySem.W.OpenLaw.row PySem.Challenge.rw_pagecode_k40_whole_rules_in_use
abbrev pT : Str × Option Str := ("_law_capacity_refused", none)
abbrev hkk : PySem.W.Hook := Hx.hookT 5 pT faL fbL fnL
def ob (s : PySem.W.SharedT) : Hx.AlT := Hx.obsTG 5 pT faL fbL fnL (HandSHeadRun.getT s)
theorem ob_eq (s : PySem.W.SharedT) : ob s = hkk.obs s.abs := Hx.obsTG_eq (HandSHeadRun.getT_eq s)
abbrev loA : List Str := ["_wall", "PageError", "BadStyle", "BadSum", "BadCapacity", "number_of", "term_of", "sum_of", "divided", "is_whole", "read_share", "line_of", "common", "share_at", "need_capacity", "least_from", "Rules", "_law_bag", "_law_draw", "_law_share", "_law_at", "_law_right", "_law_planted_right", "_law_equal_right", "_law_refused", "_law_capacity_refused", "FACTORED", "ATOMS", "MOST_TERMS", "MOST_FIGURES"]
abbrev loB : List Str := ["MOST_FACTOR", "STYLES", "MOST_SHARE"]
abbrev looseL : List Str := loA ++ loB
theorem run_top (w : World) : HandSHeadRun.RunEq RR (PySem.W.view RR.prog [37]) hkk ob 20000 looseL w := by
  intro os
  kernel_rfl
end Pk
namespace Pk
open L2 PyProof.Rows PySem.Spec PySem
theorem facts {w : World} {K : PySem.W.Frag} {h : Heap} {mg : Str → Option Value} {f Pt : Addr} (X : K.In h) (G : h.Ns mainGlobals mg) (hfa : mg ("law" : Str) = some (.ref f)) (c : Hx.SaysX faL fbL fnL K) (tb : Hx.tabB K pT Pt = true) :
    ∃ fd : FuncData, (∀ (s : Shared) (v : Value), BindsTo s fd ⟨[v], []⟩ [("_law_script", v)]) ∧ ∀ base : Heap, LamX.TabB base mg (Hx.cAd K pT) Pt → FnOk progOf w K mg base CX0 9 f fd ["_law_script"] (spLaw K Pt) := by
  obtain ⟨fd_law_draw, F_law_draw⟩ := c.def_ 3 (x := "_law_draw") (p := ("_law_draw", none)) (qual := "_law_draw") (st := sDraw) (dfl := [])
  obtain ⟨fd_law_bag, F_law_bag⟩ := c.def_ 4 (x := "_law_bag") (p := ("_law_bag", none)) (qual := "_law_bag") (st := sBag) (dfl := [])
  obtain ⟨fdnumber_of, Fnumber_of⟩ := c.def_ 5 (x := "number_of") (p := ("number_of", none)) (qual := "number_of") (st := sNum) (dfl := [])
  obtain ⟨fdterm_of, Fterm_of⟩ := c.def_ 6 (x := "term_of") (p := ("term_of", none)) (qual := "term_of") (st := sTerm) (dfl := [])
  obtain ⟨fdsum_of, Fsum_of⟩ := c.def_ 7 (x := "sum_of") (p := ("sum_of", none)) (qual := "sum_of") (st := sSumOf) (dfl := [])
  obtain ⟨fddivided, Fdivided⟩ := c.def_ 8 (x := "divided") (p := ("divided", none)) (qual := "divided") (st := sDiv) (dfl := [])
  obtain ⟨fdis_whole, Fis_whole⟩ := c.def_ 9 (x := "is_whole") (p := ("is_whole", none)) (qual := "is_whole") (st := sWhole) (dfl := [])
  obtain ⟨fdcommon, Fcommon⟩ := c.def_ 10 (x := "common") (p := ("common", none)) (qual := "common") (st := sCommon) (dfl := [])
  obtain ⟨fdshare_at, Fshare_at⟩ := c.def_ 11 (x := "share_at") (p := ("share_at", none)) (qual := "share_at") (st := sShareAt) (dfl := [])
  obtain ⟨fdleast_from, Fleast_from⟩ := c.def_ 12 (x := "least_from") (p := ("least_from", none)) (qual := "least_from") (st := sLeast) (dfl := [])
  obtain ⟨fdneed_capacity, Fneed_capacity⟩ := c.def_ 13 (x := "need_capacity") (p := ("need_capacity", none)) (qual := "need_capacity") (st := sNeed) (dfl := [])
  obtain ⟨fdread_share, Fread_share⟩ := c.def_ 14 (x := "read_share") (p := ("read_share", none)) (qual := "read_share") (st := sShare) (dfl := [])
  obtain ⟨fdline_of, Fline_of⟩ := c.def_ 15 (x := "line_of") (p := ("line_of", none)) (qual := "line_of") (st := sLine) (dfl := [])
  obtain ⟨fdRulesU_initU, FRulesU_initU⟩ := c.def_ 16 (x := "__init__") (p := ("Rules", some "__init__")) (qual := "Rules.__init__") (st := sRI) (dfl := [.bl true])
  obtain ⟨fdRules_cap_at, FRules_cap_at⟩ := c.def_ 17 (x := "cap_at") (p := ("Rules", some "cap_at")) (qual := "Rules.cap_at") (st := sCapAt) (dfl := [])
  obtain ⟨fdRules_low_at, FRules_low_at⟩ := c.def_ 18 (x := "low_at") (p := ("Rules", some "low_at")) (qual := "Rules.low_at") (st := sLowAt) (dfl := [])
  obtain ⟨fdRules_bounds, FRules_bounds⟩ := c.def_ 19 (x := "bounds") (p := ("Rules", some "bounds")) (qual := "Rules.bounds") (st := sBounds) (dfl := [])
  obtain ⟨fdRules_in_use, FRules_in_use⟩ := c.def_ 20 (x := "in_use") (p := ("Rules", some "in_use")) (qual := "Rules.in_use") (st := sInUse) (dfl := [])
  obtain ⟨fdRules_next_of_class, FRules_next_of_class⟩ := c.def_ 21 (x := "next_of_class") (p := ("Rules", some "next_of_class")) (qual := "Rules.next_of_class") (st := sNextC) (dfl := [])
  obtain ⟨fdRules_next_in_use, FRules_next_in_use⟩ := c.def_ 22 (x := "next_in_use") (p := ("Rules", some "next_in_use")) (qual := "Rules.next_in_use") (st := sNextU) (dfl := [])
  obtain ⟨fdRulesU_eqU, FRulesU_eqU⟩ := c.def_ 23 (x := "__eq__") (p := ("Rules", some "__eq__")) (qual := "Rules.__eq__") (st := sEqR) (dfl := [])
  obtain ⟨fd_law_share, F_law_share⟩ := c.def_ 24 (x := "_law_share") (p := ("_law_share", none)) (qual := "_law_share") (st := sLShare) (dfl := [])
  obtain ⟨fd_law_at, F_law_at⟩ := c.def_ 25 (x := "_law_at") (p := ("_law_at", none)) (qual := "_law_at") (st := sLAt) (dfl := [])
  obtain ⟨fd_law_right, F_law_right⟩ := c.def_ 26 (x := "_law_right") (p := ("_law_right", none)) (qual := "_law_right") (st := sLRight) (dfl := [])
  obtain ⟨fd_law_refused, F_law_refused⟩ := c.def_ 27 (x := "_law_refused") (p := ("_law_refused", none)) (qual := "_law_refused") (st := sLRef) (dfl := [])
  obtain ⟨fd_law_equal_right, F_law_equal_right⟩ := c.def_ 28 (x := "_law_equal_right") (p := ("_law_equal_right", none)) (qual := "_law_equal_right") (st := sLEq) (dfl := [])
  obtain ⟨fd_law_planted_right, F_law_planted_right⟩ := c.def_ 29 (x := "_law_planted_right") (p := ("_law_planted_right", none)) (qual := "_law_planted_right") (st := sLPlant) (dfl := [])
  obtain ⟨fd_law_capacity_refused, F_law_capacity_refused⟩ := c.def_ 30 (x := "_law_capacity_refused") (p := ("_law_capacity_refused", none)) (qual := "_law_capacity_refused") (st := sLCap) (dfl := [])
  obtain ⟨fdlaw, Flaw⟩ := c.def_ 31 (x := "law") (p := ("law", none)) (qual := "law") (st := sLaw) (dfl := [])
  have ER : Errs progOf K mg := {
      iBadStyle := c.init X G 0 0
      iBadSum := c.init X G 1 1
      iBadCapacity := c.init X G 2 2
      mS := (He.free_ok X G (c.fact 43 (f := .free "super") rfl))
      hP := rfl }
  have RC : RulesC K mg (He.ga K "Rules") (He.ma K (He.ga K "Rules") "__init__") := ⟨(He.cls_ok (c.fact 44 (f := .cls "Rules") rfl)), (He.mkr_ok (c.fact 45 (f := .mkr "Rules") rfl)), (He.glo_ok X G (c.fact 46 (f := .glo "Rules") rfl)), (by
    intro f hf
    simp only [List.mem_cons, List.not_mem_nil, or_false] at hf
    rcases hf with rfl | rfl | rfl | rfl | rfl | rfl | rfl
    · exact (He.noat_ok (c.fact 47 (f := .noat "Rules" "own_shares") rfl))
    · exact (He.noat_ok (c.fact 48 (f := .noat "Rules" "cap_share") rfl))
    · exact (He.noat_ok (c.fact 49 (f := .noat "Rules" "low_share") rfl))
    · exact (He.noat_ok (c.fact 50 (f := .noat "Rules" "style") rfl))
    · exact (He.noat_ok (c.fact 51 (f := .noat "Rules" "cap") rfl))
    · exact (He.noat_ok (c.fact 52 (f := .noat "Rules" "low") rfl))
    · exact (He.noat_ok (c.fact 53 (f := .noat "Rules" "root") rfl)))⟩
  have II : InsIs K (He.ga K "Rules") := insB_ok (c.own 3 (f := insB "Rules"))
  have EC : EqC K (He.ga K "Rules") (He.ma K (He.ga K "Rules") "__eq__") := eqB_ok (c.own 4 (f := eqB "Rules"))
  obtain ⟨nf, nft⟩ := nfB_ok (c.own 5 (f := nfB "Rules"))
  obtain ⟨ds0, vd0, bI⟩ := FunD.binds1 (ps := ["self", "style", "cap", "low", "root"]) FRulesU_initU 5 1 (by simp) rfl fun T kV doc pm an cdv ct us its hl hi => match us, its, hl, hi with | [_, _, _, _, _], [_], _, _ => ⟨_, rfl, rfl⟩
  cases vd0
  obtain ⟨ds3, dI, bI3⟩ := FunD.binds1 (ps := ["self", "style", "cap", "low", "root"]) FRulesU_initU 4 0 (by simp) rfl fun T kV doc pm an cdv ct us its hl hi => match us, its, hl, hi with | [_, _, _, _], [_], _, _ => ⟨_, rfl, rfl⟩
  have bE := FunD.bindsN (ps := ["self", "other"]) FRulesU_eqU fun _ _ _ _ _ _ us hl => match us, hl with | [_, _], _ => rfl
  have TE2 : TwoE K := ⟨(He.exm_ok (c.fact 54 (f := .exm "BadStyle" "BadStyle" true) rfl)), (He.exm_ok (c.fact 55 (f := .exm "BadSum" "BadStyle" false) rfl)), (He.exm_ok (c.fact 56 (f := .exm "BadSum" "BadSum" true) rfl))⟩
  have xS : XfC K (He.ga K "BadStyle") := (let ⟨_, I⟩ := ER.iBadStyle; I.xf)
  have xU : XfC K (He.ga K "BadSum") := (let ⟨_, I⟩ := ER.iBadSum; I.xf)
  have xC : XfC K (He.ga K "BadCapacity") := (let ⟨_, I⟩ := ER.iBadCapacity; I.xf)
  have TATOMS := Hx.tupB_ok (x := "ATOMS") (vs := ATOMSL.map V.str) X G (c.own 6 (f := Hx.tupB "ATOMS" (ATOMSL.map V.str)))
  have TFACTORED := Hx.tupB_ok (x := "FACTORED") (vs := FACTL.map V.str) X G (c.own 7 (f := Hx.tupB "FACTORED" (FACTL.map V.str)))
  have TSTYLES := Hx.tupB_ok (x := "STYLES") (vs := STYL.map V.str) X G (c.own 8 (f := Hx.tupB "STYLES" (STYL.map V.str)))
  have e := hfa.symm.trans (He.glo_ok X G (c.fact 57 (f := .glo "law") rfl))
  cases e
  have b := FunD.bindsA (ps := ["_law_script"]) Flaw fun _ _ _ _ _ _ us hl => match us, hl with | [_], _ => rfl
  refine ⟨fdlaw, fun s v => b s [v] rfl, fun base TB => ?_⟩
  obtain ⟨_, _, hc⟩ := Hx.tabB_ok (p := pT) X tb
  have hcode := hc F_law_capacity_refused
  have G_law_draw := ok_draw (P := progOf) (w := w) (K := K) (mg := mg) (base := base) (F := F_law_draw) (mInt := (He.free_ok X G (c.fact 0 (f := .free "int") rfl))) (mLen := (He.free_ok X G (c.fact 1 (f := .free "len") rfl)))
  have G_law_bag := ok_bag (P := progOf) (w := w) (K := K) (mg := mg) (base := base) (F := F_law_bag) (mInt := (He.free_ok X G (c.fact 0 (f := .free "int") rfl))) (mList := (He.free_ok X G (c.fact 2 (f := .free "list") rfl)))
  have Gnumber_of := ok_number_of (P := progOf) (w := w) (K := K) (mg := mg) (base := base) (F := Fnumber_of) (mLen := (He.free_ok X G (c.fact 1 (f := .free "len") rfl))) (mInt := (He.free_ok X G (c.fact 0 (f := .free "int") rfl))) (gMF := (Hx.intG X G (c.fact 3 (f := .int "MOST_FIGURES" 30) rfl)))
  have Gterm_of := ok_term_of (P := progOf) (w := w) (K := K) (mg := mg) (base := base) (F := Fterm_of) (FN := Fnumber_of) (GN := Gnumber_of) (gN := (He.glo_ok X G (c.fact 4 (f := .glo "number_of") rfl))) (mLen := (He.free_ok X G (c.fact 1 (f := .free "len") rfl))) (gMF := (Hx.intG X G (c.fact 5 (f := .int "MOST_FACTOR" 12) rfl))) (gA := TATOMS.1) (gF := TFACTORED.1) (tA := TATOMS.2) (tF := TFACTORED.2)
  have Gsum_of := ok_sum_of (P := progOf) (w := w) (K := K) (mg := mg) (base := base) (F := Fsum_of) (FT := Fterm_of) (GT := Gterm_of) (gT := (He.glo_ok X G (c.fact 6 (f := .glo "term_of") rfl))) (mLen := (He.free_ok X G (c.fact 1 (f := .free "len") rfl))) (mTuple := (He.free_ok X G (c.fact 7 (f := .free "tuple") rfl))) (gMT := (Hx.intG X G (c.fact 8 (f := .int "MOST_TERMS" 4) rfl)))
  have Gdivided := ok_divided (P := progOf) (w := w) (K := K) (mg := mg) (base := base) (F := Fdivided) (FN := Fnumber_of) (FS := Fsum_of) (GN := Gnumber_of) (GS := Gsum_of) (gN := (He.glo_ok X G (c.fact 4 (f := .glo "number_of") rfl))) (gS := (He.glo_ok X G (c.fact 9 (f := .glo "sum_of") rfl))) (mLen := (He.free_ok X G (c.fact 1 (f := .free "len") rfl)))
  have Gis_whole := ok_is_whole (P := progOf) (w := w) (K := K) (mg := mg) (base := base) (F := Fis_whole) (mIsi := (He.free_ok X G (c.fact 10 (f := .free "isinstance") rfl))) (mInt := (He.free_ok X G (c.fact 0 (f := .free "int") rfl))) (mBool := (He.free_ok X G (c.fact 11 (f := .free "bool") rfl)))
  have Gcommon := ok_common (P := progOf) (w := w) (K := K) (mg := mg) (base := base) (F := Fcommon)
  have Gshare_at := ok_share_at (P := progOf) (w := w) (K := K) (mg := mg) (base := base) (F := Fshare_at)
  have Gleast_from := ok_least_from (P := progOf) (w := w) (K := K) (mg := mg) (base := base) (F := Fleast_from) (mMax := (He.free_ok X G (c.fact 12 (f := .free "max") rfl)))
  have Gneed_capacity := ok_need_capacity (P := progOf) (w := w) (K := K) (mg := mg) (base := base) (F := Fneed_capacity) (FW := Fis_whole) (GW := Gis_whole) (gW := (He.glo_ok X G (c.fact 13 (f := .glo "is_whole") rfl))) (ER := ER)
  have Gread_share := ok_read_share (P := progOf) (w := w) (K := K) (mg := mg) (base := base) (F := Fread_share) (FD := Fdivided) (GD := Gdivided) (gD := (He.glo_ok X G (c.fact 14 (f := .glo "divided") rfl))) (ER := ER) (mIsi := (He.free_ok X G (c.fact 10 (f := .free "isinstance") rfl))) (mStr := (He.free_ok X G (c.fact 15 (f := .free "str") rfl))) (mAny := (He.free_ok X G (c.fact 16 (f := .free "any") rfl))) (gMS := (Hx.intG X G (c.fact 17 (f := .int "MOST_SHARE" 6) rfl)))
  have Gline_of := ok_line_of (P := progOf) (w := w) (K := K) (mg := mg) (base := base) (F := Fline_of) (mSum := (He.free_ok X G (c.fact 18 (f := .free "sum") rfl)))
  have GRulesU_initU := ok_Rules_init (P := progOf) (w := w) (K := K) (mg := mg) (base := base) (F := FRulesU_initU) (RC := RC) (FS := Fread_share) (FL := Fline_of) (GS := Gread_share) (GL := Gline_of) (gRS := (He.glo_ok X G (c.fact 19 (f := .glo "read_share") rfl))) (gL := (He.glo_ok X G (c.fact 20 (f := .glo "line_of") rfl))) (ER := ER) (mIsi := (He.free_ok X G (c.fact 10 (f := .free "isinstance") rfl))) (mStr := (He.free_ok X G (c.fact 15 (f := .free "str") rfl))) (gS := TSTYLES.1) (tS := TSTYLES.2)
  have GRules_cap_at := ok_Rules_cap_at (P := progOf) (w := w) (K := K) (mg := mg) (base := base) (F := FRules_cap_at) (RC := RC) (FN := Fneed_capacity) (FA := Fshare_at) (GN := Gneed_capacity) (GA := Gshare_at) (gN := (He.glo_ok X G (c.fact 21 (f := .glo "need_capacity") rfl))) (gA := (He.glo_ok X G (c.fact 22 (f := .glo "share_at") rfl)))
  have GRules_low_at := ok_Rules_low_at (P := progOf) (w := w) (K := K) (mg := mg) (base := base) (F := FRules_low_at) (RC := RC) (FN := Fneed_capacity) (FA := Fshare_at) (GN := Gneed_capacity) (GA := Gshare_at) (gN := (He.glo_ok X G (c.fact 21 (f := .glo "need_capacity") rfl))) (gA := (He.glo_ok X G (c.fact 22 (f := .glo "share_at") rfl)))
  have GRules_bounds := ok_Rules_bounds (P := progOf) (w := w) (K := K) (mg := mg) (base := base) (F := FRules_bounds) (RC := RC) (FA := Fshare_at) (GA := Gshare_at) (gA := (He.glo_ok X G (c.fact 22 (f := .glo "share_at") rfl)))
  have GRules_in_use := ok_Rules_in_use (P := progOf) (w := w) (K := K) (mg := mg) (base := base) (F := FRules_in_use) (RC := RC) (FN := Fneed_capacity) (FB := FRules_bounds) (GN := Gneed_capacity) (GB := GRules_bounds) (gN := (He.glo_ok X G (c.fact 21 (f := .glo "need_capacity") rfl))) (mB := (He.meth_ok (c.fact 23 (f := .meth "Rules" "bounds") rfl)))
  have GRules_next_of_class := ok_Rules_next_of_class (P := progOf) (w := w) (K := K) (mg := mg) (base := base) (F := FRules_next_of_class) (RC := RC) (FL := Fleast_from) (FB := FRules_bounds) (GL := Gleast_from) (GB := GRules_bounds) (gL := (He.glo_ok X G (c.fact 24 (f := .glo "least_from") rfl))) (mB := (He.meth_ok (c.fact 23 (f := .meth "Rules" "bounds") rfl))) (mMax := (He.free_ok X G (c.fact 12 (f := .free "max") rfl))) (mMin := (He.free_ok X G (c.fact 25 (f := .free "min") rfl))) (mInt := (He.free_ok X G (c.fact 0 (f := .free "int") rfl)))
  have GRules_next_in_use := ok_Rules_next_in_use (P := progOf) (w := w) (K := K) (mg := mg) (base := base) (F := FRules_next_in_use) (RC := RC) (FN := Fneed_capacity) (FC := Fcommon) (FX := FRules_next_of_class) (GN := Gneed_capacity) (GC := Gcommon) (GX := GRules_next_of_class) (gN := (He.glo_ok X G (c.fact 21 (f := .glo "need_capacity") rfl))) (gC := (He.glo_ok X G (c.fact 26 (f := .glo "common") rfl))) (mN := (He.meth_ok (c.fact 27 (f := .meth "Rules" "next_of_class") rfl))) (mRange := (He.free_ok X G (c.fact 28 (f := .free "range") rfl))) (mMin := (He.free_ok X G (c.fact 25 (f := .free "min") rfl))) (mInt := (He.free_ok X G (c.fact 0 (f := .free "int") rfl)))
  have GRulesU_eqU := ok_Rules_eq (P := progOf) (w := w) (K := K) (mg := mg) (base := base) (F := FRulesU_eqU) (RC := RC) (II := II) (mIsi := (He.free_ok X G (c.fact 10 (f := .free "isinstance") rfl)))
  have G_law_share := ok_law_share (P := progOf) (w := w) (K := K) (mg := mg) (base := base) (F := F_law_share) (FD := F_law_draw) (GD := G_law_draw) (gD := (He.glo_ok X G (c.fact 29 (f := .glo "_law_draw") rfl))) (mRange := (He.free_ok X G (c.fact 28 (f := .free "range") rfl))) (mInt := (He.free_ok X G (c.fact 0 (f := .free "int") rfl))) (mStr := (He.free_ok X G (c.fact 15 (f := .free "str") rfl)))
  have G_law_at := ok_law_at (P := progOf) (w := w) (K := K) (mg := mg) (base := base) (F := F_law_at) (mInt := (He.free_ok X G (c.fact 0 (f := .free "int") rfl)))
  have G_law_right := ok_law_right (P := progOf) (w := w) (K := K) (mg := mg) (base := base) (F := F_law_right) (RC := RC) (FA := F_law_at) (FC := FRules_cap_at) (FL := FRules_low_at) (FU := FRules_in_use) (GA := G_law_at) (GC := GRules_cap_at) (GL := GRules_low_at) (GU := GRules_in_use) (gA := (He.glo_ok X G (c.fact 30 (f := .glo "_law_at") rfl))) (mC := (He.meth_ok (c.fact 31 (f := .meth "Rules" "cap_at") rfl))) (mL := (He.meth_ok (c.fact 32 (f := .meth "Rules" "low_at") rfl))) (mU := (He.meth_ok (c.fact 33 (f := .meth "Rules" "in_use") rfl)))
  have G_law_refused := ok_law_refused (P := progOf) (w := w) (K := K) (mg := mg) (base := base) (F := F_law_refused) (RC := RC) (GI := GRulesU_initU) (bI := bI3) (dI := dI) (ER := ER) (TE2 := TE2) (xS := xS) (xU := xU)
  have G_law_equal_right := ok_law_equal_right (P := progOf) (w := w) (K := K) (mg := mg) (base := base) (F := F_law_equal_right) (RC := RC) (II := II) (EC := EC) (GI := GRulesU_initU) (GE := GRulesU_eqU) (bI := bI) (bI3 := bI3) (dI := dI) (bE := bE) (nf := nf) (nft := nft) (mInt := (He.free_ok X G (c.fact 0 (f := .free "int") rfl)))
  have G_law_planted_right := ok_law_planted_right (P := progOf) (w := w) (K := K) (mg := mg) (base := base) (F := F_law_planted_right) (FD := F_law_draw) (FN := FRules_next_in_use) (GD := G_law_draw) (gD := (He.glo_ok X G (c.fact 29 (f := .glo "_law_draw") rfl))) (RC := RC) (GI := GRulesU_initU) (GN := GRules_next_in_use) (mN := (He.meth_ok (c.fact 34 (f := .meth "Rules" "next_in_use") rfl))) (bI3 := bI3) (dI := dI) (mInt := (He.free_ok X G (c.fact 0 (f := .free "int") rfl))) (mStr := (He.free_ok X G (c.fact 15 (f := .free "str") rfl)))
  have G_law_capacity_refused := ok_law_capacity_refused (P := progOf) (w := w) (K := K) (mg := mg) (base := base) (F := F_law_capacity_refused) (RC := RC) (FC := FRules_cap_at) (FL := FRules_low_at) (FU := FRules_in_use) (FN := FRules_next_in_use) (GC := GRules_cap_at) (GL := GRules_low_at) (GU := GRules_in_use) (GN := GRules_next_in_use) (mC := (He.meth_ok (c.fact 31 (f := .meth "Rules" "cap_at") rfl))) (mL := (He.meth_ok (c.fact 32 (f := .meth "Rules" "low_at") rfl))) (mU := (He.meth_ok (c.fact 33 (f := .meth "Rules" "in_use") rfl))) (mN := (He.meth_ok (c.fact 34 (f := .meth "Rules" "next_in_use") rfl))) (ER := ER) (kk := (He.exm_ok (c.fact 35 (f := .exm "BadCapacity" "BadCapacity" true) rfl))) (xC := xC) (TB := TB) (hcode := hcode)
  exact ok_law (P := progOf) (w := w) (K := K) (mg := mg) (base := base) (F := Flaw) (FB := F_law_bag) (FD := F_law_draw) (FS := F_law_share) (FR := F_law_right) (FA := F_law_at) (FE := F_law_equal_right) (FP := F_law_planted_right) (FF := F_law_refused) (FC := F_law_capacity_refused) (FN := FRules_next_in_use) (GB := G_law_bag) (GD := G_law_draw) (GS := G_law_share) (GR := G_law_right) (GA := G_law_at) (GE := G_law_equal_right) (GP := G_law_planted_right) (GF := G_law_refused) (GC := G_law_capacity_refused) (RC := RC) (GI := GRulesU_initU) (GN := GRules_next_in_use) (mN := (He.meth_ok (c.fact 34 (f := .meth "Rules" "next_in_use") rfl))) (bI := bI) (gB := (He.glo_ok X G (c.fact 36 (f := .glo "_law_bag") rfl))) (gD := (He.glo_ok X G (c.fact 29 (f := .glo "_law_draw") rfl))) (gS := (He.glo_ok X G (c.fact 37 (f := .glo "_law_share") rfl))) (gR := (He.glo_ok X G (c.fact 38 (f := .glo "_law_right") rfl))) (gA := (He.glo_ok X G (c.fact 30 (f := .glo "_law_at") rfl))) (gE := (He.glo_ok X G (c.fact 39 (f := .glo "_law_equal_right") rfl))) (gP := (He.glo_ok X G (c.fact 40 (f := .glo "_law_planted_right") rfl))) (gF := (He.glo_ok X G (c.fact 41 (f := .glo "_law_refused") rfl))) (gC := (He.glo_ok X G (c.fact 42 (f := .glo "_law_capacity_refused") rfl))) (mRange := (He.free_ok X G (c.fact 28 (f := .free "range") rfl))) (mLen := (He.free_ok X G (c.fact 1 (f := .free "len") rfl))) (mInt := (He.free_ok X G (c.fact 0 (f := .free "int") rfl)))
end Pk
open PyProof.Rows PySem.Calls PySem.W PySem
theorem PySem.Challenge.cw_pagecode_k40_whole_rules_in_use_holds : PySem.Challenge.rw_pagecode_k40_whole_rules_in_use.Holds := by
  w_on; o_law
  refine HandSHeadRun.head_any (r := OpenLaw.row PySem.Challenge.rw_pagecode_k40_whole_rules_in_use) (q := view (OpenLaw.row PySem.Challenge.rw_pagecode_k40_whole_rules_in_use).prog [37]) (H := Pk.hkk) (ob := Pk.ob) (M := 20000) (loose := Pk.looseL) (d := HandSHeadRun.topDef (OpenLaw.row PySem.Challenge.rw_pagecode_k40_whole_rules_in_use).prog 37) (kwd := []) Pk.ob_eq
    (by kernel_rfl) (fun s => by kernel_rfl) Pk.run_top (by kernel_rfl) (by kernel_rfl) (by kernel_rfl) (by rfl) (by first | assumption | decide +kernel) (by decide +kernel) ⟨rfl, rfl, rfl, rfl, rfl, by decide +kernel⟩ ?hw ?hc
  case hw => w_witness2
  case hc =>
    refine LamX.walk_ofTsE (l := PySem.Challenge.rw_pagecode_k40_whole_rules_in_use) (n := 63) (k := 9) (x := "_law_script") (CX := fun _ => L2.CX0) rfl (by decide) (by kernel_rfl) ⟨rfl, by decide, by decide⟩ ?F (fun _ _ _ _ _ z => z)
    intro w mg fa h Y G hmg0
    obtain ⟨K, Pt, KX, hP, tb, c⟩ := Y; have hmg : mg ("law" : PySem.Str) = some (.ref fa) := by
      have e : (HandSHeadRun.topDef (OpenLaw.row PySem.Challenge.rw_pagecode_k40_whole_rules_in_use).prog 37).name = ("law" : PySem.Str) := by kernel_rfl
      rw [← e]
      exact hmg0
    obtain ⟨fd, hb, hF⟩ := Pk.facts (w := w) KX G hmg c tb
    obtain ⟨h1, h2, _⟩ := Hx.tabB_ok (p := Pk.pT) KX tb
    refine ⟨K, KX, fd, [(Hx.cAd K Pk.pT, Pt)], Pk.spLaw K Pt, fun p hp => ?_, fun p hp => ?_, fun p hp => ?_, hb, fun H a ns hl _ hT hS => ⟨a, ns, rfl, hS, hl, hT _ (List.mem_singleton.mpr rfl), fun _ => rfl⟩, fun base _ _ hTB => hF base (hTB _ (List.mem_singleton.mpr rfl))⟩
    · rw [(List.mem_singleton.mp hp)]
      exact hP
    · rw [(List.mem_singleton.mp hp)]
      exact h2
    · rw [(List.mem_singleton.mp hp)]
      exact h1
