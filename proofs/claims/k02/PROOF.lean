import PyProof.Rows.All
import Wide.All
import OpenK.AllK
import Wide.FinOn
import HandS.ForMost
import HandS.Flow
import HandS.Exc
import HandS.TryOnly
import HandS.ExcOwn
import HandS.Lambda
import HandS.HeadHook1
import HandS.ExcIs
import HandS.Deep
import HandS.TupAny
import HandS.Style
import HandS.IsInst
import HandS.Defaults
import HandS.Head0
import HandS.Head1
import HandS.Head2
import HandS.HeadEnd
import HandS.HeadHook2
import HandS.HeadHook3
import HandS.HeadHook4
import HandS.HeadWalk
import KE.KExcSuper
import KE.KSuper
import HandS.ExcInit
import PyProof.EqKinds
import HandS.Zip
import HandS.Dict
import KE.KExcIs
import HandS.ExcField
import HandS.Star
import HandS.CallLocal
import PySem.Challenge.RW_labelclocks_k02_tokens_of_texts
set_option Elab.async false
set_option linter.all false
set_option maxRecDepth 100000
set_option maxHeartbeats 0
namespace DL
open PySem PySem.Spec PyProof.Rows L2
/-- the defs of the laws that make lambdas -/
def lamNames : List Str := (["_law_bn_linked", "_law_bn_made", "_law_cb_rank", "_law_ch_words", "_law_chains_right", "_law_cp_things", "_law_cp_words", "_law_cut_right", "_law_ended", "_law_la_refuses", "_law_labels_right", "_law_layout_right", "_law_lb_refuses", "_law_lc_refuses", "_law_ld_areas", "_law_le_bounds", "_law_lg_forms", "_law_li_forms", "_law_line", "_law_makings_right", "_law_memory_right", "_law_nodes_right", "_law_one_refused", "_law_pa_calls", "_law_passes_right", "_law_questions_right", "_law_rb_held", "_law_rb_index_told", "_law_read_right", "_law_refused", "_law_refused_right", "_law_revalued_right", "_law_sizes_right", "_law_sums_right", "_law_to_refused", "_law_told_right", "_law_tries_right", "_law_tx_case", "_law_undone_right", "_law_units_line", "_law_unlike", "_law_wo_chosen", "_law_wo_passed", "_law_words_right", "_law_wrong_values", "copied_block", "kept", "law", "moved_step", "threaded", "words_for"] : List String).map fun x => Str.ofString x
def isDefK (K : PySem.W.Frag) (x : Str) : Bool := match PySem.W.nsIn K mainGlobals x with
  | some (some (.ref a)) => (match K.lookup a with
    | some ⟨_, _, .func _, _⟩ => true
    | _ => false)
  | _ => false
/-- the tables of the code objects of lambdas, by their makers -/
def tbOf (K : PySem.W.Frag) : List (Addr × Str) := (lamNames.filter (isDefK K)).map fun x => ((He.cT K (x, none)).2, x ++ (".<locals>.<lambda>" : Str))
end DL
/-! the __init__ of an own class of errors: super().__init__('..'), then self.f = f for each parameter -/
namespace DX
open PySem PySem.Spec PyProof.Rows L2
/-- what the written part says of C's own __init__ -/
structure IniOk (P : Program) (K : PySem.W.Frag) (C f : Addr) (ps : List Str) (fd : FuncData) : Prop where
  oex : OexC K C
  ii : PySem.W.findIn K (.ref C) "__init__" = some (some (.ref f))
  it : PySem.W.typeIn K (.ref f) = some (.type "function")
  fn : ∃ (name qual : Str) (params : Arguments) (body : List Stmt) (scope : Scope) (dV kV doc pm : Value) (an : Option Addr) (cda : Addr) (ct : Value) (cc : Addr) (oc : Value) (od : Option Addr) (osl : Array (Option Value)),
    fd = PySem.W.ksFn name qual params body scope dV kV doc pm an (.ref cda) ct cc ∧ K.lookup f = some ⟨oc, od, .func fd, osl⟩ ∧ PySem.W.codeIn K (.ref cda) qual = true ∧
    scope.kind = .function ∧ scope.isCoroutine = false ∧ scope.isGenerator = false ∧ (∀ x ∈ scope.names, x.2 ≠ .cell) ∧ (∀ x ∈ ("self" : Str) :: ps, scope.names.lookup x = some .local) ∧
    scope.names.lookup ("super" : Str) = some .globalImplicit ∧ scope.names.lookup ("__class__" : Str) = some .free ∧ (∀ x, scope.names.lookup x = some .free → x = "__class__") ∧
    (∃ ar, (params.posonlyargs ++ params.args).head? = some ar ∧ ar.arg = "self") ∧
    (∃ ccl cdd vs ccs file tf, K.lookup cda = some ⟨ccl, cdd, .fields vs, ccs⟩ ∧ vs[2]? = some (.str file tf) ∧ ((P.main.file : Str) == file) = true) ∧
    (∃ cl cld csl, K.lookup cc = some ⟨cl, cld, .cell (some (.ref C)), csl⟩) ∧
    (∃ p0 p1 p2 p3 p4 p5 m j tail, body = .Expr (.Call (.Attribute (.Call (.Name "super" p0) [] [] p1) "__init__" p2) [.Constant (.str m) j p3] [] p4) p5 :: tail ∧ (p2.endLine == p4.line) = true ∧
      Paired (fun (p : Str) (st : Stmt) => ∃ q1 q2 q3 q4, st = .Assign [.Attribute (.Name "self" q1) p q2] (.Name p q3) q4) ps tail) ∧
    ∀ us : List Value, us.length = ps.length + 1 → bindArgs fd ⟨us, []⟩ = pure ((("self" : Str) :: ps).zip us)
  nd : (("self" : Str) :: ps).Nodup
  dbg : ∀ x ∈ ("self" : Str) :: ps, (x == ("__debug__" : Str)) = false ∧ (x == ("__classdict__" : Str)) = false
  ne : ps ≠ []
  few : ps.length ≤ 20
  sub : PySem.W.mroIn K C (.ref C) = some true
  sup : PySem.W.nsIn K mainGlobals "super" = some none
  supI : PySem.W.ks_superIn K C C "__init__" = some (some (.builtin "ValueError.__init__"))
  tp : PySem.W.nsIn K cStatics "thirdparty.any" = some none
  ve : PySem.W.subIn K (.ref C) (.type "ValueError") = some true
  top : (P.main.scope.names.lookup ("super" : Str)).isSome = false
  no : ∀ x ∈ ps, PySem.W.findIn K (.ref C) x = some none
/-- the reading of the assignments -/
def Post (a C : Addr) (H : Hp) (fl : List (Str × V)) (H' : Hp) : Prop := (fl = [] ∧ H' = H) ∨ ∃ dx, H dx = none ∧ dx ≠ a ∧ H' a = some (exo a C (some dx)) ∧ H' dx = some (exd dx fl) ∧ ∀ b, b ≠ a → b ≠ dx → H' b = H b
theorem tail_ok {X : Cx} {a C : Addr} {H : Hp} (T : OexC X.K C) (ea : H a = some (exo a C none)) (h0 : X.N[0]? = some ("self" : Str)) (v0 : Vis X.env.scope "self") :
    ∀ (ps : List Str) (st : List Stmt) (j : Nat), Paired (fun (p : Str) (st : Stmt) => ∃ q1 q2 q3 q4, st = .Assign [.Attribute (.Name "self" q1) p q2] (.Name p q3) q4) ps st →
      (∀ i p, ps[i]? = some p → X.N[j + i]? = some p ∧ Vis X.env.scope p ∧ (p == ("__debug__" : Str)) = false ∧ (p == ("__classdict__" : Str)) = false ∧ PySem.W.findIn X.K (.ref C) p = some none) →
      ∃ t, PSs X st t ∧ ∀ (D : Ends) (σ : L2.St) (fl : List (Str × V)) (ys : List V) (H' : Hp), σ[0]? = some (some (.ref a)) → ys.length = ps.length → (∀ i y, ys[i]? = some y → σ[j + i]? = some (some y)) → fl.length + ps.length ≤ 900 → Post a C H fl H' →
        (∀ H'', Post a C H ((ps.zip ys).reverse ++ fl) H'' → D.nx σ H'') → t D σ H'
  | [], _, j, .nil, hp => ⟨_, pss_nil, fun D σ fl ys H' _ hl _ _ po h => by
      cases ys with
      | nil => exact h H' po
      | cons _ _ => cases hl⟩
  | p :: ps, _, j, .cons (b := st) hst hr, hp => by
    obtain ⟨q1, q2, q3, q4, rfl⟩ := hst
    obtain ⟨n1, v1, d1, d2, no⟩ := hp 0 p rfl
    obtain ⟨t, ht, q⟩ := tail_ok T ea h0 v0 ps _ (j + 1) hr fun i p' e => by
      have z := hp (i + 1) p' (by simpa using e)
      rw [show j + 1 + i = j + (i + 1) by omega]
      exact z
    refine ⟨_, pss_cons (ps_ost (pe_var h0 v0) (pe_var n1 v1 d1 d2)) ht, fun D σ fl ys H' s0 hl hy few po h => ?_⟩
    cases ys with
    | nil => cases hl
    | cons y ys =>
      refine ⟨y, hy 0 y rfl, .ref a, s0, a, C, rfl, T, no, ?_⟩
      have next : ∀ H'', Post a C H ((p, y) :: fl) H'' → t D σ H'' := fun H'' po' => by
        refine q D σ ((p, y) :: fl) ys H'' s0 (by simpa using hl) (fun i z e => ?_) (by simp at few ⊢; omega) po' fun H3 po3 => h H3 (by simpa using po3)
        rw [show j + 1 + i = j + (i + 1) by omega]
        exact hy (i + 1) z (by simpa using e)
      rcases po with ⟨rfl, rfl⟩ | ⟨dx, g1, g2, g3, g4, g5⟩
      · refine .inl ⟨ea, fun dx n ne => next _ (.inr ⟨dx, n, ne, upd_same, ?_, fun b h1 h2 => ?_⟩)⟩
        · rw [upd_ne ne, upd_same]
        · rw [upd_ne h1, upd_ne h2]
      · refine .inr ⟨dx, fl, g3, g4, by simp at few; omega, next _ (.inr ⟨dx, g1, g2, ?_, upd_same, fun b h1 h2 => ?_⟩)⟩
        · rw [upd_ne (Ne.symm g2)]; exact g3
        · rw [upd_ne h2]; exact g5 b h1 h2
/-- what C's __init__ promises -/
def iniSp (C : Addr) (ps : List Str) : Sp := fun vs H Q _ => ∃ (a : Addr) (ys : List V), vs = .ref a :: ys ∧ ys.length = ps.length ∧ H a = some (exo a C none) ∧
  ∀ dx H2, H dx = none → dx ≠ a → H2 a = some (exo a C (some dx)) → H2 dx = some (exd dx (ps.zip ys).reverse) → (∀ b, b ≠ a → b ≠ dx → H2 b = H b) → Q .non H2
theorem lookup_nodup {α : Type} {x : Str} {v : α} : ∀ {l : List (Str × α)}, (l.map (·.1)).Nodup → (x, v) ∈ l → l.lookup x = some v
  | [], _, h => by cases h
  | (y, w) :: l, nd, h => by
    simp only [List.map_cons, List.nodup_cons] at nd
    rcases List.mem_cons.mp h with e | h2
    · cases e
      simp [List.lookup]
    · have ne : (x == y) = false := by
        simp only [beq_eq_false_iff_ne, ne_eq]
        intro z
        subst z
        exact nd.1 (List.mem_map.mpr ⟨(x, v), h2, rfl⟩)
      simp only [List.lookup, ne]
      exact lookup_nodup nd.2 h2
theorem zip_rev_lookup {ps : List Str} {us : List Value} {i : Nat} {x : Str} {u : Value} (nd : ps.Nodup) (h1 : ps[i]? = some x) (h2 : us[i]? = some u) (hl : us.length = ps.length) : (ps.zip us).reverse.lookup x = some u := by
  refine lookup_nodup ?_ ?_
  · rw [List.map_reverse, List.map_fst_zip (by omega)]
    exact (List.reverse_perm ps).nodup_iff.mpr nd
  · refine List.mem_reverse.mpr (List.mem_of_getElem? (i := i) ?_)
    rw [List.getElem?_zip_eq_some]
    exact ⟨h1, h2⟩
/-- the context of the body -/
def cxI (CX : CXT) (P : Program) (w : World) (K : PySem.W.Frag) (mg : Str → Option Value) (base : Heap) (N : List Str) (qual : Str) (scope : Scope) (f : Addr) (cd : Value) (cc : Addr) (A : Around) (outer : List Env) (s : Shared) (H : Hp) (E : XK) : Cx where
  prog := P
  w := w
  K := K
  mg := mg
  base := base
  A := A.deeper (PySem.W.ksEnv qual scope s.heap.objs.size f cd cc)
  N := N
  s_0 := s
  H_0 := H
  env := PySem.W.ksEnv qual scope s.heap.objs.size f cd cc
  outer := outer
  stack := PySem.W.ksEnv qual scope s.heap.objs.size f cd cc :: outer
  ex := []
  calm := true
  fn := fun _ => false
  pn := []
  xe := fun e s' => wpAny (model P w) (A.deeper (PySem.W.ksEnv qual scope s.heap.objs.size f cd cc)) (leaving (PySem.W.ksEnv qual scope s.heap.objs.size f cd cc) e) (fun _ s'' => CX outer H s E e s'') (fun e' s'' => CX outer H s E e' s'') s'
section
variable {X : Cx} {pins : List (Addr × Obj)} {σ : L2.St} {H : Hp} {s : Shared} {a C : Addr}
open PySem.W PySem.Calls in
/-- the method-wrapper of ValueError.__init__ is called -/
theorem call_mw {u : Addr} {rest : List Value} {Q : Value → Shared → Prop} {E : Value → Shared → Prop} (T : OexC X.K C) (I : Inv X pins σ H s) (e : H a = some (exo a C none)) (hu : s.heap.get? u = some (kxs_mw "ValueError.__init__" a)) (hl : rest.length ≤ sizeLine)
    (h : ∀ s', Inv X pins σ H s' → Q .none s') : wpAny (model X.prog X.w) X.A (call (.ref u) rest) Q E s := by
  obtain ⟨nm, q, N, bs, bm, sn, sub, ab, col, dd, k0, k1, k2, k3, k5, hC, hbm⟩ := T.cls
  obtain ⟨t1, he⟩ := exo_at I.hok e
  have hC := I.kIn _ _ hC
  obtain ⟨hh, g, d, tk, os⟩ := s
  have he' : hh.get? a = some (excRec (.ref C) t1 none .none .none (.bool false)) := he
  refine wpAny_call (codeAny_of_tree ?_)
  show wpAny _ X.A.in1 (callAny (.ref u) ⟨rest, []⟩) _ _ _
  simp only [callAny]
  refine wpAny_bind (wpAny_load hu ?_)
  simp only [kxs_mw, show (Value.type "method-wrapper" == Value.type "method" || Value.type "method-wrapper" == Value.type "builtin_function_or_method" || Value.type "method-wrapper" == Value.type "method-wrapper") = true by decide, if_true]
  refine KFB.if_so (by decide) ?_
  refine wpAny_bind (check_bound_init PySem.F.excBase_ValueError.toExcCallFacts hC he rfl ?_)
  refine wpAny_bind (wpAny_pure (wpAny_pure ?_))
  refine ⟨plainId_quiet PySem.F.excBase_ValueError.init.plain _, codeAny_builtin PySem.F.excBase_ValueError.initEntry ?_⟩
  refine exc_init_tree (cls := .ref C) (t0 := t1) (dv := none) (c2 := .none) (c3 := .none) (b4 := .bool false) he' hl fun h' k hx _ => ?_
  have J := I.write (t' := tk) (x := a) (e := a) (o := exo a C none) (by rw [e]; exact True.intro) (.inl rfl) k ⟨_, hx⟩ (exo_ok hx)
  have eu : upd H a (exo a C none) = H := by
    funext b
    by_cases hb : b = a
    · rw [hb, upd_same, e]
    · rw [upd_ne hb]
  rw [eu] at J
  exact h _ J
end
end DX
namespace DX
open PySem PySem.Spec PyProof.Rows L2
theorem ini_start {CX : CXT} {P : Program} {w : World} {K : PySem.W.Frag} {mg : Str → Option Value} {base : Heap} {N : List Str} {qual : Str} {scope : Scope} {f : Addr} {cd : Value} {cc : Addr} {A : Around} {outer : List PySem.Env} {s : Shared} {h₀ : Heap} {tk : Nat} {H : Hp} {E : XK} {us : List Value} {vs : List V} {C : Addr}
    (hk : scope.kind = .function) (hloc : ∀ x ∈ N, scope.names.lookup x = some .local) (hfree : ∀ x, scope.names.lookup x = some .free → x = "__class__") (hcell : ∀ x ∈ scope.names, x.2 ≠ .cell) (nd : N.Nodup)
    (lc : ∃ cl cld csl, K.lookup cc = some ⟨cl, cld, .cell (some (.ref C)), csl⟩)
    (hd : A.handled = none) (e0 : Env0 P w K mg base A outer s H) (hl : vs.length = N.length) (r : Vals vs us)
    (hns : h₀.Ns s.heap.objs.size (fun x => (N.zip us).reverse.lookup x)) (hk₀ : ∀ b o, s.heap.get? b = some o → h₀.get? b = some o) :
    Inv (cxI CX P w K mg base N qual scope f cd cc A outer s H E) [] (vs.map some) H ⟨h₀, s.gens, s.drawn, tk, s.os⟩ := by
  have noA : ∀ b : Addr, b ∉ (cxI CX P w K mg base N qual scope f cd cc A outer s H E).ex := fun b z => absurd (show b ∈ ([] : List Addr) from z) (by simp)
  obtain ⟨cl, cld, csl, lc⟩ := lc
  have lcb := e0.mod.kin _ _ lc
  have cells : ∀ (x : Str) (c : Addr), (cxI CX P w K mg base N qual scope f cd cc A outer s H E).env.cells.lookup x = some c → x = "__class__" ∧ c = cc := fun x c e => by
    have e2 : List.lookup x [(("__class__" : Str), cc)] = some c := e
    simp only [List.lookup] at e2
    split at e2
    · rename_i h
      cases e2
      exact ⟨beq_iff_eq.mp h, rfl⟩
    · cases e2
  refine ⟨⟨e0.mod, hk, rfl, rfl, Nat.le_refl _, fun y z c h1 h2 => ?_, fun y hy => ?_, fun y c z _ => absurd z (by simp [cxI]), fun _ => hd, Around.frames_deeper e0.frames, .inr ⟨rfl, rfl⟩, fun b z => absurd z (noA b), e0.bs, e0.bsz, fun b _ _ => noA b, fun b z => absurd z (noA b), e0.funs, e0.frf⟩,
    rfl, e0.bare, Un.kept hk₀, ⟨_, hns, fun i y v h1 h2 h3 => ?_⟩, fun y c h => ?_, e0.hok.fresh (Nat.le_refl _), fun y c h => ?_, fun p hp => absurd (show p ∈ ([] : List (Addr × Obj)) from hp) (by simp), e0.hok.kept hk₀, ?_⟩
  · rw [(cells y c h1).1, (cells z c h2).1]
  · have hy : scope.names.lookup y = some .cell ∨ scope.names.lookup y = some .free := hy
    rcases hy with hy | hy
    · exact absurd rfl (hcell _ (PySem.mem_of_lookup hy))
    · rw [hfree y hy]
      exact ⟨cc, rfl⟩
  · have hi : ∃ u, us[i]? = some u ∧ RelV v u := by
      rw [List.getElem?_map] at h2
      cases e : vs[i]? with
      | none => rw [e] at h2; cases h2
      | some a => rw [e] at h2; cases h2; exact r.get e
    obtain ⟨u, hu, rv⟩ := hi
    exact ⟨u, rv, .inl ⟨hloc y (List.mem_of_getElem? h1), zip_rev_lookup nd h1 hu (by rw [← r.length, hl])⟩⟩
  · obtain ⟨_, rfl⟩ := cells y c h
    exact ⟨_, _, hk₀ _ _ (e0.bs _ _ lcb).1, rfl⟩
  · obtain ⟨_, rfl⟩ := cells y c h
    exact (e0.bs _ _ lcb).2
  · show (vs.map some).length = N.length
    rw [List.length_map, hl]
theorem hev (env : PySem.Env) (p0 p1 p2 p3 p4 : Pos) (m : Str) (j : Nat) (h : (p2.endLine == p4.line) = true) : ∃ pl, eval (.Call (.Attribute (.Call (.Name "super" p0) [] [] p1) "__init__" p2) [.Constant (.str m) j p3] [] p4) env = (do
      let ov ← attributeBase (.Call (.Name "super" p0) [] [] p1) "__init__" env (eval (.Call (.Name "super" p0) [] [] p1) env)
      standAt p2.atName
      let (f, first) ← holding [ov] (getMethod ov "__init__" pl)
      callWith p4 f first (backTo p4 (starEach [.Constant (.str m) j p3] env)) []) := by
  refine ⟨(do return (← importBound (.Call (.Name "super" p0) [] [] p1) env).getD true), ?_⟩
  have e : eval (.Call (.Attribute (.Call (.Name "super" p0) [] [] p1) "__init__" p2) [.Constant (.str m) j p3] [] p4) env = (do
      let ov ← attributeBase (.Call (.Name "super" p0) [] [] p1) "__init__" env (eval (.Call (.Name "super" p0) [] [] p1) env)
      standAt p2.atName
      methodCall (.Call (.Name "super" p0) [] [] p1) "__init__" p2 p4 env ov 1 (backTo p4 (starEach [.Constant (.str m) j p3] env)) []) := by rfl
  rw [e]
  congr 1
  funext ov
  congr 1
  funext _
  unfold methodCall
  have f : methodCallForm 1 (backTo p4 (starEach [.Constant (.str m) j p3] env)) [] = true := rfl
  have g : methodCallPos true (.Call (.Name "super" p0) [] [] p1) env p2 p4 = pure p4 := by
    unfold methodCallPos
    rw [h]
    rfl
  rw [f, g]
  congr 1
open PySem.W PySem.Calls in
theorem ini_run {CX : CXT} {P : Program} {w : World} {K : PySem.W.Frag} {mg : Str → Option Value} {base : Heap} {C f : Addr} {ps : List Str} {fd : FuncData} {k : Nat} (D : IniOk P K C f ps fd) :
    FnOk P w K mg base CX (k + 1) f fd (("self" : Str) :: ps) (iniSp C ps) := by
  refine ⟨?_, ?_⟩
  · rintro vs H Q E ⟨a, ys, rfl, hl, _⟩
    simp [hl]
  intro A outer s H args us vs Q E hr e0 hb r hsp
  obtain ⟨name, qual, params, body, scope, dV, kV, doc, pm, an, cda, ct, cc, oc, od, osl, rfl, lk, hcd, k1, k2, k3, k4, k5, k6, k7, k8, ⟨ar, ha1, ha2⟩, ⟨ccl, cdd, vsC, ccs, file, tf, c1, c2, c3⟩, ⟨cl, cld, csl, lc⟩, ⟨p0, p1, p2, p3, p4, p5, m, j, tail, rfl, hline, htail⟩, hbind⟩ := D.fn
  obtain ⟨a, ys, rfl, hl, ea, q⟩ := hsp
  have KX : K.In s.heap := e0.mod.kin.keeps fun b o e => (e0.bs b o e).1
  have lim : s.heap.NoLimit := e0.mod.nolimit.keeps fun b o e => (e0.bs b o e).1
  have hlu : us.length = ps.length + 1 := by
    rw [← r.length]
    simp [hl]
  refine ks_codeAny_call_defAt (fd := ksFn name qual params _ scope dV kV doc pm an (.ref cda) ct cc) (binds := (("self" : Str) :: ps).zip us) hr.depth (KX _ _ lk) rfl lim (codeRec_of KX hcd) rfl hb k4 (fun x hx => k5 x.1 (List.of_mem_zip hx).1) (fun h₀ hns hk₀ => ?_) k2 k3 k1
  have I0 := ini_start (CX := CX) (P := P) (w := w) (mg := mg) (base := base) (N := ("self" : Str) :: ps) (qual := qual) (f := f) (cd := .ref cda) (tk := s.toks + ((("self" : Str) :: ps).zip us).length) (E := E) k1 k5 k8 k4 D.nd ⟨cl, cld, csl, lc⟩ hr.hd e0 (by simp [hl]) r hns hk₀
  obtain ⟨m0, hn0, _⟩ := I0.loc
  have hv : (((("self" : Str) :: ps).zip us).reverse.lookup ("self" : Str)) = some (.ref a) := by
    cases r with
    | cons r1 r2 =>
      cases (show _ = Value.ref a from r1)
      exact zip_rev_lookup (i := 0) D.nd rfl rfl (by simpa using hlu)
  have K0 : K.In h₀ := KX.keeps hk₀
  let ENV := ksEnv qual scope s.heap.objs.size f (.ref cda) cc
  let BODY : List Stmt := .Expr (.Call (.Attribute (.Call (.Name "super" p0) [] [] p1) "__init__" p2) [.Constant (.str m) j p3] [] p4) p5 :: tail
  show PySem.wpAt (model P w) (A.deeper ENV) (.func BODY ENV) (execs BODY ENV) _ _ _
  obtain ⟨pl, hpl⟩ := hev ENV p0 p1 p2 p3 p4 m j hline
  refine ks_wpAt_execs_cons (ks_wpAt_Expr_any (ks_wpAt_MethodCall (pl := pl) ?_ hpl) I0.quiet)
  obtain ⟨oD, hD1, cdD, hD2, hm⟩ : ∃ oD, h₀.get? C = some oD ∧ ∃ cdD, oD.data = .cls cdD ∧ clsIn K C = some cdD := by
    obtain ⟨nm, q, N, bs, bm, sn, sub, ab, col, dd, k0, k1, k2, k3, k5, hC, hbm⟩ := D.oex.cls
    exact ⟨_, K0 _ _ hC, _, rfl, by unfold clsIn; rw [hC]⟩
  obtain ⟨t1, ha⟩ := exo_at I0.hok ea
  obtain ⟨mb, hb1, hb2⟩ := e0.mod.blt
  have bk : ∀ b o, base.get? b = some o → h₀.get? b = some o := fun b o e => hk₀ b o (e0.bs b o e).1
  refine ks_wpAt_super_base (env := ENV) k6 k7 (by decide) rfl (K0 _ _ lk) rfl ha1 rfl (K0 _ _ c1) rfl c2 c3 D.top ?_
  refine ks_loadName_global k1 k6 (loadGlobal_builtin (env := ENV) (e0.mod.glob.keeps bk) (mg_none_of e0.mod.kin e0.mod.glob D.sup) (hb1.keeps bk) ((hb2 _ (by decide +kernel)).trans PyProof.Rows.Boot.super) ⟨rfl, ?_⟩)
  refine wpAny_loadName_free k1 k7 rfl ⟨_, K0 _ _ lc, rfl⟩ ?_
  rw [ha2]
  refine wpAny_loadName_local k1 (k5 _ (by simp)) hns hv ?_
  refine ks_wpAny_isType_cls hD1 hD2 ⟨rfl, ?_⟩
  refine ks_wpAny_call_super hD1 hD2 ha rfl (fun c e => by cases e) (looks_mroIn K0 D.sub) (fun h1 e1 kp1 => ?_)
  have I1 : L2.Inv (cxI CX P w K mg base (("self" : Str) :: ps) qual scope f (.ref cda) cc A outer s H E) [] ((V.ref a :: ys).map some) H ⟨h1, s.gens, s.drawn, s.toks + ((("self" : Str) :: ps).zip us).length, s.os⟩ := I0.kept kp1
  have K1 : K.In h1 := K0.keeps kp1
  have hxC : a ≠ C := fun z => by
    rw [z, hD1] at ha
    cases ha
    cases hD2
  refine kxs_getMethod kxs_ValueError (l₀ := cdD.mro) e1 (looks_opaque K1 D.tp) (fun A Q E s k q => wpAny_bind ((looks_clsIn K1 hm) A _ E s k (wpAny_pure q))) rfl K1 (by have z := D.supI; unfold ks_superIn at z; rw [hm] at z; exact z) ?_ hxC (by decide) ?_
  · exact (InstAt.type (x := a) (ox := { cls := .ref C, dict := none, data := .fields #[.ref t1, .none, .none, .none, .bool false, .none] }) (od := none) ⟨kp1 _ _ ha, rfl, rfl, trivial⟩).andThen (looks_subIn K1 D.ve)
  have kp2 : ∀ b o, h1.get? b = some o → (h1.push (kxs_mw "ValueError.__init__" a)).get? b = some o := fun b o e => Heap.get?_push_of_some _ e
  have I2 : L2.Inv (cxI CX P w K mg base (("self" : Str) :: ps) qual scope f (.ref cda) cc A outer s H E) [] ((V.ref a :: ys).map some) H ⟨h1.push (kxs_mw "ValueError.__init__" a), s.gens, s.drawn, s.toks + ((("self" : Str) :: ps).zip us).length + 1, s.os⟩ := I1.kept kp2
  have hu : (h1.push (kxs_mw "ValueError.__init__" a)).get? h1.objs.size = some (kxs_mw "ValueError.__init__" a) := Heap.get?_push_at rfl rfl
  refine kxs_callWith (i := "ValueError.__init__") (x := a) rfl (evalArgs_plain ?_)
  have I2' := I2.pins_of (pins' := [(h1.objs.size, kxs_mw "ValueError.__init__" a)]) (fun p hp => by
    obtain rfl := List.mem_singleton.mp hp
    exact ⟨hu, I1.hok.fresh (Nat.le_refl _), fun z => absurd I1.lt (by rw [← z]; exact Nat.lt_irrefl _), I1.nofs (Nat.le_refl _), fun v z => by cases z⟩)
  refine thn ((pa_cons (X := cxI CX P w K mg base (("self" : Str) :: ps) qual scope f (.ref cda) cc A outer s H E) (pe_str (x := m) (j := j) (pos := p3)) pa_nil).run p4 _ _ _ H (fun vs H' => vs = [.str m] ∧ H' = H) I2' ⟨rfl, rfl⟩) (fun us' s3 hh => ?_)
  obtain ⟨vs3, H3, I3, r3, e3, e4⟩ := hh
  subst e3 e4
  have hl3 : us'.length ≤ sizeLine := by
    rw [← r3.length, sizeLine_eq]
    show 1 ≤ 16777216
    decide
  refine ⟨(I3.pin _ (List.mem_append_right _ (List.mem_singleton.mpr rfl))).1, ?_⟩
  have I4 := I3.pins_of (pins' := []) (fun p hp => by cases hp)
  refine call_mw D.oex I4 ea (I3.pin _ (List.mem_append_right _ (List.mem_singleton.mpr rfl))).1 hl3 fun s5 I5 => ?_
  show PySem.wpAt _ _ _ (execs tail ENV) _ _ s5
  refine wpAt_of_wpAny ?_
  obtain ⟨t, ht, hq⟩ := tail_ok (X := cxI CX P w K mg base (("self" : Str) :: ps) qual scope f (.ref cda) cc A outer s H3 E) D.oex ea rfl (.inl (k5 _ (by simp))) ps tail 1 htail fun i p e =>
    ⟨by rw [Nat.add_comm]; exact e, .inl (k5 _ (List.mem_cons_of_mem _ (List.mem_of_getElem? e))), (D.dbg p (List.mem_cons_of_mem _ (List.mem_of_getElem? e))).1, (D.dbg p (List.mem_cons_of_mem _ (List.mem_of_getElem? e))).2, D.no p (List.mem_of_getElem? e)⟩
  refine wpAny_mono (ht.run [] s5 _ H3 { nx := fun _ H' => Q .non H', rt := fun _ _ => False } I5 (hq _ _ [] ys H3 rfl hl (fun i y e => ?_) (by have := D.few; simp; omega) (.inl ⟨rfl, rfl⟩) fun H2 po => ?_)) (fun fl s' hs => ?_) fun e s' hs => hs
  · rw [Nat.add_comm]
    show (ys.map some)[i]? = _
    rw [List.getElem?_map, e]
    rfl
  · rw [List.append_nil] at po
    rcases po with ⟨z, _⟩ | ⟨dx, g1, g2, g3, g4, g5⟩
    · exfalso
      have := D.ne
      cases ps with
      | nil => exact this rfl
      | cons p ps =>
        cases ys with
        | nil => cases hl
        | cons y ys => simp at z
    · exact q dx H2 g1 g2 g3 g4 g5
  · cases fl with
    | next =>
      obtain ⟨σ', H', J, q⟩ := hs
      exact ⟨.non, H', J.os, J.bare, J.base, J.hok, rfl, q⟩
    | ret u => obtain ⟨_, _, _, _, _, z⟩ := hs; exact z.elim
    | brk => obtain ⟨_, _, _, z⟩ := hs; exact z.elim
    | cont => obtain ⟨_, _, _, z⟩ := hs; exact z.elim
end DX
namespace DL
open PySem PySem.Spec PyProof.Rows L2
/-! ### values, objects -/
/-- an error of the program: its class, its fields -/
structure DX where
  cls : Str
  fs : List (Str × PyData)
inductive Val where
  | d (x : PyData)
  | ob (k : Nat)
  | ty (n : String)
  | ex (x : DX)
  | scr (ns : List Int)
  | fn (x : Str)
inductive Ob where
  | dead
  | lst (xs : List Val)
  | dic (kvs : List (Key × Val))
  | law (n : Nat)
abbrev Slots := List (Option Val)
abbrev Tab := List Ob
abbrev Fp := List (List Addr)
/-! ### what data stand at a value: G is the part of the heap that does not change any more -/
def keyD : PyData → Option Key
  | .int i => some (.inl i)
  | .str s => some (.inr s)
  | _ => none
mutual
def Rp (K : PySem.W.Frag) (G : Hp) : PyData → V → Prop
  | .none, v => v = .non
  | .bool b, v => v = .bl b
  | .int i, v => v = .int i
  | .str s, v => v = .str s
  | .list xs, v => ∃ a vs, v = .ref a ∧ G a = some (.lst vs) ∧ RpL K G xs vs
  | .tuple xs, v => ∃ a vs, v = .ref a ∧ SqT K G a vs ∧ RpL K G xs vs
  | .dict kvs, v => ∃ a ks, v = .ref a ∧ G a = some (.dK ks) ∧ RpK K G kvs ks
def RpL (K : PySem.W.Frag) (G : Hp) : List PyData → List V → Prop
  | [], vs => vs = []
  | x :: xs, vs => ∃ v r, vs = v :: r ∧ Rp K G x v ∧ RpL K G xs r
def RpK (K : PySem.W.Frag) (G : Hp) : List (PyData × PyData) → List (Key × V) → Prop
  | [], ks => ks = []
  | (k, x) :: r, ks => ∃ k' v s, ks = (k', v) :: s ∧ keyD k = some k' ∧ Rp K G x v ∧ RpK K G r s
end
/-- G' knows all that G knows -/
def Sub (G G' : Hp) : Prop := ∀ a o, G a = some o → G' a = some o
theorem Sub.refl (G : Hp) : Sub G G := fun _ _ h => h
theorem Sub.trans {a b c : Hp} (h : Sub a b) (g : Sub b c) : Sub a c := fun x o e => g x o (h x o e)
theorem Sub.rd {G G' : Hp} (h : Sub G G') {a : Addr} {u : HO} (r : Rd G a u) : Rd G' a u := by
  rcases r with r | ⟨o, r⟩
  · exact .inl (h _ _ r)
  · exact .inr ⟨o, h _ _ r⟩
theorem Sub.sqL {K : PySem.W.Frag} {G G' : Hp} (h : Sub G G') {a : Addr} {vs : List V} (r : SqL K G a vs) : SqL K G' a vs := by
  rcases r with r | r
  · exact .inl (h.rd r)
  · exact .inr r
theorem Sub.sqT {K : PySem.W.Frag} {G G' : Hp} (h : Sub G G') {a : Addr} {vs : List V} (r : SqT K G a vs) : SqT K G' a vs := by
  rcases r with r | r
  · exact .inl (h.rd r)
  · exact .inr r
mutual
theorem Rp.mono {K : PySem.W.Frag} {G G' : Hp} (h : Sub G G') : ∀ (x : PyData) (v : V), Rp K G x v → Rp K G' x v
  | .none, v, r => by simpa only [Rp] using r
  | .bool b, v, r => by simpa only [Rp] using r
  | .int i, v, r => by simpa only [Rp] using r
  | .str s, v, r => by simpa only [Rp] using r
  | .list xs, v, r => by
    simp only [Rp] at r ⊢
    obtain ⟨a, vs, e, q, l⟩ := r
    exact ⟨a, vs, e, h _ _ q, RpL.mono h xs vs l⟩
  | .tuple xs, v, r => by
    simp only [Rp] at r ⊢
    obtain ⟨a, vs, e, q, l⟩ := r
    exact ⟨a, vs, e, h.sqT q, RpL.mono h xs vs l⟩
  | .dict kvs, v, r => by
    simp only [Rp] at r ⊢
    obtain ⟨a, vs, e, q, l⟩ := r
    exact ⟨a, vs, e, h _ _ q, RpK.mono h kvs vs l⟩
theorem RpL.mono {K : PySem.W.Frag} {G G' : Hp} (h : Sub G G') : ∀ (xs : List PyData) (vs : List V), RpL K G xs vs → RpL K G' xs vs
  | [], vs, r => by simpa only [RpL] using r
  | x :: xs, vs, r => by
    simp only [RpL] at r ⊢
    obtain ⟨v, s, e, q, l⟩ := r
    exact ⟨v, s, e, Rp.mono h x v q, RpL.mono h xs s l⟩
theorem RpK.mono {K : PySem.W.Frag} {G G' : Hp} (h : Sub G G') : ∀ (xs : List (PyData × PyData)) (vs : List (Key × V)), RpK K G xs vs → RpK K G' xs vs
  | [], vs, r => by simpa only [RpK] using r
  | (k, x) :: xs, vs, r => by
    simp only [RpK] at r ⊢
    obtain ⟨k', v, s, e, ek, q, l⟩ := r
    exact ⟨k', v, s, e, ek, Rp.mono h x v q, RpK.mono h xs s l⟩
end
theorem RpL.length {K : PySem.W.Frag} {G : Hp} : ∀ {xs : List PyData} {vs : List V}, RpL K G xs vs → xs.length = vs.length
  | [], vs, r => by simp only [RpL] at r; subst r; rfl
  | x :: xs, vs, r => by
    simp only [RpL] at r
    obtain ⟨v, s, e, _, l⟩ := r
    subst e
    simp [RpL.length l]
theorem RpL.get {K : PySem.W.Frag} {G : Hp} : ∀ {xs : List PyData} {vs : List V} {i : Nat} {x : PyData}, RpL K G xs vs → xs[i]? = some x → ∃ v, vs[i]? = some v ∧ Rp K G x v
  | [], _, _, _, _, e => by simp at e
  | y :: xs, vs, 0, x, r, e => by
    simp only [RpL] at r
    obtain ⟨v, s, rfl, q, l⟩ := r
    simp at e; subst e
    exact ⟨v, rfl, q⟩
  | y :: xs, vs, i + 1, x, r, e => by
    simp only [RpL] at r
    obtain ⟨v, s, rfl, q, l⟩ := r
    obtain ⟨w, h1, h2⟩ := RpL.get (i := i) (x := x) l (by simpa using e)
    exact ⟨w, by simpa using h1, h2⟩
theorem RpL.append {K : PySem.W.Frag} {G : Hp} : ∀ {xs ys : List PyData} {vs ws : List V}, RpL K G xs vs → RpL K G ys ws → RpL K G (xs ++ ys) (vs ++ ws)
  | [], ys, vs, ws, r, s => by simp only [RpL] at r; subst r; exact s
  | x :: xs, ys, vs, ws, r, s => by
    simp only [RpL] at r
    obtain ⟨v, t, rfl, q, l⟩ := r
    show RpL K G (x :: (xs ++ ys)) (v :: (t ++ ws))
    simp only [RpL]
    exact ⟨v, _, rfl, q, RpL.append l s⟩
theorem RpL.take {K : PySem.W.Frag} {G : Hp} : ∀ {xs : List PyData} {vs : List V} (n : Nat), RpL K G xs vs → RpL K G (xs.take n) (vs.take n)
  | xs, vs, 0, r => by simp [RpL]
  | [], vs, n + 1, r => by simp only [RpL] at r; subst r; simp [RpL]
  | x :: xs, vs, n + 1, r => by
    simp only [RpL] at r
    obtain ⟨v, t, rfl, q, l⟩ := r
    simp only [List.take_succ_cons, RpL]
    exact ⟨v, _, rfl, q, RpL.take n l⟩
theorem RpL.drop {K : PySem.W.Frag} {G : Hp} : ∀ {xs : List PyData} {vs : List V} (n : Nat), RpL K G xs vs → RpL K G (xs.drop n) (vs.drop n)
  | xs, vs, 0, r => r
  | [], vs, n + 1, r => by simp only [RpL] at r; subst r; simp [RpL]
  | x :: xs, vs, n + 1, r => by
    simp only [RpL] at r
    obtain ⟨v, t, rfl, q, l⟩ := r
    simp only [List.drop_succ_cons]
    exact RpL.drop n l
mutual
theorem Rp.dp {K : PySem.W.Frag} {G : Hp} : ∀ (x : PyData) (v : V), x.canLay0 = true → Rp K G x v → Dp K G v x
  | .none, v, _, r => by simp only [Rp] at r; subst r; exact .non
  | .bool b, v, _, r => by simp only [Rp] at r; subst r; exact .bl b
  | .int i, v, _, r => by simp only [Rp] at r; subst r; exact .int i
  | .str s, v, _, r => by simp only [Rp] at r; subst r; exact .str s
  | .list xs, v, c, r => by
    simp only [Rp] at r
    obtain ⟨a, vs, rfl, q, l⟩ := r
    exact .lst (.inl (.inl q)) (RpL.dp xs vs (by simpa only [PyData.canLay0] using c) l)
  | .tuple xs, v, c, r => by
    simp only [Rp] at r
    obtain ⟨a, vs, rfl, q, l⟩ := r
    exact .tup q (RpL.dp xs vs (by simpa only [PyData.canLay0] using c) l)
  | .dict kvs, v, c, r => by simp [PyData.canLay0] at c
theorem RpL.dp {K : PySem.W.Frag} {G : Hp} : ∀ (xs : List PyData) (vs : List V), PyData.canLayAll0 xs = true → RpL K G xs vs → DpAll K G vs xs
  | [], vs, _, r => by simp only [RpL] at r; subst r; exact .nil
  | x :: xs, vs, c, r => by
    simp only [RpL] at r
    obtain ⟨v, s, rfl, q, l⟩ := r
    simp only [PyData.canLayAll0, Bool.and_eq_true] at c
    exact .cons (Rp.dp x v c.1 q) (RpL.dp xs s c.2 l)
end
/-! ### values, objects, slots over a heap -/
/-- a caught error of the class that the name c stands for, its dict at d -/
def ExC (K : PySem.W.Frag) (c : Str) (d : Option Addr) (a : Addr) : HO := .ext fun h => ∃ (oe : Obj) (vs : Array Value), h.get? a = some oe ∧ Zc (.ref (He.ga K c)) d oe ∧ oe.data = .fields vs
/-- an error's fields, its dict at d -/
def FRel (K : PySem.W.Frag) (G : Hp) (fs : List (Str × PyData)) (d : Option Addr) : Prop := (fs = [] ∧ d = none) ∨ ∃ dd fv, d = some dd ∧ G dd = some (.xd fv) ∧ Paired (fun (p : Str × PyData) (q : Str × V) => p.1 = q.1 ∧ Rp K G p.2 q.2) fs fv
theorem PairedImp {α β : Type} {F F' : α → β → Prop} (h : ∀ a b, F a b → F' a b) : ∀ {xs : List α} {ys : List β}, Paired F xs ys → Paired F' xs ys
  | _, _, .nil => .nil
  | _, _, .cons r t => .cons (h _ _ r) (PairedImp h t)
theorem FRel.mono {K : PySem.W.Frag} {G G' : Hp} (h : Sub G G') {fs : List (Str × PyData)} {d : Option Addr} (r : FRel K G fs d) : FRel K G' fs d := by
  rcases r with r | ⟨dd, fv, e, g, p⟩
  · exact .inl r
  · exact .inr ⟨dd, fv, e, h _ _ g, PairedImp (fun a b z => ⟨z.1, Rp.mono h _ _ z.2⟩) p⟩
def VRel (K : PySem.W.Frag) (G : Hp) (m : Fp) : Val → V → Prop
  | .d x, v => Rp K G x v
  | .ob k, v => ∃ a r, m[k]? = some (a :: r) ∧ v = .ref a
  | .ty n, v => v = .ty n
  | .ex x, v => ∃ a d, v = .ref a ∧ G a = some (ExC K x.cls d a) ∧ FRel K G x.fs d
  | .scr ns, v => ∃ a, v = .ref a ∧ SqL K G a (ns.map V.int)
  | .fn x, v => v = .ref (He.ga K x)
/-- the maps: what stood stands -/
def MSub (m m' : Fp) : Prop := ∃ r, m' = m ++ r
theorem MSub.refl (m : Fp) : MSub m m := ⟨[], by simp⟩
theorem MSub.trans {a b c : Fp} (h : MSub a b) (g : MSub b c) : MSub a c := by
  obtain ⟨r, rfl⟩ := h
  obtain ⟨s, rfl⟩ := g
  exact ⟨r ++ s, by simp⟩
theorem MSub.get {m m' : Fp} (h : MSub m m') {k : Nat} {x : List Addr} (e : m[k]? = some x) : m'[k]? = some x := by
  obtain ⟨r, rfl⟩ := h
  have := (List.getElem?_eq_some_iff.mp e).1
  rw [List.getElem?_append_left this]
  exact e
theorem MSub.mem {m m' : Fp} (h : MSub m m') {a : Addr} (e : a ∈ m.flatten) : a ∈ m'.flatten := by
  obtain ⟨r, rfl⟩ := h
  simp only [List.flatten_append, List.mem_append]
  exact .inl e
theorem VRel.mono {K : PySem.W.Frag} {G G' : Hp} {m m' : Fp} (h : Sub G G') (hm : MSub m m') : ∀ {x : Val} {v : V}, VRel K G m x v → VRel K G' m' x v
  | .d x, v, r => Rp.mono h x v r
  | .ob k, v, r => by
    obtain ⟨a, s, e, q⟩ := r
    exact ⟨a, s, hm.get e, q⟩
  | .ty n, v, r => r
  | .fn n, v, r => r
  | .ex _, v, r => by
    obtain ⟨a, d, e, g, f⟩ := r
    exact ⟨a, d, e, h _ _ g, f.mono h⟩
  | .scr _, v, r => by
    obtain ⟨a, e, g⟩ := r
    exact ⟨a, e, h.sqL g⟩
abbrev VRels (K : PySem.W.Frag) (G : Hp) (m : Fp) : List Val → List V → Prop := Paired (VRel K G m)
theorem Paired.imp {α β : Type} {F F' : α → β → Prop} (h : ∀ a b, F a b → F' a b) : ∀ {xs : List α} {ys : List β}, Paired F xs ys → Paired F' xs ys
  | _, _, .nil => .nil
  | _, _, .cons r t => .cons (h _ _ r) (Paired.imp h t)
theorem VRels.mono {K : PySem.W.Frag} {G G' : Hp} {m m' : Fp} (h : Sub G G') (hm : MSub m m') {xs : List Val} {vs : List V} (r : VRels K G m xs vs) : VRels K G' m' xs vs :=
  Paired.imp (fun _ _ q => VRel.mono h hm q) r
/-- the law's state at a: its list of great numbers at b; its turns and the draws that are left are bounded -/
def LawRel (K : PySem.W.Frag) (G H : Hp) (a b : Addr) (n : Nat) : Prop :=
  ∃ (gs cs : List Int) (c : Addr) (r t : Int), H a = some (.dK [(.inr "great", .ref b), (.inr "cells", .ref c), (.inr "rest", .int r), (.inr "turn", .int t)]) ∧
    H b = some (.lst (gs.map V.int)) ∧ G c = some (.lst (cs.map V.int)) ∧ cs.length ≤ 63 ∧ 0 ≤ t ∧ t + n ≤ 1000000000000
def ORel (K : PySem.W.Frag) (G H : Hp) (m : Fp) (fp : List Addr) : Ob → Prop
  | .dead => True
  | .lst xs => ∃ a vs, fp = [a] ∧ G a = none ∧ H a = some (.lst vs) ∧ VRels K G m xs vs
  | .dic kvs => ∃ a ks, fp = [a] ∧ G a = none ∧ H a = some (.dK ks) ∧ Paired (fun p q => p.1 = q.1 ∧ VRel K G m p.2 q.2) kvs ks
  | .law n => ∃ a b, fp = [a, b] ∧ G a = none ∧ G b = none ∧ LawRel K G H a b n
/-- a thing is known at a, no table of code objects -/
def Lv (H : Hp) (a : Addr) : Prop := ∃ o, H a = some o ∧ ∀ ps, o ≠ .tbl ps
theorem Lv.ne {H : Hp} {a : Addr} (h : Lv H a) : H a ≠ none := by
  obtain ⟨o, e, _⟩ := h
  rw [e]; simp
theorem not_lv {H : Hp} {a : Addr} (n : H a = none) : ¬ Lv H a := fun h => h.ne n
theorem Lv.upd {H : Hp} {a p : Addr} {o : HO} (h : Lv H a) (ne : a ≠ p) : Lv (upd H p o) a := by
  obtain ⟨u, e, t⟩ := h
  exact ⟨u, by rw [upd_ne ne]; exact e, t⟩
theorem Lv.same {H : Hp} {p : Addr} {o : HO} (t : ∀ ps, o ≠ .tbl ps) : Lv (L2.upd H p o) p := ⟨o, upd_same, t⟩
structure WRel (K : PySem.W.Frag) (G H : Hp) (m : Fp) (T : Tab) : Prop where
  sub : Sub G H
  len : m.length = T.length
  nd : m.flatten.Nodup
  al : ∀ a ∈ m.flatten, Lv H a
  ob : ∀ (k : Nat) (o : Ob), T[k]? = some o → ∃ fp, m[k]? = some fp ∧ ORel K G H m fp o
  dat : ∀ a ps, G a ≠ some (.tbl ps)
  tb : LamX.Tabs (tbOf K) H
structure Ext (K : PySem.W.Frag) (G H : Hp) (m : Fp) (G' H' : Hp) (m' : Fp) : Prop where
  sub : Sub G G'
  ms : MSub m m'
  keep : ∀ a o, H a = some o → a ∉ m.flatten → (∀ ps, o ≠ .tbl ps) → H' a = some o
  stay : ∀ a, Lv H a → Lv H' a
  keepG : ∀ a, Lv H a → a ∉ m.flatten → G a = none → G' a = none
  new : ∀ a ∈ m'.flatten, a ∉ m.flatten → ¬ Lv H a
  tabs : LamX.Tabs (tbOf K) H → LamX.Tabs (tbOf K) H'
theorem Ext.refl {K : PySem.W.Frag} (G H : Hp) (m : Fp) : Ext K G H m G H m := ⟨Sub.refl G, MSub.refl m, fun _ _ h _ _ => h, fun _ h => h, fun _ _ _ h => h, fun _ h g => absurd h g, fun h => h⟩
theorem Ext.trans {K : PySem.W.Frag} {G H G1 H1 G2 H2 : Hp} {m m1 m2 : Fp} (a : Ext K G H m G1 H1 m1) (b : Ext K G1 H1 m1 G2 H2 m2) : Ext K G H m G2 H2 m2 := by
  have no : ∀ x, Lv H x → x ∉ m.flatten → x ∉ m1.flatten := fun x e h g => a.new x g h e
  refine ⟨a.sub.trans b.sub, a.ms.trans b.ms, fun x o e h t => ?_, fun x h => b.stay x (a.stay x h), fun x e h g => b.keepG x (a.stay x e) (no x e h) (a.keepG x e h g), fun x h g l => ?_, fun h => b.tabs (a.tabs h)⟩
  · exact b.keep x o (a.keep x o e h t) (no x ⟨o, e, t⟩ h) t
  · by_cases q : x ∈ m1.flatten
    · exact a.new x q g l
    · exact b.new x h q (a.stay x l)
/-- nothing but new objects -/
theorem Ext.of_new {K : PySem.W.Frag} {G H G' H' : Hp} {m m' : Fp} (sub : Sub G G') (ms : MSub m m') (keep : ∀ a o, H a = some o → a ∉ m.flatten → H' a = some o) (stay : ∀ a, Lv H a → Lv H' a)
    (keepG : ∀ a, Lv H a → a ∉ m.flatten → G a = none → G' a = none) (new : ∀ a ∈ m'.flatten, a ∉ m.flatten → H a = none) (tb : ∀ a o, H a = some o → (∃ ps, o = .tbl ps ∨ ∃ c q, o = LamX.CodeO c q) → H' a = some o) : Ext K G H m G' H' m' :=
  ⟨sub, ms, fun a o e h _ => keep a o e h, stay, keepG, fun a h g => not_lv (new a h g), fun t p hp => by
    obtain ⟨ps, h1, h2, h3⟩ := t p hp
    refine ⟨ps, tb _ _ h1 ⟨ps, .inl rfl⟩, h2, fun pos cv hc => ?_⟩
    obtain ⟨c, e1, e2⟩ := h3 pos cv hc
    exact ⟨c, e1, tb _ _ e2 ⟨#[], .inr ⟨c, _, rfl⟩⟩⟩⟩
structure SRel (K : PySem.W.Frag) (G : Hp) (m : Fp) (sl : Slots) (σ : L2.St) : Prop where
  len : sl.length = σ.length
  at_ : ∀ (i : Nat) (x : Val), sl[i]? = some (some x) → ∃ v, σ[i]? = some (some v) ∧ VRel K G m x v
theorem SRel.mono {K : PySem.W.Frag} {G G' : Hp} {m m' : Fp} {sl : Slots} {σ : L2.St} (s : SRel K G m sl σ) (h : Sub G G') (hm : MSub m m') : SRel K G' m' sl σ :=
  ⟨s.len, fun i x e => let ⟨v, a, b⟩ := s.at_ i x e; ⟨v, a, b.mono h hm⟩⟩
theorem SRel.ext {K : PySem.W.Frag} {G H G' H' : Hp} {m m' : Fp} {sl : Slots} {σ : L2.St} (s : SRel K G m sl σ) (e : Ext K G H m G' H' m') : SRel K G' m' sl σ := s.mono e.sub e.ms
theorem SRel.set {K : PySem.W.Frag} {G : Hp} {m : Fp} {sl : Slots} {σ : L2.St} (s : SRel K G m sl σ) {x : Val} {v : V} (r : VRel K G m x v) (i : Nat) : SRel K G m (sl.set i (some x)) (σ.set i (some v)) := by
  refine ⟨by simpa using s.len, fun j y e => ?_⟩
  by_cases h : i = j
  · subst h
    rw [List.getElem?_set] at e ⊢
    simp only [if_true] at e ⊢
    split at e
    · rename_i hl
      rw [if_pos (by rw [← s.len]; exact hl)]
      cases e
      exact ⟨v, rfl, r⟩
    · cases e
  · rw [List.getElem?_set_ne h] at e ⊢
    exact s.at_ j y e
/-! ### how an error lies -/
def XRel (K : PySem.W.Frag) (G : Hp) (x : DX) (cls : Value) (d : Option Addr) : Prop := cls = .ref (He.ga K x.cls) ∧ FRel K G x.fs d
abbrev VC := Val → Tab → Prop
abbrev XC := DX → Tab → Prop
abbrev DE := Slots → Tab → VC → XC → Prop
def Mono (f : DE) : Prop := ∀ sl T (Q Q' : VC) (X X' : XC), (∀ v T, Q v T → Q' v T) → (∀ e T, X e T → X' e T) → f sl T Q X → f sl T Q' X'
def LE (K : PySem.W.Frag) (W : L2.WX) (f : DE) : TE := fun σ H Q => ∃ G m sl T, SRel K G m sl σ ∧ WRel K G H m T ∧
  f sl T (fun v T' => ∀ G' H' m' x, Ext K G H m G' H' m' → WRel K G' H' m' T' → VRel K G' m' v x → Q x H')
    (fun e T' => ∀ G' H' m' c d, Ext K G H m G' H' m' → WRel K G' H' m' T' → XRel K G' e c d → W c d σ H')
theorem LE.intro {K : PySem.W.Frag} {W : L2.WX} {f : DE} {σ : L2.St} {H G : Hp} {m : Fp} {sl : Slots} {T : Tab} {Q : VK} {Qd : VC} {Xd : XC} (mf : Mono f) (s : SRel K G m sl σ) (w : WRel K G H m T) (h : f sl T Qd Xd)
    (hQ : ∀ v T' G' H' m' x, Qd v T' → Ext K G H m G' H' m' → WRel K G' H' m' T' → VRel K G' m' v x → Q x H')
    (hX : ∀ e T' G' H' m' c d, Xd e T' → Ext K G H m G' H' m' → WRel K G' H' m' T' → XRel K G' e c d → W c d σ H') : LE K W f σ H Q :=
  ⟨G, m, sl, T, s, w, mf _ _ _ _ _ _ (fun v T' q G' H' m' x e w r => hQ v T' G' H' m' x q e w r) (fun e T' q G' H' m' c d x w r => hX e T' G' H' m' c d q x w r) h⟩
theorem PE.imp {X : Cx} {e : Expr} {t t' : TE} (h : PE X e t) (i : ∀ σ H Q, t' σ H Q → t σ H Q) : PE X e t' := ⟨fun pins s σ H Q I q => h.run pins s σ H Q I (i σ H Q q)⟩
structure DPE (X : Cx) (W : L2.WX) (e : Expr) (f : DE) : Prop where
  mono : Mono f
  pe : PE X e (LE X.K W f)
end DL
namespace DL
open PySem PySem.Spec PyProof.Rows L2
/-! ### a live object read as data -/
def dats : List Val → Option (List PyData)
  | [] => some []
  | .d x :: r => (dats r).map (x :: ·)
  | _ :: _ => none
def asD (T : Tab) : Val → Option PyData
  | .d x => some x
  | .ob k => match T[k]? with
    | some (.lst xs) => (dats xs).map .list
    | _ => none
  | _ => none
theorem dats_rel {K : PySem.W.Frag} {G : Hp} {m : Fp} : ∀ {xs : List Val} {ds : List PyData} {vs : List V}, dats xs = some ds → VRels K G m xs vs → RpL K G ds vs
  | [], ds, vs, e, r => by
    cases r
    simp only [dats, Option.some.injEq] at e
    subst e
    simp [RpL]
  | x :: xs, ds, vs, e, r => by
    cases r with
    | cons q t =>
      cases x with
      | d y =>
        simp only [dats, Option.map_eq_some_iff] at e
        obtain ⟨ds', e1, e2⟩ := e
        subst e2
        simp only [RpL]
        exact ⟨_, _, rfl, q, dats_rel e1 t⟩
      | _ => simp [dats] at e
section
variable {K : PySem.W.Frag} {G H : Hp} {m : Fp} {T : Tab} {v : Val} {u : V}
theorem asD_rp {x : PyData} (w : WRel K G H m T) (r : VRel K G m v u) (e : asD T v = some x) : Rp K H x u := by
  cases v with
  | d y =>
    simp only [asD, Option.some.injEq] at e
    subst e
    exact Rp.mono w.sub _ _ r
  | ob k =>
    simp only [asD] at e
    cases q : T[k]? with
    | none => rw [q] at e; cases e
    | some o =>
      rw [q] at e
      cases o with
      | lst xs =>
        simp only [Option.map_eq_some_iff] at e
        obtain ⟨ds, e1, rfl⟩ := e
        obtain ⟨fp, hm, a, vs, hf, hG, hH, hv⟩ := w.ob k _ q
        obtain ⟨b, s, hm', rfl⟩ := r
        rw [hm] at hm'
        subst hf
        cases hm'
        simp only [Rp]
        exact ⟨a, vs, rfl, hH, RpL.mono w.sub _ _ (dats_rel e1 hv)⟩
      | _ => cases e
  | _ => cases e
/-- a list: its items stand in the frozen part -/
theorem asD_list {xs : List PyData} (w : WRel K G H m T) (r : VRel K G m v u) (e : asD T v = some (.list xs)) : ∃ a vs, u = .ref a ∧ H a = some (.lst vs) ∧ RpL K G xs vs := by
  cases v with
  | d y =>
    simp only [asD, Option.some.injEq] at e
    subst e
    have r' : Rp K G (.list xs) u := r
    simp only [Rp] at r'
    obtain ⟨a, vs, h1, h2, h3⟩ := r'
    exact ⟨a, vs, h1, w.sub _ _ h2, h3⟩
  | ob k =>
    simp only [asD] at e
    cases q : T[k]? with
    | none => rw [q] at e; cases e
    | some o =>
      rw [q] at e
      cases o with
      | lst ys =>
        simp only [Option.map_eq_some_iff] at e
        obtain ⟨ds, e1, e2⟩ := e
        cases e2
        obtain ⟨fp, hm, a, vs, hf, hG, hH, hv⟩ := w.ob k _ q
        obtain ⟨b, s, hm', rfl⟩ := r
        rw [hm] at hm'
        subst hf
        cases hm'
        exact ⟨a, vs, rfl, hH, dats_rel e1 hv⟩
      | _ => cases e
  | _ => cases e
theorem asD_tup {xs : List PyData} (w : WRel K G H m T) (r : VRel K G m v u) (e : asD T v = some (.tuple xs)) : ∃ a vs, u = .ref a ∧ SqT K G a vs ∧ RpL K G xs vs := by
  cases v with
  | d y =>
    simp only [asD, Option.some.injEq] at e
    subst e
    have r' : Rp K G (.tuple xs) u := r
    simp only [Rp] at r'
    exact r'
  | ob k =>
    simp only [asD] at e
    cases q : T[k]? with
    | none => rw [q] at e; cases e
    | some o =>
      rw [q] at e
      cases o with
      | lst ys =>
        simp only [Option.map_eq_some_iff] at e
        obtain ⟨ds, e1, e2⟩ := e
        cases e2
      | _ => cases e
  | _ => cases e
theorem asD_int {i : Int} (w : WRel K G H m T) (r : VRel K G m v u) (e : asD T v = some (.int i)) : u = .int i := by
  have := asD_rp w r e
  simpa only [Rp] using this
theorem asD_str {i : Str} (w : WRel K G H m T) (r : VRel K G m v u) (e : asD T v = some (.str i)) : u = .str i := by
  have := asD_rp w r e
  simpa only [Rp] using this
theorem asD_bool {i : Bool} (w : WRel K G H m T) (r : VRel K G m v u) (e : asD T v = some (.bool i)) : u = .bl i := by
  have := asD_rp w r e
  simpa only [Rp] using this
theorem asD_none (w : WRel K G H m T) (r : VRel K G m v u) (e : asD T v = some .none) : u = .non := by
  have := asD_rp w r e
  simpa only [Rp] using this
/-! ### a new frozen object -/
theorem upd_sub {G H : Hp} {p : Addr} {o : HO} (s : Sub G H) (n : H p = none) : Sub (upd G p o) (upd H p o) := fun a u e => by
  by_cases h : a = p
  · subst h; rw [upd_same] at e ⊢; exact e
  · rw [upd_ne h] at e ⊢; exact s a u e
theorem sub_upd {G : Hp} {p : Addr} {o : HO} (n : G p = none) : Sub G (upd G p o) := fun a u e => by
  rw [upd_ne (ne_of_none e n)]; exact e
theorem WRel.gnone (w : WRel K G H m T) {p : Addr} (n : H p = none) : G p = none := by
  cases e : G p with
  | none => rfl
  | some o => rw [w.sub p o e] at n; cases n
theorem WRel.notin (w : WRel K G H m T) {p : Addr} (n : H p = none) : p ∉ m.flatten := fun h => not_lv n (w.al p h)
theorem Paired.imp' {α β : Type} {F F' : α → β → Prop} (h : ∀ a b, F a b → F' a b) {xs : List α} {ys : List β} (p : Paired F xs ys) : Paired F' xs ys := Paired.imp h p
theorem mem_flat {m : Fp} {k : Nat} {fp : List Addr} {a : Addr} (e : m[k]? = some fp) (h : a ∈ fp) : a ∈ m.flatten :=
  List.mem_flatten.mpr ⟨fp, List.mem_of_getElem? e, h⟩
/-- an object's relation over another heap that agrees on its own addresses -/
theorem ORel.stay {G' H' : Hp} {m' : Fp} {fp : List Addr} {o : Ob} (r : ORel K G H m fp o) (hs : Sub G G') (hm : MSub m m') (hG : ∀ a ∈ fp, G a = none → G' a = none) (hH : ∀ a ∈ fp, ∀ u, H a = some u → (∀ ps, u ≠ .tbl ps) → H' a = some u) : ORel K G' H' m' fp o := by
  cases o with
  | dead => exact True.intro
  | lst xs =>
    obtain ⟨a, vs, rfl, g, h, v⟩ := r
    exact ⟨a, vs, rfl, hG a (by simp) g, hH a (by simp) _ h (fun ps z => by cases z), VRels.mono hs hm v⟩
  | dic kvs =>
    obtain ⟨a, ks, rfl, g, h, v⟩ := r
    exact ⟨a, ks, rfl, hG a (by simp) g, hH a (by simp) _ h (fun ps z => by cases z), Paired.imp (fun p q z => ⟨z.1, z.2.mono hs hm⟩) v⟩
  | law n =>
    obtain ⟨a, b, rfl, g1, g2, gs, cs, c, r, t, h1, h2, h3, h4⟩ := r
    exact ⟨a, b, rfl, hG a (by simp) g1, hG b (by simp) g2, gs, cs, c, r, t, hH a (by simp) _ h1 (fun ps z => by cases z), hH b (by simp) _ h2 (fun ps z => by cases z), hs _ _ h3, h4⟩
/-- a new frozen object is laid -/
theorem dat_upd {G : Hp} {p : Addr} {o : HO} (d : ∀ a ps, G a ≠ some (.tbl ps)) (hd : ∀ ps, o ≠ .tbl ps) : ∀ a ps, upd G p o a ≠ some (.tbl ps) := fun a ps e => by
  by_cases z : a = p
  · subst z; rw [upd_same] at e; exact hd ps (Option.some.inj e)
  · rw [upd_ne z] at e; exact d a ps e
theorem tabs_new {K : PySem.W.Frag} {H : Hp} {p : Addr} {o : HO} (n : H p = none) (t : LamX.Tabs (tbOf K) H) : LamX.Tabs (tbOf K) (upd H p o) :=
  t.ext fun a u e => by rw [upd_ne (ne_of_none e n)]; exact e
theorem WRel.laid (w : WRel K G H m T) {p : Addr} {o : HO} (n : H p = none) (hd : ∀ ps, o ≠ .tbl ps := by intro _ z; cases z) : WRel K (upd G p o) (upd H p o) m T where
  dat := dat_upd w.dat hd
  tb := tabs_new n w.tb
  sub := upd_sub w.sub n
  len := w.len
  nd := w.nd
  al := fun a h => by
    have ne : a ≠ p := fun e => w.notin n (e ▸ h)
    exact (w.al a h).upd ne
  ob := fun k ob e => by
    obtain ⟨fp, hm, r⟩ := w.ob k ob e
    have ne : ∀ a ∈ fp, a ≠ p := fun a h e => w.notin n (e ▸ mem_flat hm h)
    exact ⟨fp, hm, r.stay (sub_upd (w.gnone n)) (MSub.refl m) (fun a h g => by rw [upd_ne (ne a h)]; exact g) (fun a h u e _ => by rw [upd_ne (ne a h)]; exact e)⟩
theorem Ext.laid (w : WRel K G H m T) {p : Addr} {o : HO} (n : H p = none) : Ext K G H m (upd G p o) (upd H p o) m := by
  have k : ∀ a u, H a = some u → upd H p o a = some u := fun a u e => by rw [upd_ne (ne_of_none e n)]; exact e
  refine .of_new (sub_upd (w.gnone n)) (MSub.refl m) (fun a u e _ => k a u e) (fun a h => h.upd fun z => not_lv n (z ▸ h)) (fun a h _ g => ?_) (fun a h g => absurd h g) fun a u e _ => k a u e
  have z : a ≠ p := fun z => not_lv n (z ▸ h)
  rw [upd_ne z]; exact g
end
/-! ### operators over two values -/
abbrev G2 := Tab → Val → Val → (Val → Prop) → Prop
def Mono2 (g : G2) : Prop := ∀ T v u (k k' : Val → Prop), (∀ z, k z → k' z) → g T v u k → g T v u k'
def LR (K : PySem.W.Frag) (g : G2) : R2 := fun x y H Q => ∃ G m T v u, WRel K G H m T ∧ VRel K G m v x ∧ VRel K G m u y ∧
  g T v u (fun z => ∀ G' H' w, Ext K G H m G' H' m → WRel K G' H' m T → VRel K G' m z w → Q w H')
structure DOp (X : Cx) (f : Value → Value → Sem Value) (g : G2) : Prop where
  mono : Mono2 g
  op : OpR X f (LR X.K g)
def addD (x y : PyData) (k : Val → Prop) : Prop :=
  match x, y with
  | .int i, .int j => k (.d (.int (i + j)))
  | .str a, .str b => a.length + b.length ≤ sizeLine ∧ k (.d (.str (a ++ b)))
  | .list a, .list b => a.length + b.length ≤ sizeLine ∧ k (.d (.list (a ++ b)))
  | .tuple a, .tuple b => a.length + b.length ≤ sizeLine ∧ k (.d (.tuple (a ++ b)))
  | _, _ => False
def on2 (f : PyData → PyData → (Val → Prop) → Prop) : G2 := fun T v u k =>
  match asD T v, asD T u with
  | some x, some y => f x y k
  | _, _ => False
theorem mono_on2 {f : PyData → PyData → (Val → Prop) → Prop} (h : ∀ x y (k k' : Val → Prop), (∀ z, k z → k' z) → f x y k → f x y k') : Mono2 (on2 f) := fun T v u k k' hk q => by
  unfold on2 at q ⊢
  split at q
  · exact h _ _ _ _ hk q
  · exact q
/-- from an operator on data to its rule -/
theorem dop_of {X : Cx} {f : Value → Value → Sem Value} {g : PyData → PyData → (Val → Prop) → Prop} (hm : ∀ x y (k k' : Val → Prop), (∀ z, k z → k' z) → g x y k → g x y k')
    (h : ∀ (pins : List (Addr × Obj)) (s : Shared) (σ : L2.St) (H G : Hp) (m : Fp) (T : Tab) (v u : Val) (x y : V) (vx vy : Value) (dx dy : PyData) (Q : VK), Inv X pins σ H s → RelV x vx → RelV y vy →
      WRel X.K G H m T → VRel X.K G m v x → VRel X.K G m u y → asD T v = some dx → asD T u = some dy →
      g dx dy (fun z => ∀ G' H' w, Ext X.K G H m G' H' m → WRel X.K G' H' m T → VRel X.K G' m z w → Q w H') →
      wpAny (model X.prog X.w) X.A (f vx vy) (EP X pins σ Q) X.xe s) : DOp X f (on2 g) := by
  refine ⟨mono_on2 hm, fun pins s σ H x y vx vy Q I rx ry q => ?_⟩
  obtain ⟨G, m, T, v, u, w, r1, r2, q⟩ := q
  unfold on2 at q
  split at q
  · rename_i dx dy e1 e2
    exact h pins s σ H G m T v u x y vx vy dx dy Q I rx ry w r1 r2 e1 e2 q
  · exact q.elim
theorem addD_mono (x y : PyData) (k k' : Val → Prop) (h : ∀ z, k z → k' z) (q : addD x y k) : addD x y k' := by
  unfold addD at q ⊢
  split at q
  · exact h _ q
  · exact ⟨q.1, h _ q.2⟩
  · exact ⟨q.1, h _ q.2⟩
  · exact ⟨q.1, h _ q.2⟩
  · exact q
theorem rp_list {K : PySem.W.Frag} {G : Hp} {p : Addr} {xs : List PyData} {vs : List V} (h : G p = some (.lst vs)) (r : RpL K G xs vs) : Rp K G (.list xs) (.ref p) := by
  simp only [Rp]
  exact ⟨p, vs, rfl, h, r⟩
theorem rp_tup {K : PySem.W.Frag} {G : Hp} {p : Addr} {xs : List PyData} {vs : List V} (h : SqT K G p vs) (r : RpL K G xs vs) : Rp K G (.tuple xs) (.ref p) := by
  simp only [Rp]
  exact ⟨p, vs, rfl, h, r⟩
theorem RpL.upd {K : PySem.W.Frag} {G : Hp} {p : Addr} {o : HO} {xs : List PyData} {vs : List V} (n : G p = none) (r : RpL K G xs vs) : RpL K (upd G p o) xs vs := RpL.mono (sub_upd n) _ _ r
theorem dop_add {X : Cx} : DOp X (binaryOp .Add) (on2 addD) := by
  refine dop_of addD_mono fun pins s σ H G m T v u x y vx vy dx dy Q I rx ry w r1 r2 e1 e2 q => ?_
  unfold addD at q
  split at q
  · have e := asD_int w r1 e1; subst e
    have e := asD_int w r2 e2; subst e
    exact op_add pins s σ H _ _ vx vy Q I rx ry ⟨_, _, rfl, rfl, q G H _ (Ext.refl _ _ _) w (by simp [VRel, Rp])⟩
  · have e := asD_str w r1 e1; subst e
    have e := asD_str w r2 e2; subst e
    exact op_add_str pins s σ H _ _ vx vy Q I rx ry ⟨_, _, rfl, rfl, q.1, q.2 G H _ (Ext.refl _ _ _) w (by simp [VRel, Rp])⟩
  · rename_i a b
    obtain ⟨p1, vs1, rfl, h1, l1⟩ := asD_list w r1 e1
    obtain ⟨p2, vs2, rfl, h2, l2⟩ := asD_list w r2 e2
    refine op_cat pins s σ H _ _ vx vy Q I rx ry ⟨_, _, vs1, vs2, rfl, rfl, h1, h2, ?_, fun p hp => ?_⟩
    · rw [← l1.length, ← l2.length]; exact q.1
    · refine q.2 _ _ _ (Ext.laid w hp) (w.laid hp) ?_
      exact rp_list upd_same ((l1.append l2).upd (w.gnone hp))
  · rename_i a b
    obtain ⟨p1, vs1, rfl, h1, l1⟩ := asD_tup w r1 e1
    obtain ⟨p2, vs2, rfl, h2, l2⟩ := asD_tup w r2 e2
    refine op_catA pins s σ H _ _ vx vy Q I rx ry ⟨_, _, vs1, vs2, rfl, rfl, w.sub.sqT h1, w.sub.sqT h2, ?_, fun z => ?_, fun _ z => ?_, fun _ _ p hp => ?_⟩
    · rw [← l1.length, ← l2.length]; exact q.1
    · subst z
      have z : a = [] := by have := l1.length; simpa using this
      subst z
      exact q.2 G H _ (Ext.refl _ _ _) w (rp_tup h2 l2)
    · subst z
      have z : b = [] := by have := l2.length; simpa using this
      subst z
      exact q.2 G H _ (Ext.refl _ _ _) w (by rw [List.append_nil]; exact rp_tup h1 l1)
    · refine q.2 _ _ _ (Ext.laid w hp) (w.laid hp) ?_
      exact rp_tup (.inl (.inl upd_same)) ((l1.append l2).upd (w.gnone hp))
  · exact q.elim
end DL
namespace DL
open PySem PySem.Spec PyProof.Rows L2
/-! ### equality of data without dicts -/
mutual
def plainD : PyData → Bool
  | .dict _ => false
  | .list xs => plainA xs
  | .tuple xs => plainA xs
  | .none => true
  | .bool _ => true
  | .int _ => true
  | .str _ => true
def plainA : List PyData → Bool
  | [] => true
  | x :: xs => plainD x && plainA xs
end
mutual
theorem eqv_self : ∀ d : PyData, plainD d = true → PyData.eqv d d = true
  | .none, _ => rfl
  | .bool b, _ => by simp [PyData.eqv]
  | .int i, _ => by simp [PyData.eqv]
  | .str x, _ => by simp [PyData.eqv]
  | .list xs, h => by
    simp only [plainD] at h
    simp only [PyData.eqv]; exact eqvs_self xs h
  | .tuple xs, h => by
    simp only [plainD] at h
    simp only [PyData.eqv]; exact eqvs_self xs h
  | .dict _, h => by simp [plainD] at h
theorem eqvs_self : ∀ xs : List PyData, plainA xs = true → PyData.eqvAll xs xs = true
  | [], _ => rfl
  | x :: xs, h => by
    simp only [plainA, Bool.and_eq_true] at h
    simp only [PyData.eqvAll, eqv_self x h.1, eqvs_self xs h.2, Bool.and_self]
end
section
variable {X : Cx} {pins : List (Addr × Obj)} {s : Shared} {σ : L2.St} {H : Hp}
theorem Inv.tupIs (I : Inv X pins σ H s) {a : Addr} {vs : List V} (h : SqT X.K H a vs) : ∃ its : List Value, Vals vs its ∧ s.heap.IsTuple a its.toArray := by
  obtain ⟨its, r, p, _⟩ := I.tuple h
  exact ⟨its, r, p⟩
theorem Inv.lstIs (I : Inv X pins σ H s) {a : Addr} {vs : List V} (h : H a = some (.lst vs)) : ∃ its : List Value, Vals vs its ∧ s.heap.IsList a its.toArray := by
  obtain ⟨its, r, p, _⟩ := I.list (.inl (.inl h))
  exact ⟨its, r, p.isList⟩
mutual
/-- the same value reads as one datum alone -/
theorem rp_same (I : Inv X pins σ H s) : ∀ (x y : PyData) (v : V), plainD x = true → plainD y = true → Rp X.K H x v → Rp X.K H y v → x = y
  | .none, y, v, _, py, rx, ry => by
    simp only [Rp] at rx; subst rx
    cases y <;> simp [Rp, plainD] at ry py ⊢
  | .bool b, y, v, _, py, rx, ry => by
    simp only [Rp] at rx; subst rx
    cases y <;> simp [Rp, plainD] at ry py ⊢
    exact ry
  | .int b, y, v, _, py, rx, ry => by
    simp only [Rp] at rx; subst rx
    cases y <;> simp [Rp, plainD] at ry py ⊢
    exact ry
  | .str b, y, v, _, py, rx, ry => by
    simp only [Rp] at rx; subst rx
    cases y <;> simp [Rp, plainD] at ry py ⊢
    exact ry
  | .list xs, y, v, px, py, rx, ry => by
    simp only [Rp] at rx
    obtain ⟨a, vs, rfl, h, l⟩ := rx
    cases y with
    | list ys =>
      simp only [Rp] at ry
      obtain ⟨b, ws, e, h', l'⟩ := ry
      cases e
      have e : vs = ws := I.list_inj (.inl (.inl h)) (.inl (.inl h'))
      subst e
      simp only [plainD] at px py
      rw [rps_same I xs ys vs px py l l']
    | tuple ys =>
      simp only [Rp] at ry
      obtain ⟨b, ws, e, h', l'⟩ := ry
      cases e
      obtain ⟨its, _, o, ho, hc, _⟩ := Inv.lstIs I h
      obtain ⟨its', _, o', ho', hc', _⟩ := Inv.tupIs I h'
      rw [ho] at ho'; cases ho'
      rw [hc] at hc'; exact absurd hc' (by decide)
    | dict _ => simp [plainD] at py
    | _ => simp [Rp] at ry
  | .tuple xs, y, v, px, py, rx, ry => by
    simp only [Rp] at rx
    obtain ⟨a, vs, rfl, h, l⟩ := rx
    cases y with
    | list ys =>
      simp only [Rp] at ry
      obtain ⟨b, ws, e, h', l'⟩ := ry
      cases e
      obtain ⟨its, _, o, ho, hc, _⟩ := Inv.lstIs I h'
      obtain ⟨its', _, o', ho', hc', _⟩ := Inv.tupIs I h
      rw [ho] at ho'; cases ho'
      rw [hc] at hc'; exact absurd hc' (by decide)
    | tuple ys =>
      simp only [Rp] at ry
      obtain ⟨b, ws, e, h', l'⟩ := ry
      cases e
      have e : vs = ws := I.tuple_inj h h'
      subst e
      simp only [plainD] at px py
      rw [rps_same I xs ys vs px py l l']
    | dict _ => simp [plainD] at py
    | _ => simp [Rp] at ry
  | .dict _, _, _, px, _, _, _ => by simp [plainD] at px
theorem rps_same (I : Inv X pins σ H s) : ∀ (xs ys : List PyData) (vs : List V), plainA xs = true → plainA ys = true → RpL X.K H xs vs → RpL X.K H ys vs → xs = ys
  | [], ys, vs, _, _, rx, ry => by
    simp only [RpL] at rx; subst rx
    cases ys with
    | nil => rfl
    | cons y ys => simp [RpL] at ry
  | x :: xs, ys, vs, px, py, rx, ry => by
    simp only [RpL] at rx
    obtain ⟨v, t, rfl, q, l⟩ := rx
    cases ys with
    | nil => simp [RpL] at ry
    | cons y ys =>
      simp only [RpL] at ry
      obtain ⟨v', t', e, q', l'⟩ := ry
      cases e
      simp only [plainA, Bool.and_eq_true] at px py
      rw [rp_same I x y v px.1 py.1 q q', rps_same I xs ys t px.2 py.2 l l']
end
open PySem.SeqAt in
mutual
theorem rp_eqAt (I : Inv X pins σ H s) : ∀ (x y : PyData) (A : Around) (v w : V) (a b : Value), plainD x = true → plainD y = true → Rp X.K H x v → Rp X.K H y w → RelV v a → RelV w b →
    A.units + min x.depth y.depth < cLine → EqAt A s a b (PyData.eqv x y)
  | .none, y, A, v, w, a, b, _, py, rx, ry, ra, rb, hu => by
    simp only [Rp] at rx; subst rx; cases ra
    cases y with
    | none => simp only [Rp] at ry; subst ry; cases rb; exact EqAt.same _
    | bool y => simp only [Rp] at ry; subst ry; cases rb; exact EqAt.none_bool y
    | int y => simp only [Rp] at ry; subst ry; obtain ⟨u, rfl⟩ := rb; exact EqAt.none_int y u
    | str y => simp only [Rp] at ry; subst ry; obtain ⟨u, rfl⟩ := rb; exact EqAt.none_str y u
    | list ys => simp only [Rp] at ry; obtain ⟨p, ws, rfl, h, _⟩ := ry; cases rb; obtain ⟨its, _, q⟩ := Inv.lstIs I h; exact EqAt.none_list q (room_here hu)
    | tuple ys => simp only [Rp] at ry; obtain ⟨p, ws, rfl, h, _⟩ := ry; cases rb; obtain ⟨its, _, q⟩ := Inv.tupIs I h; exact EqAt.none_tuple q (room_here hu)
    | dict _ => simp [plainD] at py
  | .bool x, y, A, v, w, a, b, _, py, rx, ry, ra, rb, hu => by
    simp only [Rp] at rx; subst rx; cases ra
    cases y with
    | none => simp only [Rp] at ry; subst ry; cases rb; exact EqAt.bool_none x
    | bool y => simp only [Rp] at ry; subst ry; cases rb; exact EqAt.bool_bool x y
    | int y => simp only [Rp] at ry; subst ry; obtain ⟨u, rfl⟩ := rb; exact EqAt.bool_int x y u
    | str y => simp only [Rp] at ry; subst ry; obtain ⟨u, rfl⟩ := rb; exact EqAt.bool_str x y u
    | list ys => simp only [Rp] at ry; obtain ⟨p, ws, rfl, h, _⟩ := ry; cases rb; obtain ⟨its, _, q⟩ := Inv.lstIs I h; exact EqAt.bool_list x q (room_here hu)
    | tuple ys => simp only [Rp] at ry; obtain ⟨p, ws, rfl, h, _⟩ := ry; cases rb; obtain ⟨its, _, q⟩ := Inv.tupIs I h; exact EqAt.bool_tuple x q (room_here hu)
    | dict _ => simp [plainD] at py
  | .int x, y, A, v, w, a, b, _, py, rx, ry, ra, rb, hu => by
    simp only [Rp] at rx; subst rx; obtain ⟨t, rfl⟩ := ra
    cases y with
    | none => simp only [Rp] at ry; subst ry; cases rb; exact EqAt.int_none x t
    | bool y => simp only [Rp] at ry; subst ry; cases rb; exact EqAt.int_bool x t y
    | int y => simp only [Rp] at ry; subst ry; obtain ⟨u, rfl⟩ := rb; exact EqAt.int_int x t y u
    | str y => simp only [Rp] at ry; subst ry; obtain ⟨u, rfl⟩ := rb; exact EqAt.int_str x t y u
    | list ys => simp only [Rp] at ry; obtain ⟨p, ws, rfl, h, _⟩ := ry; cases rb; obtain ⟨its, _, q⟩ := Inv.lstIs I h; exact EqAt.int_list x t q (room_here hu)
    | tuple ys => simp only [Rp] at ry; obtain ⟨p, ws, rfl, h, _⟩ := ry; cases rb; obtain ⟨its, _, q⟩ := Inv.tupIs I h; exact EqAt.int_tuple x t q (room_here hu)
    | dict _ => simp [plainD] at py
  | .str x, y, A, v, w, a, b, _, py, rx, ry, ra, rb, hu => by
    simp only [Rp] at rx; subst rx; obtain ⟨t, rfl⟩ := ra
    cases y with
    | none => simp only [Rp] at ry; subst ry; cases rb; exact EqAt.str_none x t
    | bool y => simp only [Rp] at ry; subst ry; cases rb; exact EqAt.str_bool x t y
    | int y => simp only [Rp] at ry; subst ry; obtain ⟨u, rfl⟩ := rb; exact EqAt.str_int x t y u
    | str y => simp only [Rp] at ry; subst ry; obtain ⟨u, rfl⟩ := rb; exact EqAt.str_str x t y u
    | list ys => simp only [Rp] at ry; obtain ⟨p, ws, rfl, h, _⟩ := ry; cases rb; obtain ⟨its, _, q⟩ := Inv.lstIs I h; exact EqAt.str_list x t q (room_here hu)
    | tuple ys => simp only [Rp] at ry; obtain ⟨p, ws, rfl, h, _⟩ := ry; cases rb; obtain ⟨its, _, q⟩ := Inv.tupIs I h; exact EqAt.str_tuple x t q (room_here hu)
    | dict _ => simp [plainD] at py
  | .list xs, y, A, v, w, a, b, px, py, rx, ry, ra, rb, hu => by
    have rx0 := rx
    have ry0 := ry
    simp only [Rp] at rx
    obtain ⟨p, vs, rfl, h, l⟩ := rx
    cases ra
    obtain ⟨its, rv, hl⟩ := Inv.lstIs I h
    cases y with
    | none => simp only [Rp] at ry; subst ry; cases rb; exact EqAt.list_none hl (room_here hu)
    | bool y => simp only [Rp] at ry; subst ry; cases rb; exact EqAt.list_bool y hl (room_here hu)
    | int y => simp only [Rp] at ry; subst ry; obtain ⟨u, rfl⟩ := rb; exact EqAt.list_int y u hl (room_here hu)
    | str y => simp only [Rp] at ry; subst ry; obtain ⟨u, rfl⟩ := rb; exact EqAt.list_str y u hl (room_here hu)
    | tuple ys => simp only [Rp] at ry; obtain ⟨p', ws, rfl, h', _⟩ := ry; cases rb; obtain ⟨its', _, q⟩ := Inv.tupIs I h'; exact EqAt.list_tuple hl q (room_here hu)
    | dict _ => simp [plainD] at py
    | list ys =>
      simp only [Rp] at ry
      obtain ⟨p', ws, rfl, h', l'⟩ := ry
      cases rb
      obtain ⟨its', rv', hl'⟩ := Inv.lstIs I h'
      have n1 : its.length = xs.length := by rw [← rv.length, l.length]
      have n2 : its'.length = ys.length := by rw [← rv'.length, l'.length]
      simp only [PyData.eqv]
      by_cases hpp : p = p'
      · subst hpp
        have e := rp_same I _ _ _ px py rx0 ry0
        injection e with e
        subst e
        simp only [plainD] at px
        rw [eqvs_self xs px]
        exact EqAt.same _
      · by_cases hsz : xs.length = ys.length
        · rw [← eqvAll_same_length hsz, ← n1]
          refine EqAt.of_refs hpp (RcAt.lists (items := its.toArray) (items2 := its'.toArray) hl hl' (by simp [n1, n2, hsz]) (room_here hu) fun j j1 j2 => ?_)
          simp only [plainD] at px py
          have z := rps_eqAt I xs ys A.in1 vs ws its its' px py l l' rv rv' (room_in hu) j (by simpa using j1) (by simpa using j2)
          simpa using z
        · rw [eqvAll_other_length hsz]
          exact EqAt.of_refs hpp (RcAt.lists_lengths (items := its.toArray) (items2 := its'.toArray) hl hl' (by simp [n1, n2, hsz]) (room_here hu))
  | .tuple xs, y, A, v, w, a, b, px, py, rx, ry, ra, rb, hu => by
    have rx0 := rx
    have ry0 := ry
    simp only [Rp] at rx
    obtain ⟨p, vs, rfl, h, l⟩ := rx
    cases ra
    obtain ⟨its, rv, hl⟩ := Inv.tupIs I h
    cases y with
    | none => simp only [Rp] at ry; subst ry; cases rb; exact EqAt.tuple_none hl (room_here hu)
    | bool y => simp only [Rp] at ry; subst ry; cases rb; exact EqAt.tuple_bool y hl (room_here hu)
    | int y => simp only [Rp] at ry; subst ry; obtain ⟨u, rfl⟩ := rb; exact EqAt.tuple_int y u hl (room_here hu)
    | str y => simp only [Rp] at ry; subst ry; obtain ⟨u, rfl⟩ := rb; exact EqAt.tuple_str y u hl (room_here hu)
    | list ys => simp only [Rp] at ry; obtain ⟨p', ws, rfl, h', _⟩ := ry; cases rb; obtain ⟨its', _, q⟩ := Inv.lstIs I h'; exact EqAt.tuple_list hl q (room_here hu)
    | dict _ => simp [plainD] at py
    | tuple ys =>
      simp only [Rp] at ry
      obtain ⟨p', ws, rfl, h', l'⟩ := ry
      cases rb
      obtain ⟨its', rv', hl'⟩ := Inv.tupIs I h'
      have n1 : its.length = xs.length := by rw [← rv.length, l.length]
      have n2 : its'.length = ys.length := by rw [← rv'.length, l'.length]
      simp only [PyData.eqv]
      by_cases hpp : p = p'
      · subst hpp
        have e := rp_same I _ _ _ px py rx0 ry0
        injection e with e
        subst e
        simp only [plainD] at px
        rw [eqvs_self xs px]
        exact EqAt.same _
      · rw [← eqvAll_eq xs ys, ← n1, ← n2]
        refine EqAt.of_refs hpp ?_
        have z := RcAt.tuples (e := pairEq xs ys) hl hl' (room_here hu) (fun j j1 j2 => ?_)
        · simpa using z
        · simp only [plainD] at px py
          have z := rps_eqAt I xs ys A.in1 vs ws its its' px py l l' rv rv' (room_in hu) j (by simpa using j1) (by simpa using j2)
          simpa using z
  | .dict _, _, _, _, _, _, _, px, _, _, _, _, _, _ => by simp [plainD] at px
theorem rps_eqAt (I : Inv X pins σ H s) : ∀ (xs ys : List PyData) (A : Around) (vs ws : List V) (as bs : List Value), plainA xs = true → plainA ys = true → RpL X.K H xs vs → RpL X.K H ys ws → Vals vs as → Vals ws bs →
    A.units + min (PyData.depthAll xs) (PyData.depthAll ys) < cLine → ∀ j (h1 : j < as.length) (h2 : j < bs.length), EqAt A s as[j] bs[j] (pairEq xs ys j)
  | [], ys, A, vs, ws, as, bs, _, _, rx, _, ra, _, _, j, h1, _ => by
    simp only [RpL] at rx; subst rx; cases ra; exact absurd h1 (Nat.not_lt_zero _)
  | x :: xs, [], A, vs, ws, as, bs, _, _, _, ry, _, rb, _, j, _, h2 => by
    simp only [RpL] at ry; subst ry; cases rb; exact absurd h2 (Nat.not_lt_zero _)
  | x :: xs, y :: ys, A, vs, ws, as, bs, px, py, rx, ry, ra, rb, hu, j, h1, h2 => by
    simp only [RpL] at rx ry
    obtain ⟨v, t, rfl, q, l⟩ := rx
    obtain ⟨w, t', rfl, q', l'⟩ := ry
    simp only [plainA, Bool.and_eq_true] at px py
    cases ra with
    | cons r rs =>
      cases rb with
      | cons r' rs' =>
        cases j with
        | zero => exact rp_eqAt I x y A v w _ _ px.1 py.1 q q' r r' (room_head hu)
        | succ j => exact rps_eqAt I xs ys A t t' _ _ px.2 py.2 l l' rs rs' (room_tail hu) j (Nat.lt_of_succ_lt_succ h1) (Nat.lt_of_succ_lt_succ h2)
end
end
end DL
namespace DL
open PySem PySem.Spec PyProof.Rows L2
section
variable {X : Cx} {pins : List (Addr × Obj)} {s : Shared} {σ : L2.St} {H : Hp}
open PySem.SeqAt in
theorem rp_rcAt (I : Inv X pins σ H s) (x y : PyData) (A : Around) (v w : V) (a b : Value) (px : plainD x = true) (py : plainD y = true) (rx : Rp X.K H x v) (ry : Rp X.K H y w) (ra : RelV v a) (rb : RelV w b)
    (hu : A.units + min x.depth y.depth < cLine) : RcAt A s a b (PyData.eqv x y) := by
  cases x with
  | none =>
    simp only [Rp] at rx; subst rx; cases ra
    cases y with
    | none => simp only [Rp] at ry; subst ry; cases rb; exact RcAt.none_none
    | bool y => simp only [Rp] at ry; subst ry; cases rb; exact RcAt.none_bool y
    | int y => simp only [Rp] at ry; subst ry; obtain ⟨u, rfl⟩ := rb; exact RcAt.none_int y u
    | str y => simp only [Rp] at ry; subst ry; obtain ⟨u, rfl⟩ := rb; exact RcAt.none_str y u
    | list ys => simp only [Rp] at ry; obtain ⟨p, ws, rfl, h, _⟩ := ry; cases rb; obtain ⟨its, _, q⟩ := Inv.lstIs I h; exact RcAt.none_list q (room_here hu)
    | tuple ys => simp only [Rp] at ry; obtain ⟨p, ws, rfl, h, _⟩ := ry; cases rb; obtain ⟨its, _, q⟩ := Inv.tupIs I h; exact RcAt.none_tuple q (room_here hu)
    | dict _ => simp [plainD] at py
  | bool x =>
    simp only [Rp] at rx; subst rx; cases ra
    cases y with
    | none => simp only [Rp] at ry; subst ry; cases rb; exact RcAt.bool_none x
    | bool y => simp only [Rp] at ry; subst ry; cases rb; exact RcAt.bool_bool x y
    | int y => simp only [Rp] at ry; subst ry; obtain ⟨u, rfl⟩ := rb; exact RcAt.bool_int x y u
    | str y => simp only [Rp] at ry; subst ry; obtain ⟨u, rfl⟩ := rb; exact RcAt.bool_str x y u
    | list ys => simp only [Rp] at ry; obtain ⟨p, ws, rfl, h, _⟩ := ry; cases rb; obtain ⟨its, _, q⟩ := Inv.lstIs I h; exact RcAt.bool_list x q (room_here hu)
    | tuple ys => simp only [Rp] at ry; obtain ⟨p, ws, rfl, h, _⟩ := ry; cases rb; obtain ⟨its, _, q⟩ := Inv.tupIs I h; exact RcAt.bool_tuple x q (room_here hu)
    | dict _ => simp [plainD] at py
  | int x =>
    simp only [Rp] at rx; subst rx; obtain ⟨t, rfl⟩ := ra
    cases y with
    | none => simp only [Rp] at ry; subst ry; cases rb; exact RcAt.int_none x t
    | bool y => simp only [Rp] at ry; subst ry; cases rb; exact RcAt.int_bool x t y
    | int y => simp only [Rp] at ry; subst ry; obtain ⟨u, rfl⟩ := rb; exact RcAt.int_int x t y u
    | str y => simp only [Rp] at ry; subst ry; obtain ⟨u, rfl⟩ := rb; exact RcAt.int_str x t y u
    | list ys => simp only [Rp] at ry; obtain ⟨p, ws, rfl, h, _⟩ := ry; cases rb; obtain ⟨its, _, q⟩ := Inv.lstIs I h; exact RcAt.int_list x t q (room_here hu)
    | tuple ys => simp only [Rp] at ry; obtain ⟨p, ws, rfl, h, _⟩ := ry; cases rb; obtain ⟨its, _, q⟩ := Inv.tupIs I h; exact RcAt.int_tuple x t q (room_here hu)
    | dict _ => simp [plainD] at py
  | str x =>
    simp only [Rp] at rx; subst rx; obtain ⟨t, rfl⟩ := ra
    cases y with
    | none => simp only [Rp] at ry; subst ry; cases rb; exact RcAt.str_none x t
    | bool y => simp only [Rp] at ry; subst ry; cases rb; exact RcAt.str_bool x t y
    | int y => simp only [Rp] at ry; subst ry; obtain ⟨u, rfl⟩ := rb; exact RcAt.str_int x t y u
    | str y => simp only [Rp] at ry; subst ry; obtain ⟨u, rfl⟩ := rb; exact RcAt.str_str x t y u
    | list ys => simp only [Rp] at ry; obtain ⟨p, ws, rfl, h, _⟩ := ry; cases rb; obtain ⟨its, _, q⟩ := Inv.lstIs I h; exact RcAt.str_list x t q (room_here hu)
    | tuple ys => simp only [Rp] at ry; obtain ⟨p, ws, rfl, h, _⟩ := ry; cases rb; obtain ⟨its, _, q⟩ := Inv.tupIs I h; exact RcAt.str_tuple x t q (room_here hu)
    | dict _ => simp [plainD] at py
  | list xs =>
    simp only [Rp] at rx
    obtain ⟨p, vs, rfl, h, l⟩ := rx
    cases ra
    obtain ⟨its, rv, hl⟩ := Inv.lstIs I h
    cases y with
    | none => simp only [Rp] at ry; subst ry; cases rb; exact RcAt.list_none hl (room_here hu)
    | bool y => simp only [Rp] at ry; subst ry; cases rb; exact RcAt.list_bool y hl (room_here hu)
    | int y => simp only [Rp] at ry; subst ry; obtain ⟨u, rfl⟩ := rb; exact RcAt.list_int y u hl (room_here hu)
    | str y => simp only [Rp] at ry; subst ry; obtain ⟨u, rfl⟩ := rb; exact RcAt.list_str y u hl (room_here hu)
    | tuple ys => simp only [Rp] at ry; obtain ⟨p', ws, rfl, h', _⟩ := ry; cases rb; obtain ⟨its', _, q⟩ := Inv.tupIs I h'; exact RcAt.list_tuple hl q (room_here hu)
    | dict _ => simp [plainD] at py
    | list ys =>
      simp only [Rp] at ry
      obtain ⟨p', ws, rfl, h', l'⟩ := ry
      cases rb
      obtain ⟨its', rv', hl'⟩ := Inv.lstIs I h'
      have n1 : its.length = xs.length := by rw [← rv.length, l.length]
      have n2 : its'.length = ys.length := by rw [← rv'.length, l'.length]
      simp only [plainD] at px py
      have each : ∀ j (j1 : j < its.toArray.size) (j2 : j < its'.toArray.size), EqAt A.in1 s its.toArray[j] its'.toArray[j] (pairEq xs ys j) := by
        intro j j1 j2
        have z := rps_eqAt I xs ys A.in1 vs ws its its' px py l l' rv rv' (room_in hu) j (by simpa using j1) (by simpa using j2)
        simpa using z
      simp only [PyData.eqv]
      by_cases hsz : xs.length = ys.length
      · rw [← eqvAll_same_length hsz, ← n1]
        have z := RcAt.lists (items := its.toArray) (items2 := its'.toArray) (e := pairEq xs ys) hl hl' (by simp [n1, n2, hsz]) (room_here hu) each
        simpa using z
      · rw [eqvAll_other_length hsz]
        have z := RcAt.lists_lengths (items := its.toArray) (items2 := its'.toArray) hl hl' (by simp [n1, n2, hsz]) (room_here hu)
        simpa using z
  | tuple xs =>
    simp only [Rp] at rx
    obtain ⟨p, vs, rfl, h, l⟩ := rx
    cases ra
    obtain ⟨its, rv, hl⟩ := Inv.tupIs I h
    cases y with
    | none => simp only [Rp] at ry; subst ry; cases rb; exact RcAt.tuple_none hl (room_here hu)
    | bool y => simp only [Rp] at ry; subst ry; cases rb; exact RcAt.tuple_bool y hl (room_here hu)
    | int y => simp only [Rp] at ry; subst ry; obtain ⟨u, rfl⟩ := rb; exact RcAt.tuple_int y u hl (room_here hu)
    | str y => simp only [Rp] at ry; subst ry; obtain ⟨u, rfl⟩ := rb; exact RcAt.tuple_str y u hl (room_here hu)
    | list ys => simp only [Rp] at ry; obtain ⟨p', ws, rfl, h', _⟩ := ry; cases rb; obtain ⟨its', _, q⟩ := Inv.lstIs I h'; exact RcAt.tuple_list hl q (room_here hu)
    | dict _ => simp [plainD] at py
    | tuple ys =>
      simp only [Rp] at ry
      obtain ⟨p', ws, rfl, h', l'⟩ := ry
      cases rb
      obtain ⟨its', rv', hl'⟩ := Inv.tupIs I h'
      have n1 : its.length = xs.length := by rw [← rv.length, l.length]
      have n2 : its'.length = ys.length := by rw [← rv'.length, l'.length]
      simp only [plainD] at px py
      have each : ∀ j (j1 : j < its.toArray.size) (j2 : j < its'.toArray.size), EqAt A.in1 s its.toArray[j] its'.toArray[j] (pairEq xs ys j) := by
        intro j j1 j2
        have z := rps_eqAt I xs ys A.in1 vs ws its its' px py l l' rv rv' (room_in hu) j (by simpa using j1) (by simpa using j2)
        simpa using z
      simp only [PyData.eqv]
      rw [← eqvAll_eq xs ys, ← n1, ← n2]
      have z := RcAt.tuples (e := pairEq xs ys) hl hl' (room_here hu) each
      simpa using z
  | dict _ => simp [plainD] at px
open PySem.SeqAt in
theorem rp_rcNe (I : Inv X pins σ H s) (x y : PyData) (A : Around) (v w : V) (a b : Value) (px : plainD x = true) (py : plainD y = true) (rx : Rp X.K H x v) (ry : Rp X.K H y w) (ra : RelV v a) (rb : RelV w b)
    (hu : A.units + min x.depth y.depth < cLine) : RcNeAt A s a b (!PyData.eqv x y) := by
  cases x with
  | none =>
    simp only [Rp] at rx; subst rx; cases ra
    cases y with
    | none => simp only [Rp] at ry; subst ry; cases rb; exact RcNeAt.none_none
    | bool y => simp only [Rp] at ry; subst ry; cases rb; exact RcNeAt.none_bool y
    | int y => simp only [Rp] at ry; subst ry; obtain ⟨u, rfl⟩ := rb; exact RcNeAt.none_int y u
    | str y => simp only [Rp] at ry; subst ry; obtain ⟨u, rfl⟩ := rb; exact RcNeAt.none_str y u
    | list ys => simp only [Rp] at ry; obtain ⟨p, ws, rfl, h, _⟩ := ry; cases rb; obtain ⟨its, _, q⟩ := Inv.lstIs I h; exact RcNeAt.none_list q (room_here hu)
    | tuple ys => simp only [Rp] at ry; obtain ⟨p, ws, rfl, h, _⟩ := ry; cases rb; obtain ⟨its, _, q⟩ := Inv.tupIs I h; exact RcNeAt.none_tuple q (room_here hu)
    | dict _ => simp [plainD] at py
  | bool x =>
    simp only [Rp] at rx; subst rx; cases ra
    cases y with
    | none => simp only [Rp] at ry; subst ry; cases rb; exact RcNeAt.bool_none x
    | bool y => simp only [Rp] at ry; subst ry; cases rb; exact RcNeAt.bool_bool x y
    | int y => simp only [Rp] at ry; subst ry; obtain ⟨u, rfl⟩ := rb; exact RcNeAt.bool_int x y u
    | str y => simp only [Rp] at ry; subst ry; obtain ⟨u, rfl⟩ := rb; exact RcNeAt.bool_str x y u
    | list ys => simp only [Rp] at ry; obtain ⟨p, ws, rfl, h, _⟩ := ry; cases rb; obtain ⟨its, _, q⟩ := Inv.lstIs I h; exact RcNeAt.bool_list x q (room_here hu)
    | tuple ys => simp only [Rp] at ry; obtain ⟨p, ws, rfl, h, _⟩ := ry; cases rb; obtain ⟨its, _, q⟩ := Inv.tupIs I h; exact RcNeAt.bool_tuple x q (room_here hu)
    | dict _ => simp [plainD] at py
  | int x =>
    simp only [Rp] at rx; subst rx; obtain ⟨t, rfl⟩ := ra
    cases y with
    | none => simp only [Rp] at ry; subst ry; cases rb; exact RcNeAt.int_none x t
    | bool y => simp only [Rp] at ry; subst ry; cases rb; exact RcNeAt.int_bool x t y
    | int y => simp only [Rp] at ry; subst ry; obtain ⟨u, rfl⟩ := rb; exact RcNeAt.int_int x t y u
    | str y => simp only [Rp] at ry; subst ry; obtain ⟨u, rfl⟩ := rb; exact RcNeAt.int_str x t y u
    | list ys => simp only [Rp] at ry; obtain ⟨p, ws, rfl, h, _⟩ := ry; cases rb; obtain ⟨its, _, q⟩ := Inv.lstIs I h; exact RcNeAt.int_list x t q (room_here hu)
    | tuple ys => simp only [Rp] at ry; obtain ⟨p, ws, rfl, h, _⟩ := ry; cases rb; obtain ⟨its, _, q⟩ := Inv.tupIs I h; exact RcNeAt.int_tuple x t q (room_here hu)
    | dict _ => simp [plainD] at py
  | str x =>
    simp only [Rp] at rx; subst rx; obtain ⟨t, rfl⟩ := ra
    cases y with
    | none => simp only [Rp] at ry; subst ry; cases rb; exact RcNeAt.str_none x t
    | bool y => simp only [Rp] at ry; subst ry; cases rb; exact RcNeAt.str_bool x t y
    | int y => simp only [Rp] at ry; subst ry; obtain ⟨u, rfl⟩ := rb; exact RcNeAt.str_int x t y u
    | str y => simp only [Rp] at ry; subst ry; obtain ⟨u, rfl⟩ := rb; exact RcNeAt.str_str x t y u
    | list ys => simp only [Rp] at ry; obtain ⟨p, ws, rfl, h, _⟩ := ry; cases rb; obtain ⟨its, _, q⟩ := Inv.lstIs I h; exact RcNeAt.str_list x t q (room_here hu)
    | tuple ys => simp only [Rp] at ry; obtain ⟨p, ws, rfl, h, _⟩ := ry; cases rb; obtain ⟨its, _, q⟩ := Inv.tupIs I h; exact RcNeAt.str_tuple x t q (room_here hu)
    | dict _ => simp [plainD] at py
  | list xs =>
    simp only [Rp] at rx
    obtain ⟨p, vs, rfl, h, l⟩ := rx
    cases ra
    obtain ⟨its, rv, hl⟩ := Inv.lstIs I h
    cases y with
    | none => simp only [Rp] at ry; subst ry; cases rb; exact RcNeAt.list_none hl (room_here hu)
    | bool y => simp only [Rp] at ry; subst ry; cases rb; exact RcNeAt.list_bool y hl (room_here hu)
    | int y => simp only [Rp] at ry; subst ry; obtain ⟨u, rfl⟩ := rb; exact RcNeAt.list_int y u hl (room_here hu)
    | str y => simp only [Rp] at ry; subst ry; obtain ⟨u, rfl⟩ := rb; exact RcNeAt.list_str y u hl (room_here hu)
    | tuple ys => simp only [Rp] at ry; obtain ⟨p', ws, rfl, h', _⟩ := ry; cases rb; obtain ⟨its', _, q⟩ := Inv.tupIs I h'; exact RcNeAt.list_tuple hl q (room_here hu)
    | dict _ => simp [plainD] at py
    | list ys =>
      simp only [Rp] at ry
      obtain ⟨p', ws, rfl, h', l'⟩ := ry
      cases rb
      obtain ⟨its', rv', hl'⟩ := Inv.lstIs I h'
      have n1 : its.length = xs.length := by rw [← rv.length, l.length]
      have n2 : its'.length = ys.length := by rw [← rv'.length, l'.length]
      simp only [plainD] at px py
      have each : ∀ j (j1 : j < its.toArray.size) (j2 : j < its'.toArray.size), EqAt A.in1 s its.toArray[j] its'.toArray[j] (pairEq xs ys j) := by
        intro j j1 j2
        have z := rps_eqAt I xs ys A.in1 vs ws its its' px py l l' rv rv' (room_in hu) j (by simpa using j1) (by simpa using j2)
        simpa using z
      simp only [PyData.eqv]
      by_cases hsz : xs.length = ys.length
      · rw [← eqvAll_same_length hsz, ← n1]
        have z := RcNeAt.lists (items := its.toArray) (items2 := its'.toArray) (e := pairEq xs ys) hl hl' (by simp [n1, n2, hsz]) (room_here hu) each
        simpa using z
      · rw [eqvAll_other_length hsz]
        have z := RcNeAt.lists_lengths (items := its.toArray) (items2 := its'.toArray) hl hl' (by simp [n1, n2, hsz]) (room_here hu)
        simpa using z
  | tuple xs =>
    simp only [Rp] at rx
    obtain ⟨p, vs, rfl, h, l⟩ := rx
    cases ra
    obtain ⟨its, rv, hl⟩ := Inv.tupIs I h
    cases y with
    | none => simp only [Rp] at ry; subst ry; cases rb; exact RcNeAt.tuple_none hl (room_here hu)
    | bool y => simp only [Rp] at ry; subst ry; cases rb; exact RcNeAt.tuple_bool y hl (room_here hu)
    | int y => simp only [Rp] at ry; subst ry; obtain ⟨u, rfl⟩ := rb; exact RcNeAt.tuple_int y u hl (room_here hu)
    | str y => simp only [Rp] at ry; subst ry; obtain ⟨u, rfl⟩ := rb; exact RcNeAt.tuple_str y u hl (room_here hu)
    | list ys => simp only [Rp] at ry; obtain ⟨p', ws, rfl, h', _⟩ := ry; cases rb; obtain ⟨its', _, q⟩ := Inv.lstIs I h'; exact RcNeAt.tuple_list hl q (room_here hu)
    | dict _ => simp [plainD] at py
    | tuple ys =>
      simp only [Rp] at ry
      obtain ⟨p', ws, rfl, h', l'⟩ := ry
      cases rb
      obtain ⟨its', rv', hl'⟩ := Inv.tupIs I h'
      have n1 : its.length = xs.length := by rw [← rv.length, l.length]
      have n2 : its'.length = ys.length := by rw [← rv'.length, l'.length]
      simp only [plainD] at px py
      have each : ∀ j (j1 : j < its.toArray.size) (j2 : j < its'.toArray.size), EqAt A.in1 s its.toArray[j] its'.toArray[j] (pairEq xs ys j) := by
        intro j j1 j2
        have z := rps_eqAt I xs ys A.in1 vs ws its its' px py l l' rv rv' (room_in hu) j (by simpa using j1) (by simpa using j2)
        simpa using z
      simp only [PyData.eqv]
      rw [← eqvAll_eq xs ys, ← n1, ← n2]
      have z := RcNeAt.tuples (e := pairEq xs ys) hl hl' (room_here hu) each
      simpa using z
  | dict _ => simp [plainD] at px
end
end DL
namespace DL
open PySem PySem.Spec PySem.MeetsSeq PySem.SeqAt PyProof.Rows L2
theorem dict_eq_declines_str (l : Addr) (es : Array DictEntry) (ep : Nat) (dd : Option Addr) (sl : Array (Option Value)) (b : Str) (u : Tok) :
    Meets (Builtin.«dict.__eq__» ⟨[.ref l, .str b u], []⟩) (fun _ R s => s.heap.get? l = some { cls := .type "dict", dict := dd, data := .dict es ep, slots := sl } ∧ R (.ok (.ret .notImplemented)) s) :=
  .of_wp fun prog w A R s h => by obtain ⟨hp, g, d, tk, os⟩ := s; obtain ⟨hl, h⟩ := h; have f1 := F.sub_str_dict; wp_walk using wpAny_loadPart' hl; exact ⟨_, rfl, h⟩
theorem str_eq_declines_dict (b : Str) (u : Tok) (l : Addr) (es : Array DictEntry) (ep : Nat) (dd : Option Addr) (sl : Array (Option Value)) :
    Meets (Builtin.«str.__eq__» ⟨[.str b u, .ref l], []⟩) (fun _ R s => s.heap.get? l = some { cls := .type "dict", dict := dd, data := .dict es ep, slots := sl } ∧ R (.ok (.ret .notImplemented)) s) :=
  .of_wp fun prog w A R s h => by obtain ⟨hp, g, d, tk, os⟩ := s; obtain ⟨hl, h⟩ := h; wp_walk using wpAny_loadPart' hl; exact ⟨_, rfl, h⟩
/-- a dict is no text -/
theorem rc_dict_str {A : Around} {s : Shared} {l : Addr} {o : Obj} {es : Array DictEntry} {ep : Nat} (b : Str) (u : Tok) (ho : s.heap.get? l = some o) (hc : o.cls = .type "dict") (hd : o.data = .dict es ep) (hu : A.units < cLine) : RcAt A s (.ref l) (.str b u) false := by
  intro prog w E Q h
  obtain ⟨cls, dd, data, sl⟩ := o
  simp only at hc hd
  subst hc hd
  exact rc_eq_decline_or (k := false) ⟨_, ho, rfl⟩ (typeIs_str s b u) (by decide) F.sub_str_dict F.slot_dict_eq F.slot_str_eq_refl
    (fun _ hq => call_meets F.slot_dict_eq ⟨_, ho, rfl⟩ F.entry_dict_eq (F.args_dict_eq_2 _ _) (dict_eq_declines_str l es ep dd sl b u) ⟨ho, hq⟩)
    (fun _ hq => call_meets F.slot_str_eq_refl (typeIs_str s b u) F.entry_str_eq (F.args_str_eq_2 _ _) (str_eq_declines_dict b u l es ep dd sl) ⟨ho, hq⟩)
    (fun _ hq => wpAny_of_eq (rfl : isSame (.ref l) (.str b u) = pure false) hq) (.inr hu) h
end DL
namespace DL
open PySem PySem.Spec PyProof.Rows L2
/-! ### arithmetic -/
def subD (x y : PyData) (k : Val → Prop) : Prop :=
  match x, y with
  | .int i, .int j => k (.d (.int (i - j)))
  | _, _ => False
def mulD (x y : PyData) (k : Val → Prop) : Prop :=
  match x, y with
  | .int i, .int j => CMul i j ∧ k (.d (.int (i * j)))
  | .str a, .int j => MulOk a j ∧ k (.d (.str (Txt.mul a j)))
  | .list a, .int j => (-(2 ^ 63) ≤ j ∧ j < 2 ^ 63 ∧ a.length * j.toNat ≤ sizeLine) ∧ k (.d (.list (List.replicate j.toNat a).flatten))
  | _, _ => False
def fdivD (x y : PyData) (k : Val → Prop) : Prop :=
  match x, y with
  | .int i, .int j => CDivN i j ∧ k (.d (.int (i.fdiv j)))
  | _, _ => False
def modD (x y : PyData) (k : Val → Prop) : Prop :=
  match x, y with
  | .int i, .int j => j ≠ 0 ∧ k (.d (.int (i.fmod j)))
  | _, _ => False
def powD (x y : PyData) (k : Val → Prop) : Prop :=
  match x, y with
  | .int i, .int j => CPow i j ∧ k (.d (.int (i ^ j.toNat)))
  | _, _ => False
/-- an operator on data -/
def binD : Operator → PyData → PyData → (Val → Prop) → Prop
  | .Add => addD
  | .Sub => subD
  | .Mult => mulD
  | .FloorDiv => fdivD
  | .Mod => modD
  | .Pow => powD
  | _ => fun _ _ _ => False
theorem subD_mono (x y : PyData) (k k' : Val → Prop) (h : ∀ z, k z → k' z) (q : subD x y k) : subD x y k' := by
  unfold subD at q ⊢
  split at q
  · exact h _ q
  · exact q
theorem mulD_mono (x y : PyData) (k k' : Val → Prop) (h : ∀ z, k z → k' z) (q : mulD x y k) : mulD x y k' := by
  unfold mulD at q ⊢
  split at q
  · exact ⟨q.1, h _ q.2⟩
  · exact ⟨q.1, h _ q.2⟩
  · exact ⟨q.1, h _ q.2⟩
  · exact q
theorem fdivD_mono (x y : PyData) (k k' : Val → Prop) (h : ∀ z, k z → k' z) (q : fdivD x y k) : fdivD x y k' := by
  unfold fdivD at q ⊢
  split at q
  · exact ⟨q.1, h _ q.2⟩
  · exact q
theorem modD_mono (x y : PyData) (k k' : Val → Prop) (h : ∀ z, k z → k' z) (q : modD x y k) : modD x y k' := by
  unfold modD at q ⊢
  split at q
  · exact ⟨q.1, h _ q.2⟩
  · exact q
theorem powD_mono (x y : PyData) (k k' : Val → Prop) (h : ∀ z, k z → k' z) (q : powD x y k) : powD x y k' := by
  unfold powD at q ⊢
  split at q
  · exact ⟨q.1, h _ q.2⟩
  · exact q
theorem RpL.rep {K : PySem.W.Frag} {G : Hp} {xs : List PyData} {vs : List V} (r : RpL K G xs vs) : ∀ k : Nat, RpL K G (List.replicate k xs).flatten (List.replicate k vs).flatten
  | 0 => by simp [RpL]
  | k + 1 => by
    rw [List.replicate_succ, List.replicate_succ, List.flatten_cons, List.flatten_cons]
    exact r.append (RpL.rep r k)
section
variable {X : Cx}
theorem dop_sub : DOp X (binaryOp .Sub) (on2 subD) := by
  refine dop_of subD_mono fun pins s σ H G m T v u x y vx vy dx dy Q I rx ry w r1 r2 e1 e2 q => ?_
  unfold subD at q
  split at q
  · have e := asD_int w r1 e1; subst e
    have e := asD_int w r2 e2; subst e
    exact op_sub pins s σ H _ _ vx vy Q I rx ry ⟨_, _, rfl, rfl, q G H _ (Ext.refl _ _ _) w (by simp [VRel, Rp])⟩
  · exact q.elim
theorem dop_mul : DOp X (binaryOp .Mult) (on2 mulD) := by
  refine dop_of mulD_mono fun pins s σ H G m T v u x y vx vy dx dy Q I rx ry w r1 r2 e1 e2 q => ?_
  unfold mulD at q
  split at q
  · have e := asD_int w r1 e1; subst e
    have e := asD_int w r2 e2; subst e
    exact op_mul pins s σ H _ _ vx vy Q I rx ry ⟨_, _, rfl, rfl, q.1, q.2 G H _ (Ext.refl _ _ _) w (by simp [VRel, Rp])⟩
  · have e := asD_str w r1 e1; subst e
    have e := asD_int w r2 e2; subst e
    obtain ⟨t, rfl⟩ := rx
    obtain ⟨t', rfl⟩ := ry
    exact PySem.SB.mul q.1 fun t' k => ⟨.str (Txt.mul _ _), H, I.tok _, ⟨_, rfl⟩, q.2 G H _ (Ext.refl _ _ _) w (by simp [VRel, Rp])⟩
  · obtain ⟨p1, vs1, rfl, h1, l1⟩ := asD_list w r1 e1
    have e := asD_int w r2 e2; subst e
    refine op_rep pins s σ H _ _ vx vy Q I rx ry ⟨_, _, vs1, rfl, rfl, h1, q.1.1, q.1.2.1, by rw [← l1.length]; exact q.1.2.2, fun p hp => ?_⟩
    exact q.2 _ _ _ (Ext.laid w hp) (w.laid hp) (rp_list upd_same ((l1.rep _).upd (w.gnone hp)))
  · exact q.elim
theorem dop_fdiv : DOp X (binaryOp .FloorDiv) (on2 fdivD) := by
  refine dop_of fdivD_mono fun pins s σ H G m T v u x y vx vy dx dy Q I rx ry w r1 r2 e1 e2 q => ?_
  unfold fdivD at q
  split at q
  · have e := asD_int w r1 e1; subst e
    have e := asD_int w r2 e2; subst e
    exact op_fdivN pins s σ H _ _ vx vy Q I rx ry ⟨_, _, rfl, rfl, q.1, q.2 G H _ (Ext.refl _ _ _) w (by simp [VRel, Rp])⟩
  · exact q.elim
theorem dop_mod : DOp X (binaryOp .Mod) (on2 modD) := by
  refine dop_of modD_mono fun pins s σ H G m T v u x y vx vy dx dy Q I rx ry w r1 r2 e1 e2 q => ?_
  unfold modD at q
  split at q
  · have e := asD_int w r1 e1; subst e
    have e := asD_int w r2 e2; subst e
    exact op_modN pins s σ H _ _ vx vy Q I rx ry ⟨_, _, rfl, rfl, q.1, q.2 G H _ (Ext.refl _ _ _) w (by simp [VRel, Rp])⟩
  · exact q.elim
theorem dop_pow : DOp X (binaryOp .Pow) (on2 powD) := by
  refine dop_of powD_mono fun pins s σ H G m T v u x y vx vy dx dy Q I rx ry w r1 r2 e1 e2 q => ?_
  unfold powD at q
  split at q
  · have e := asD_int w r1 e1; subst e
    have e := asD_int w r2 e2; subst e
    exact op_pow pins s σ H _ _ vx vy Q I rx ry ⟨_, _, rfl, rfl, q.1, q.2 G H _ (Ext.refl _ _ _) w (by simp [VRel, Rp])⟩
  · exact q.elim
theorem dop_no {f : Value → Value → Sem Value} : DOp X f (on2 fun _ _ _ => False) :=
  dop_of (fun _ _ _ _ _ q => q) fun _ _ _ _ _ _ _ _ _ _ _ _ _ _ _ _ _ _ _ _ _ _ _ _ q => q.elim
theorem dop_bin (o : Operator) : DOp X (binaryOp o) (on2 (binD o)) := by
  cases o
  case Add => exact dop_add
  case Sub => exact dop_sub
  case Mult => exact dop_mul
  case FloorDiv => exact dop_fdiv
  case Mod => exact dop_mod
  case Pow => exact dop_pow
  all_goals exact dop_no
end
/-! ### comparisons -/
/-- what == asks: no dict within, at most so deep -/
def EqOk (x y : PyData) : Prop := plainD x = true ∧ plainD y = true ∧ min x.depth y.depth ≤ 100
/-- no look within: a dict, a list, a tuple against a text; a tuple against the empty one -/
def DicStr : PyData → PyData → Prop
  | .dict _, .str _ => True
  | .list _, .str _ => True
  | .tuple _, .str _ => True
  | .tuple _, .tuple [] => True
  | _, _ => False
def strIn (x y : Str) : Bool := !(Builtin.Str.occurrences y x 0 y.length 1).isEmpty
theorem strIn_one (c : Nat) (z : Str) : strIn ⟨#[c]⟩ z = decide (c ∈ z.cps.toList) := PySem.StrLaws.found_one z c
def kvHas (kvs : List (PyData × PyData)) (k : Key) : Bool := kvs.any fun p => decide (keyD p.1 = some k)
def inD (neg : Bool) (x y : PyData) (k : Val → Prop) : Prop :=
  match y with
  | .list ys => (plainD x = true ∧ plainA ys = true ∧ min (PyData.depthAll ys) x.depth ≤ 100) ∧ k (.d (.bool (neg ^^ ys.any fun z => PyData.eqv z x)))
  | .tuple ys => (plainD x = true ∧ plainA ys = true ∧ min (PyData.depthAll ys) x.depth ≤ 100) ∧ k (.d (.bool (neg ^^ ys.any fun z => PyData.eqv z x)))
  | .str b => match x with
    | .str a => k (.d (.bool (neg ^^ strIn a b)))
    | _ => False
  | _ => False
def ordD (f : Int → Int → Bool) (g : List Nat → List Nat → Bool) (x y : PyData) (k : Val → Prop) : Prop :=
  match x, y with
  | .int i, .int j => k (.d (.bool (f i j)))
  | .str a, .str b => k (.d (.bool (g a.cps.toList b.cps.toList)))
  | _, _ => False
def cmpD : CmpOp → PyData → PyData → (Val → Prop) → Prop
  | .Eq => fun x y k => (EqOk x y ∨ DicStr x y) ∧ k (.d (.bool (PyData.eqv x y)))
  | .NotEq => fun x y k => EqOk x y ∧ k (.d (.bool (!PyData.eqv x y)))
  | .Lt => ordD (fun i j => decide (i < j)) (fun a b => decide (a < b))
  | .LtE => ordD (fun i j => decide (i ≤ j)) (fun a b => !decide (b < a))
  | .Gt => ordD (fun i j => decide (j < i)) (fun a b => decide (b < a))
  | .GtE => ordD (fun i j => decide (j ≤ i)) (fun a b => !decide (a < b))
  | .In => inD false
  | .NotIn => inD true
  | _ => fun _ _ _ => False
theorem inD_mono (neg : Bool) (x y : PyData) (k k' : Val → Prop) (h : ∀ z, k z → k' z) (q : inD neg x y k) : inD neg x y k' := by
  unfold inD at q ⊢
  split at q
  · exact ⟨q.1, h _ q.2⟩
  · exact ⟨q.1, h _ q.2⟩
  · split at q
    · exact h _ q
    · exact q
  · exact q
theorem ordD_mono (f : Int → Int → Bool) (g : List Nat → List Nat → Bool) (x y : PyData) (k k' : Val → Prop) (h : ∀ z, k z → k' z) (q : ordD f g x y k) : ordD f g x y k' := by
  unfold ordD at q ⊢
  split at q
  · exact h _ q
  · exact h _ q
  · exact q
theorem vrel_bool {K : PySem.W.Frag} {G : Hp} {m : Fp} (b : Bool) : VRel K G m (.d (.bool b)) (.bl b) := by simp [VRel, Rp]
section
variable {X : Cx}
theorem dop_eq (hu : X.A.units + 100 < cLine) : DOp X (compareOp .Eq) (on2 (cmpD .Eq)) := by
  refine dop_of (fun x y k k' h q => ⟨q.1, h _ q.2⟩) fun pins s σ H G m T v u x y vx vy dx dy Q I rx ry w r1 r2 e1 e2 q => ?_
  obtain ⟨p, q⟩ := q
  have d1 := asD_rp w r1 e1
  have d2 := asD_rp w r2 e2
  rcases p with ⟨p1, p2, p3⟩ | p
  · exact rp_rcAt I dx dy X.A x y vx vy p1 p2 d1 d2 rx ry (by omega) X.prog X.w X.xe _ ⟨.bl _, H, I, rfl, q G H _ (Ext.refl _ _ _) w (vrel_bool _)⟩
  · unfold DicStr at p
    split at p
    · rename_i zs
      simp only [Rp] at d1 d2
      obtain ⟨a, ks, rfl, h, _⟩ := d1
      subst d2
      cases rx
      obtain ⟨t, rfl⟩ := ry
      obtain ⟨_, _, vs, _, o, es, ep, h1, h2, h3, _⟩ := (show ObjOk X.prog X.w H s.heap a (.dK ks) from I.hok a _ h)
      have f := rc_dict_str (A := X.A) zs t h1 h2.1 h3 (by omega)
      exact f X.prog X.w X.xe _ ⟨.bl false, H, I, rfl, q G H _ (Ext.refl _ _ _) w (vrel_bool _)⟩
    · rename_i zs
      simp only [Rp] at d1 d2
      obtain ⟨a, ks, rfl, h, _⟩ := d1
      subst d2
      cases rx
      obtain ⟨t, rfl⟩ := ry
      obtain ⟨its, _, hl⟩ := Inv.lstIs I h
      exact SeqAt.RcAt.list_str zs t hl (by omega) X.prog X.w X.xe _ ⟨.bl false, H, I, rfl, q G H _ (Ext.refl _ _ _) w (vrel_bool _)⟩
    · rename_i zs
      simp only [Rp] at d1 d2
      obtain ⟨a, ks, rfl, h, _⟩ := d1
      subst d2
      cases rx
      obtain ⟨t, rfl⟩ := ry
      obtain ⟨its, _, hl⟩ := Inv.tupIs I h
      exact SeqAt.RcAt.tuple_str zs t hl (by omega) X.prog X.w X.xe _ ⟨.bl false, H, I, rfl, q G H _ (Ext.refl _ _ _) w (vrel_bool _)⟩
    · rename_i xs
      simp only [Rp, RpL] at d1 d2
      obtain ⟨a, vs, rfl, h, l⟩ := d1
      obtain ⟨a', vs', rfl, h', l'⟩ := d2
      subst l'
      cases rx
      cases ry
      obtain ⟨its, rv, hl⟩ := Inv.tupIs I h
      obtain ⟨its', rv', hl'⟩ := Inv.tupIs I h'
      cases rv'
      have n1 : its.length = xs.length := by rw [← rv.length, l.length]
      have z := SeqAt.RcAt.tuples (A := X.A) (items := its.toArray) (items2 := ([] : List Value).toArray) (e := fun _ => true) hl hl' (by omega) (by intro j j1 j2; simp at j2)
      have ez : PyData.eqv (.tuple xs) (.tuple []) = (its.toArray.size == 0) := by
        cases xs with
        | nil => cases its with
          | nil => rfl
          | cons _ _ => simp at n1
        | cons _ _ => cases its with
          | nil => simp at n1
          | cons _ _ => rfl
      rw [ez] at q
      have z2 : SeqAt.RcAt X.A s (.ref a) (.ref a') (its.toArray.size == 0) := by
        have e1 : ((List.range (min its.toArray.size ([] : List Value).toArray.size)).all (fun _ => true) && its.toArray.size == ([] : List Value).toArray.size) = (its.toArray.size == 0) := by simp
        rw [← e1]
        exact z
      exact z2 X.prog X.w X.xe _ ⟨.bl _, H, I, rfl, q G H _ (Ext.refl _ _ _) w (vrel_bool _)⟩
    · exact p.elim
theorem dop_ne (hu : X.A.units + 100 < cLine) : DOp X (compareOp .NotEq) (on2 (cmpD .NotEq)) := by
  refine dop_of (fun x y k k' h q => ⟨q.1, h _ q.2⟩) fun pins s σ H G m T v u x y vx vy dx dy Q I rx ry w r1 r2 e1 e2 q => ?_
  obtain ⟨⟨p1, p2, p3⟩, q⟩ := q
  have d1 := asD_rp w r1 e1
  have d2 := asD_rp w r2 e2
  exact rp_rcNe I dx dy X.A x y vx vy p1 p2 d1 d2 rx ry (by omega) X.prog X.w X.xe _ ⟨.bl _, H, I, rfl, q G H _ (Ext.refl _ _ _) w (vrel_bool _)⟩
theorem dop_ord {op : CmpOp} {f : Int → Int → Bool} {g : List Nat → List Nat → Bool} (h1 : OpR X (compareOp op) (rI0 fun i j => .bl (f i j)))
    (h2 : OpR X (compareOp op) (fun x y H Q => ∃ i j : Str, x = .str i ∧ y = .str j ∧ Q (.bl (g i.cps.toList j.cps.toList)) H)) : DOp X (compareOp op) (on2 (ordD f g)) := by
  refine dop_of (ordD_mono f g) fun pins s σ H G m T v u x y vx vy dx dy Q I rx ry w r1 r2 e1 e2 q => ?_
  unfold ordD at q
  split at q
  · have e := asD_int w r1 e1; subst e
    have e := asD_int w r2 e2; subst e
    exact h1 pins s σ H _ _ vx vy Q I rx ry ⟨_, _, rfl, rfl, q G H _ (Ext.refl _ _ _) w (vrel_bool _)⟩
  · have e := asD_str w r1 e1; subst e
    have e := asD_str w r2 e2; subst e
    exact h2 pins s σ H _ _ vx vy Q I rx ry ⟨_, _, rfl, rfl, q G H _ (Ext.refl _ _ _) w (vrel_bool _)⟩
  · exact q.elim
/-- the answer of an item's value -/
noncomputable def hitV (its : List Value) (ys : List PyData) (x : PyData) (u : Value) : Bool :=
  @decide (∃ (i : Nat) (z : PyData), its[i]? = some u ∧ ys[i]? = some z ∧ PyData.eqv z x = true) (Classical.propDecidable _)
theorem hit_each {pins : List (Addr × Obj)} {s : Shared} {σ : L2.St} {H : Hp} (I : Inv X pins σ H s) {ys : List PyData} {vs : List V} {its : List Value} {x : PyData} {v : V} {a : Value} (py : plainA ys = true) (px : plainD x = true)
    (l : RpL X.K H ys vs) (rv : Vals vs its) (rx : Rp X.K H x v) (ra : RelV v a) (hu : X.A.units + 1 + min (PyData.depthAll ys) x.depth < cLine) :
    (∀ u ∈ its, SeqAt.EqAt X.A.in1 s u a (hitV its ys x u)) ∧ its.any (hitV its ys x) = ys.any fun z => PyData.eqv z x := by
  have plain_at : ∀ {zs : List PyData} {i : Nat} {z : PyData}, plainA zs = true → zs[i]? = some z → plainD z = true ∧ z.depth ≤ PyData.depthAll zs := by
    intro zs
    induction zs with
    | nil => intro i z _ e; simp at e
    | cons y zs ih =>
      intro i z p e
      simp only [plainA, Bool.and_eq_true] at p
      simp only [PyData.depthAll]
      cases i with
      | zero => simp at e; subst e; exact ⟨p.1, Nat.le_max_left _ _⟩
      | succ i =>
        obtain ⟨h1, h2⟩ := ih (i := i) p.2 (by simpa using e)
        exact ⟨h1, Nat.le_trans h2 (Nat.le_max_right _ _)⟩
  have one : ∀ (i : Nat) (u : Value), its[i]? = some u → ∃ z vz, ys[i]? = some z ∧ Rp X.K H z vz ∧ RelV vz u := by
    intro i u e
    have hi : i < ys.length := by
      have := (List.getElem?_eq_some_iff.mp e).1
      rw [← rv.length, ← l.length] at this
      exact this
    obtain ⟨vz, h1, h2⟩ := l.get (List.getElem?_eq_getElem hi)
    obtain ⟨u', h3, h4⟩ := rv.get h1
    rw [e] at h3; cases h3
    exact ⟨_, vz, List.getElem?_eq_getElem hi, h2, h4⟩
  have says : ∀ (i : Nat) (u : Value) (z : PyData), its[i]? = some u → ys[i]? = some z → hitV its ys x u = PyData.eqv z x := by
    intro i u z e ez
    obtain ⟨z1, v1, q1, q2, q3⟩ := one i u e
    rw [ez] at q1; cases q1
    unfold hitV
    cases c : PyData.eqv z x with
    | true => simp only [decide_eq_true_eq]; exact ⟨i, z, e, ez, c⟩
    | false =>
      simp only [decide_eq_false_iff_not]
      rintro ⟨j, z', ej, ejz, cj⟩
      obtain ⟨z2, v2, p1, p2, p3⟩ := one j u ej
      rw [ejz] at p1; cases p1
      have ev : v1 = v2 := q3.inj p3
      subst ev
      have ez' := rp_same I z z' v1 (plain_at py ez).1 (plain_at py ejz).1 q2 p2
      subst ez'
      rw [c] at cj; cases cj
  refine ⟨fun u hu' => ?_, ?_⟩
  · obtain ⟨i, hi, e⟩ := List.mem_iff_getElem.mp hu'
    have e' : its[i]? = some u := by rw [List.getElem?_eq_getElem hi, e]
    obtain ⟨z, vz, h1, h2, h3⟩ := one i u e'
    rw [says i u z e' h1]
    obtain ⟨pz, dz⟩ := plain_at py h1
    refine rp_eqAt I z x X.A.in1 vz v u a pz px h2 rx h3 ra ?_
    have : min z.depth x.depth ≤ min (PyData.depthAll ys) x.depth := by omega
    show X.A.units + 1 + min z.depth x.depth < cLine
    omega
  · rw [Bool.eq_iff_iff, List.any_eq_true, List.any_eq_true]
    constructor
    · rintro ⟨u, hu', c⟩
      obtain ⟨i, hi, e⟩ := List.mem_iff_getElem.mp hu'
      have e' : its[i]? = some u := by rw [List.getElem?_eq_getElem hi, e]
      obtain ⟨z, vz, h1, _, _⟩ := one i u e'
      exact ⟨z, List.mem_of_getElem? h1, by rw [← says i u z e' h1]; exact c⟩
    · rintro ⟨z, hz, c⟩
      obtain ⟨i, hi, e⟩ := List.mem_iff_getElem.mp hz
      have h1 : ys[i]? = some z := by rw [List.getElem?_eq_getElem hi, e]
      have hi' : i < its.length := by rw [← rv.length, ← l.length]; exact hi
      have e' : its[i]? = some its[i] := List.getElem?_eq_getElem hi'
      exact ⟨its[i], List.mem_of_getElem? e', by rw [says i _ z e' h1]; exact c⟩
theorem dop_in (hu : X.A.units + 102 < cLine) : DOp X (compareOp .In) (on2 (cmpD .In)) := by
  refine dop_of (inD_mono false) fun pins s σ H G m T v u x y vx vy dx dy Q I rx ry w r1 r2 e1 e2 q => ?_
  have d1 := asD_rp w r1 e1
  have d2 := asD_rp w r2 e2
  simp only [cmpD] at q
  unfold inD at q
  split at q
  · obtain ⟨⟨p1, p2, p3⟩, q⟩ := q
    simp only [Rp] at d2
    obtain ⟨a, vs, rfl, h, l⟩ := d2
    cases ry
    obtain ⟨its, rv, hl⟩ := Inv.lstIs I h
    obtain ⟨c1, c2⟩ := hit_each I p2 p1 l rv d1 rx (by omega)
    refine SeqAt.in_listAt (items := its.toArray) _ hl (fun z hz => c1 z (by simpa using hz)) ⟨.bl _, H, I, rfl, ?_⟩
    rw [List.any_toArray, c2]
    simpa using q G H _ (Ext.refl _ _ _) w (vrel_bool _)
  · obtain ⟨⟨p1, p2, p3⟩, q⟩ := q
    simp only [Rp] at d2
    obtain ⟨a, vs, rfl, h, l⟩ := d2
    cases ry
    obtain ⟨its, rv, hl⟩ := Inv.tupIs I h
    obtain ⟨c1, c2⟩ := hit_each I p2 p1 l rv d1 rx (by omega)
    refine SeqAt.in_tupleAt (items := its.toArray) _ hl (fun z hz => c1 z (by simpa using hz)) ⟨.bl _, H, I, rfl, ?_⟩
    rw [List.any_toArray, c2]
    simpa using q G H _ (Ext.refl _ _ _) w (vrel_bool _)
  · split at q
    · simp only [Rp] at d1 d2
      subst d1 d2
      exact op_in_str pins s σ H _ _ vx vy Q I rx ry ⟨_, _, rfl, rfl, by simpa [strIn] using q G H _ (Ext.refl _ _ _) w (vrel_bool _)⟩
    · exact q.elim
  · exact q.elim
theorem dop_notIn (hu : X.A.units + 102 < cLine) : DOp X (compareOp .NotIn) (on2 (cmpD .NotIn)) := by
  refine dop_of (inD_mono true) fun pins s σ H G m T v u x y vx vy dx dy Q I rx ry w r1 r2 e1 e2 q => ?_
  have d1 := asD_rp w r1 e1
  have d2 := asD_rp w r2 e2
  simp only [cmpD] at q
  unfold inD at q
  split at q
  · obtain ⟨⟨p1, p2, p3⟩, q⟩ := q
    simp only [Rp] at d2
    obtain ⟨a, vs, rfl, h, l⟩ := d2
    cases ry
    obtain ⟨its, rv, hl⟩ := Inv.lstIs I h
    obtain ⟨c1, c2⟩ := hit_each I p2 p1 l rv d1 rx (by omega)
    refine SeqAt.notIn_listAt (items := its.toArray) _ hl (fun z hz => c1 z (by simpa using hz)) ⟨.bl _, H, I, rfl, ?_⟩
    rw [List.any_toArray, c2]
    simpa using q G H _ (Ext.refl _ _ _) w (vrel_bool _)
  · obtain ⟨⟨p1, p2, p3⟩, q⟩ := q
    simp only [Rp] at d2
    obtain ⟨a, vs, rfl, h, l⟩ := d2
    cases ry
    obtain ⟨its, rv, hl⟩ := Inv.tupIs I h
    obtain ⟨c1, c2⟩ := hit_each I p2 p1 l rv d1 rx (by omega)
    refine SeqAt.notIn_tupleAt (items := its.toArray) _ hl (fun z hz => c1 z (by simpa using hz)) ⟨.bl _, H, I, rfl, ?_⟩
    rw [List.any_toArray, c2]
    simpa using q G H _ (Ext.refl _ _ _) w (vrel_bool _)
  · split at q
    · simp only [Rp] at d1 d2
      subst d1 d2
      exact op_notin_str pins s σ H _ _ vx vy Q I rx ry ⟨_, _, rfl, rfl, by simpa [strIn] using q G H _ (Ext.refl _ _ _) w (vrel_bool _)⟩
    · exact q.elim
  · exact q.elim
/-! ### is None: of any value -/
def isNone : Val → Bool
  | .d .none => true
  | _ => false
theorem isNone_rel {K : PySem.W.Frag} {G : Hp} {m : Fp} {v : Val} {x : V} (r : VRel K G m v x) : decide (x = .non) = isNone v := by
  cases v with
  | d y =>
    cases y with
    | none => simp [VRel, Rp] at r; subst r; rfl
    | bool _ => simp [VRel, Rp] at r; subst r; rfl
    | int _ => simp [VRel, Rp] at r; subst r; rfl
    | str _ => simp [VRel, Rp] at r; subst r; rfl
    | list _ => simp [VRel, Rp] at r; obtain ⟨a, rfl, _⟩ := r; rfl
    | tuple _ => simp [VRel, Rp] at r; obtain ⟨a, rfl, _⟩ := r; rfl
    | dict _ => simp [VRel, Rp] at r; obtain ⟨a, rfl, _⟩ := r; rfl
  | ob k => obtain ⟨a, _, _, rfl⟩ := r; rfl
  | ty n => cases r; rfl
  | ex _ => obtain ⟨a, _, rfl, _⟩ := r; rfl
  | scr _ => obtain ⟨a, rfl, _⟩ := r; rfl
  | fn _ => cases r; rfl
/-- is, is not: against None, and of two truths -/
def isW (neg : Bool) : G2 := fun _ v u k =>
  match u with
  | .d .none => k (.d (.bool (neg ^^ isNone v)))
  | .d (.bool b) => match v with
    | .d (.bool a) => k (.d (.bool (neg ^^ decide (a = b))))
    | _ => False
  | _ => False
theorem isW_mono (neg : Bool) : Mono2 (isW neg) := fun T v u k k' h q => by
  unfold isW at q ⊢
  split at q
  · exact h _ q
  · split at q
    · exact h _ q
    · exact q
  · exact q
theorem dop_is : DOp X (compareOp .Is) (isW false) := by
  refine ⟨isW_mono false, fun pins s σ H x y vx vy Q I rx ry q => ?_⟩
  obtain ⟨G, m, T, v, u, w, r1, r2, q⟩ := q
  unfold isW at q
  split at q
  · simp [VRel, Rp] at r2; subst r2
    exact op_isN pins s σ H _ _ vx vy Q I rx ry ⟨rfl, by rw [isNone_rel r1]; simpa using q G H _ (Ext.refl _ _ _) w (vrel_bool _)⟩
  · split at q
    · simp [VRel, Rp] at r1 r2; subst r1 r2
      exact op_isBl pins s σ H _ _ vx vy Q I rx ry ⟨_, _, rfl, rfl, by simpa using q G H _ (Ext.refl _ _ _) w (vrel_bool _)⟩
    · exact q.elim
  · exact q.elim
theorem dop_isNot : DOp X (compareOp .IsNot) (isW true) := by
  refine ⟨isW_mono true, fun pins s σ H x y vx vy Q I rx ry q => ?_⟩
  obtain ⟨G, m, T, v, u, w, r1, r2, q⟩ := q
  unfold isW at q
  split at q
  · simp [VRel, Rp] at r2; subst r2
    exact op_notN pins s σ H _ _ vx vy Q I rx ry ⟨rfl, by rw [isNone_rel r1]; simpa using q G H _ (Ext.refl _ _ _) w (vrel_bool _)⟩
  · split at q
    · simp [VRel, Rp] at r1 r2; subst r1 r2
      exact op_notBl pins s σ H _ _ vx vy Q I rx ry ⟨_, _, rfl, rfl, by simpa using q G H _ (Ext.refl _ _ _) w (vrel_bool _)⟩
    · exact q.elim
  · exact q.elim
/-- every comparison -/
def cmpW (o : CmpOp) : G2 := match o with
  | .Is => isW false
  | .IsNot => isW true
  | o => on2 (cmpD o)
theorem dop_cmp (hu : X.A.units + 102 < cLine) (o : CmpOp) : DOp X (compareOp o) (cmpW o) := by
  cases o
  case Eq => exact dop_eq (by omega)
  case NotEq => exact dop_ne (by omega)
  case Lt => exact dop_ord (g := fun a b => decide (a < b)) op_lt op_lt_str
  case LtE => exact dop_ord (g := fun a b => !decide (b < a)) op_le op_le_str
  case Gt => exact dop_ord (g := fun a b => decide (b < a)) op_gt op_gt_str
  case GtE => exact dop_ord (g := fun a b => !decide (a < b)) op_ge op_ge_str
  case Is => exact dop_is
  case IsNot => exact dop_isNot
  case In => exact dop_in hu
  case NotIn => exact dop_notIn hu
end
end DL
namespace DL
open PySem PySem.Spec PyProof.Rows L2
/-! ### the language -/
inductive Pat where
  | nm (i : Nat)
  | tp (ps : List Pat)
inductive Bi where
  | len | int | str | abs | min | max | list | tuple | sum | all | any | bool
  deriving DecidableEq
inductive Mt where
  | append | pop | popAt | extend | clear | insert | split | join | index | upper
  deriving DecidableEq
mutual
inductive E where
  | var (i : Nat) | cst (x : PyData) | glb (n : Nat)
  | tup (es : Es) | lst (es : Es) | lstO (es : Es)
  | bin (o : Operator) (a b : E) | cmp (o : CmpOp) (a b : E) | chain (o o' : CmpOp) (a b c : E)
  | neg (a : E) | not (a : E) | and (a b : E) | or (a b : E) | ife (c a b : E)
  | idx (a i : E) | slc (a : E) (lo hi : Oe)
  | isi (a : E) (ts : List String)
  | bi (f : Bi) (es : Es) | mt (f : Mt) (o : E) (es : Es)
  | call (f : Nat) (es : Es)
  | call0 (f : Nat)
  | callK (j f : Nat) (pm : List Nat) (es ks : Es)
  | tupS (a b : E) | fnv (x : Str) | callV (i : Nat) (tb : List (Str × Nat)) (es : Es)
  | comp2 (own : List Nat) (elt : E) (p : Pat) (it : Itr) (c : Oe) (own1 : List Nat) (p1 : Pat) (it1 : Itr) (c1 : Oe) (live : Bool)
  | caught (cc : Str) (e : E) | isx (a : E) (c : Str)
  | dgt (a i : E) | get2 (o k d : E) | kin (neg : Bool) (k d : E) | dicO (ks : List Str) (es : Es) | dct0 | mkl (a : E)
  | comp (own : List Nat) (elt : E) (p : Pat) (it : Itr) (c : Oe) (live : Bool)
  | frz (a : E)
  | fld (a : E) (f c : Str)
inductive Es where
  | nil | cons (e : E) (r : Es)
inductive Oe where
  | none | some (e : E)
inductive Itr where
  | seq (a : E) | rng1 (a : E) | rng2 (a b : E) | rng3 (a b c : E) | enum (a : E) | zip (a b : E)
end
mutual
inductive S where
  | set (p : Pat) (e : E)
  | par (ps : List Nat) (es : Es)
  | put (o i e : E)
  | dput (o i e : E)
  | exp (e : E)
  | ite (c : E) (a b : Ss)
  | whl (c : E) (b : Ss)
  | loop (p : Pat) (it : Itr) (b : Ss)
  | ret (e : E) | retN | brk | cnt | pass | never
  | raise (c : Str) (ps : List Str) (es : Es) | raiseX (c : Str)
inductive Ss where
  | nil | cons (s : S) (r : Ss)
end
/-! ### slots and tables, read by place -/
def getS : Slots → Nat → Option Val
  | [], _ => none
  | x :: _, 0 => x
  | _ :: r, n + 1 => getS r n
theorem getS_some {v : Val} : ∀ {sl : Slots} {i : Nat}, getS sl i = some v → sl[i]? = some (some v)
  | x :: _, 0, h => by simp [getS] at h; simp [h]
  | _ :: r, n + 1, h => by simp [getS] at h; simp [getS_some h]
def getT : Tab → Nat → Option Ob
  | [], _ => none
  | x :: _, 0 => some x
  | _ :: r, n + 1 => getT r n
theorem getT_eq : ∀ (T : Tab) (i : Nat), getT T i = T[i]?
  | [], _ => by simp [getT]
  | x :: _, 0 => by simp [getT]
  | _ :: r, n + 1 => by simp [getT, getT_eq r n]
def setS : Slots → Nat → Option Val → Slots
  | [], _, _ => []
  | _ :: r, 0, v => v :: r
  | x :: r, n + 1, v => x :: setS r n v
theorem setS_eq : ∀ (sl : Slots) (i : Nat) (v : Option Val), setS sl i v = sl.set i v
  | [], _, _ => by simp [setS]
  | _ :: r, 0, v => by simp [setS]
  | x :: r, n + 1, v => by simp [setS, setS_eq r n v]
def setT : Tab → Nat → Ob → Tab
  | [], _, _ => []
  | _ :: r, 0, v => v :: r
  | x :: r, n + 1, v => x :: setT r n v
theorem setT_eq : ∀ (sl : Tab) (i : Nat) (v : Ob), setT sl i v = sl.set i v
  | [], _, _ => by simp [setT]
  | _ :: r, 0, v => by simp [setT]
  | x :: r, n + 1, v => by simp [setT, setT_eq r n v]
/-- the field f of a caught error of the class c -/
def fldV (c f : Str) : Val → Option PyData
  | .ex x => if x.cls = c then x.fs.lookup f else none
  | _ => none
/-! ### what the parts mean -/
def truW (T : Tab) (v : Val) (k : Bool → Prop) : Prop :=
  match v with
  | .d .none => k false
  | .d (.bool b) => k b
  | .d (.int i) => k (i != 0)
  | .d (.str s) => s.length ≤ sizeLine ∧ k ((s.length : Int) != 0)
  | .d (.list xs) => k (!xs.isEmpty)
  | .d (.tuple xs) => k (!xs.isEmpty)
  | .d (.dict xs) => k (!xs.isEmpty)
  | .ob n => match getT T n with
    | some (.lst xs) => k (!xs.isEmpty)
    | some (.dic xs) => k (!xs.isEmpty)
    | _ => False
  | _ => False
def dv : List PyData → List Val
  | [] => []
  | x :: r => .d x :: dv r
/-- the items of a thing that is walked; of a live list its place -/
def itemsW (T : Tab) (v : Val) (k : List Val → Option (Nat × List Val) → Prop) : Prop :=
  match v with
  | .d (.list xs) => k (dv xs) none
  | .d (.tuple xs) => k (dv xs) none
  | .d (.str s) => k (s.cps.toList.map fun c => .d (.str ⟨#[c]⟩)) none
  | .ob n => match getT T n with
    | some (.lst xs) => k xs (some (n, xs))
    | _ => False
  | .scr ns => k (ns.map fun i => .d (.int i)) none
  | _ => False
def lenW (T : Tab) (v : Val) (k : Val → Prop) : Prop :=
  match v with
  | .d (.list xs) => k (.d (.int xs.length))
  | .d (.tuple xs) => k (.d (.int xs.length))
  | .d (.str s) => s.length ≤ sizeLine ∧ k (.d (.int s.length))
  | .d (.dict xs) => k (.d (.int xs.length))
  | .ob n => match getT T n with
    | some (.lst xs) => k (.d (.int xs.length))
    | some (.dic xs) => k (.d (.int xs.length))
    | _ => False
  | .scr ns => k (.d (.int ns.length))
  | _ => False
/-- xs[i] -/
def idxW : G2 := fun T v u k =>
  match u with
  | .d (.int i) => match v with
    | .d (.list xs) => match atI xs i with
      | some x => k (.d x)
      | none => False
    | .d (.tuple xs) => match atI xs i with
      | some x => k (.d x)
      | none => False
    | .d (.str s) => s.length ≤ sizeLine ∧ match atI s.cps.toList i with
      | some c => k (.d (.str ⟨#[c]⟩))
      | none => False
    | .ob n => match getT T n with
      | some (.lst xs) => match atI xs i with
        | some x => k x
        | none => False
      | _ => False
    | _ => False
  | _ => False
def optI : Option Val → Option (Option Int)
  | none => some none
  | some (.d (.int i)) => some (some i)
  | _ => none
def cutD (xs : List PyData) (lo hi : Option Int) : List PyData := (xs.drop (HT.sIx xs.length 0 lo)).take (HT.sIx xs.length xs.length hi - HT.sIx xs.length 0 lo)
/-- xs[lo:hi] -/
def slcW (T : Tab) (v : Val) (lo hi : Option Int) (k : Val → Prop) : Prop :=
  match asD T v with
  | some (.list xs) => k (.d (.list (cutD xs lo hi)))
  | some (.tuple xs) => k (.d (.tuple (cutD xs lo hi)))
  | some (.str s) => s.length ≤ sizeLine ∧ k (.d (.str (cutS s lo hi)))
  | _ => False
def tyName (T : Tab) : Val → Option String
  | .d .none => some "NoneType"
  | .d (.bool _) => some "bool"
  | .d (.int _) => some "int"
  | .d (.str _) => some "str"
  | .d (.list _) => some "list"
  | .d (.tuple _) => some "tuple"
  | .d (.dict _) => some "dict"
  | .ob n => match getT T n with
    | some (.lst _) => some "list"
    | some (.dic _) => some "dict"
    | _ => none
  | _ => none
/-- is a type one of these: a bool is an int -/
def isTy (t : String) (ts : List String) : Bool := ts.any fun u => t == u || (t == "bool" && u == "int")
def intsD : List PyData → Option (List Int)
  | [] => some []
  | .int i :: r => match intsD r with
    | some l => some (i :: l)
    | none => none
  | _ :: _ => none
def boolsD : List PyData → Option (List Bool)
  | [] => some []
  | .bool i :: r => match boolsD r with
    | some l => some (i :: l)
    | none => none
  | _ :: _ => none
def biW (f : Bi) (T : Tab) (vs : List Val) (k : Val → Prop) : Prop :=
  match f, vs with
  | .len, [v] => lenW T v k
  | .int, [.d (.int i)] => k (.d (.int i))
  | .int, [.d (.bool b)] => k (.d (.int (if b then 1 else 0)))
  | .bool, [.d (.bool b)] => k (.d (.bool b))
  | .bool, [.d (.int i)] => k (.d (.bool (i != 0)))
  | .str, [.d (.int i)] => i.natAbs.log2 < 1920 ∧ k (.d (.str (toString i)))
  | .abs, [.d (.int i)] => k (.d (.int (if i < 0 then -i else i)))
  | .min, [.d (.int i), .d (.int j)] => k (.d (.int (if j < i then j else i)))
  | .max, [.d (.int i), .d (.int j)] => k (.d (.int (if j > i then j else i)))
  | .tuple, [v] => match asD T v with
    | some (.list xs) => k (.d (.tuple xs))
    | some (.tuple xs) => k (.d (.tuple xs))
    | _ => False
  | .sum, [v] => match asD T v with
    | some (.list xs) => match intsD xs with
      | some ns => k (.d (.int ns.sum))
      | none => False
    | _ => False
  | .all, [v] => match asD T v with
    | some (.list xs) => match boolsD xs with
      | some bs => k (.d (.bool (bs.all id)))
      | none => False
    | _ => False
  | .any, [v] => match asD T v with
    | some (.list xs) => match boolsD xs with
      | some bs => k (.d (.bool (bs.any id)))
      | none => False
    | _ => False
  | _, _ => False
def keyV : Val → Option Key
  | .d (.int i) => some (.inl i)
  | .d (.str s) => some (.inr s)
  | _ => none
def kvG : List (Key × Val) → Key → Option Val
  | [], _ => none
  | (k, v) :: r, j => if k = j then some v else kvG r j
/-- in its place, or at the end -/
def kvP (kvs : List (Key × Val)) (k : Key) (v : Val) : List (Key × Val) :=
  if (kvs.any fun kv => decide (kv.1 = k)) = true then kvs.map (fun kv => if kv.1 = k then (kv.1, v) else kv) else kvs ++ [(k, v)]
def dicAt (T : Tab) (v : Val) (k : Nat → List (Key × Val) → Prop) : Prop :=
  match v with
  | .ob n => match getT T n with
    | some (.dic kvs) => k n kvs
    | _ => False
  | _ => False
def zipK : List Str → List Val → List (Key × Val)
  | k :: ks, v :: vs => (.inr k, v) :: zipK ks vs
  | _, _ => []
def isStrV : Val → Bool
  | .d (.str _) => true
  | _ => false
def isLstV (T : Tab) : Val → Bool
  | .ob n => match getT T n with
    | some (.lst _) => true
    | _ => false
  | _ => false
/-- the method is one of the value's type -/
def mtB (f : Mt) (T : Tab) (v : Val) : Bool :=
  match f with
  | .split | .join | .upper => isStrV v
  | _ => isLstV T v
/-- a frozen list -/
def lstD (v : Val) (k : List PyData → Prop) : Prop := match v with
  | .d (.list ys) => k ys
  | _ => False
/-- the last item -/
def popL (xs : List Val) (k : Val → List Val → Prop) : Prop := match xs[xs.length - 1]? with
  | some x => k x xs.dropLast
  | none => False
/-- a method's call; the table behind it -/
def obLst (T : Tab) (o : Val) (k : Nat → List Val → Prop) : Prop :=
  match o with
  | .ob n => match getT T n with
    | some (.lst xs) => k n xs
    | _ => False
  | _ => False
def strV (o : Val) (k : Str → Prop) : Prop :=
  match o with
  | .d (.str a) => k a
  | _ => False
def intV (o : Val) (k : Int → Prop) : Prop :=
  match o with
  | .d (.int a) => k a
  | _ => False
def arg0 (vs : List Val) (k : Prop) : Prop :=
  match vs with
  | [] => k
  | _ => False
def arg1 (vs : List Val) (k : Val → Prop) : Prop :=
  match vs with
  | [v] => k v
  | _ => False
def popW (xs : List Val) (i : Int) (k : Val → List Val → Prop) : Prop :=
  match seqIndex? i xs.length with
  | some j => match xs[j]? with
    | some x => (-(2 ^ 63) ≤ i ∧ i < 2 ^ 63) ∧ k x (xs.eraseIdx j)
    | none => False
  | none => False
def mtW (f : Mt) (T : Tab) (o : Val) (vs : List Val) (k : Val → Tab → Prop) : Prop :=
  match f with
  | .append => obLst T o fun n xs => arg1 vs fun v => xs.length < sizeLine ∧ k (.d .none) (setT T n (.lst (xs ++ [v])))
  | .clear => obLst T o fun n _ => arg0 vs (k (.d .none) (setT T n (.lst [])))
  | .extend => obLst T o fun n xs => arg1 vs fun v => lstD v fun ys => xs.length + ys.length ≤ sizeLine ∧ k (.d .none) (setT T n (.lst (xs ++ dv ys)))
  | .pop => obLst T o fun n xs => arg0 vs (popL xs fun x ys => k x (setT T n (.lst ys)))
  | .popAt => obLst T o fun n xs => arg1 vs fun v => intV v fun i => popW xs i fun x ys => k x (setT T n (.lst ys))
  | .upper => strV o fun a => arg0 vs (a.length ≤ 5592405 ∧ k (.d (.str (Txt.upper a))) T)
  | .split => strV o fun a => arg1 vs fun v => strV v fun b => ((b.length == 0) = false ∧ a.length + 2 ≤ sizeLine) ∧ k (.d (.list ((Txt.split a b).map .str))) T
  | _ => False
mutual
def patW : Pat → Val → Slots → Tab → (Slots → Prop) → Prop
  | .nm i, v, sl, _, k => k (setS sl i (some v))
  | .tp ps, v, sl, T, k => match v with
    | .d (.tuple xs) => xs.length = ps.length ∧ patsW ps (dv xs) sl T k
    | .d (.list xs) => xs.length = ps.length ∧ patsW ps (dv xs) sl T k
    | _ => False
def patsW : List Pat → List Val → Slots → Tab → (Slots → Prop) → Prop
  | [], vs, sl, _, k => match vs with
    | [] => k sl
    | _ => False
  | p :: ps, vs, sl, T, k => match vs with
    | v :: r => patW p v sl T fun sl1 => patsW ps r sl1 T k
    | _ => False
end
def wipeS (sl : Slots) : List Nat → Slots
  | [] => sl
  | v :: vs => setS (wipeS sl vs) v none
/-! ### calls -/
abbrev DSp := List Val → Tab → VC → XC → Prop
def flatV : Val → Bool
  | .ob _ => false
  | _ => true
def flatO : Ob → Bool
  | .lst xs => xs.all flatV
  | .dic kvs => kvs.all fun p => flatV p.2
  | _ => true
def obsOf : List Val → List Nat
  | [] => []
  | .ob k :: r => if k ∈ obsOf r then obsOf r else k :: obsOf r
  | _ :: r => obsOf r
def renV (ks : List Nat) : Val → Val
  | .ob k => .ob (ks.idxOf k)
  | v => v
def tabOf (T : Tab) : List Nat → Option Tab
  | [] => some []
  | k :: r => match getT T k, tabOf T r with
    | some o, some t => some (o :: t)
    | _, _ => none
def putT (T : Tab) : List Nat → Tab → Tab
  | [], T' => T ++ T'
  | _ :: _, [] => T
  | k :: r, o :: T' => putT (setT T k o) r T'
def backV (n : Nat) (ks : List Nat) : Val → Val
  | .ob j => match ks[j]? with
    | some k => .ob k
    | none => .ob (n + (j - ks.length))
  | v => v
/-- a call with the objects that are handed over, renumbered -/
def callF (dsp : DSp) (vs : List Val) (T : Tab) (Q : VC) (X : XC) : Prop :=
  let ks := obsOf vs
  match tabOf T ks with
  | some Ts => Ts.all flatO = true ∧ dsp (vs.map (renV ks)) Ts
      (fun v T' => ks.length ≤ T'.length ∧ T'.all flatO = true ∧ Q (backV T.length ks v) (putT T ks T'))
      (fun e T' => ks.length ≤ T'.length ∧ T'.all flatO = true ∧ X e (putT T ks T'))
  | none => False
/-- or with the whole table as it is -/
def callW (dsp : DSp) (vs : List Val) (T : Tab) (Q : VC) (X : XC) : Prop := callF dsp vs T Q X ∨ dsp vs T Q X
/-! ### what a term means -/
structure DEnds where
  nx : Slots → Tab → Prop
  rt : VC
  bk : Slots → Tab → Prop := fun _ _ => False
  ct : Slots → Tab → Prop := fun _ _ => False
  xc : XC := fun _ _ => False
abbrev DS := DEnds → Slots → Tab → Prop
/-- a walked live list stays as it is -/
def still (T : Tab) : Option (Nat × List Val) → Prop
  | none => True
  | some (n, xs) => getT T n = some (.lst xs)
def loopW (src : Option (Nat × List Val)) (step : Val → DS) : List Val → DS
  | [], D, sl, T => still T src ∧ D.nx sl T
  | x :: r, D, sl, T => still T src ∧ step x { D with nx := fun sl T => loopW src step r D sl T, ct := fun sl T => loopW src step r D sl T, bk := D.nx } sl T
/-- a comprehension's items: what is made so far -/
def compW (src : Option (Nat × List Val)) (step : Val → Tab → (Option Val → Tab → Prop) → Prop) : List Val → List Val → Tab → (List Val → Tab → Prop) → Prop
  | [], acc, T, k => still T src ∧ k acc T
  | x :: r, acc, T, k => still T src ∧ step x T fun o T1 => match o with
    | some v => acc.length < sizeLine ∧ compW src step r (acc ++ [v]) T1 k
    | none => compW src step r acc T1 k
def whileW (c : Slots → Tab → (Bool → Tab → Prop) → Prop) (b : DS) : Nat → DS
  | 0, _, _, _ => False
  | n + 1, D, sl, T => c sl T fun t T1 => if t = true then b { D with nx := fun sl T => whileW c b n D sl T, ct := fun sl T => whileW c b n D sl T, bk := D.nx } sl T1 else D.nx sl T1
def rangeL (lo : Int) : Nat → List Val
  | 0 => []
  | n + 1 => .d (.int lo) :: rangeL (lo + 1) n
def enumL : Nat → List Val → List Val
  | _, [] => []
  | n, .d x :: r => .d (.tuple [.int n, x]) :: enumL (n + 1) r
  | n, _ :: r => enumL (n + 1) r
def zipL : List Val → List Val → List Val
  | .d x :: r, .d y :: s => .d (.tuple [x, y]) :: zipL r s
  | _, _ => []
def allD (xs : List Val) : Bool := xs.all fun v => match v with
  | .d _ => true
  | _ => false
/-- isinstance(v, C), C an own class -/
def isxW (sub : Str → Str → Option Bool) (c : Str) (T : Tab) (v : Val) (k : Bool → Prop) : Prop :=
  match v with
  | .ex x => match sub x.cls c with
    | some b => k b
    | none => False
  | v => match tyName T v with
    | some _ => k false
    | none => False
/-- the values of keywords, in the parameters' order -/
def prm {α : Type} (pm : List Nat) (ws : List α) : List α := match pm with
  | [] => ws
  | pm => pm.filterMap fun i => ws[i]?
/-- a comprehension's outer items: each hands on what is made so far -/
def compO (src : Option (Nat × List Val)) (step : Val → List Val → Tab → (List Val → Tab → Prop) → Prop) : List Val → List Val → Tab → (List Val → Tab → Prop) → Prop
  | [], acc, T, k => still T src ∧ k acc T
  | x :: r, acc, T, k => still T src ∧ step x acc T fun acc1 T1 => compO src step r acc1 T1 k
/-- a test that may be lacking -/
def tstW (T : Tab) (t : Option Val) (k : Bool → Prop) : Prop := match t with
  | none => k true
  | some t => truW T t k
structure Env where
  calls : Nat → DSp
  globs : Nat → PyData
  sub : Str → Str → Option Bool := fun _ _ => none
mutual
def wpE (Γ : DL.Env) : E → DE
  | .var i, sl, T, Q, _ => match getS sl i with
    | some v => Q v T
    | none => False
  | .cst x, _, T, Q, _ => Q (.d x) T
  | .glb n, _, T, Q, _ => Q (.d (Γ.globs n)) T
  | .tup es, sl, T, Q, X => wpEs Γ es sl T (fun vs T1 => match dats vs with
    | some ds => ds.length ≤ sizeLine ∧ Q (.d (.tuple ds)) T1
    | none => False) X
  | .lst es, sl, T, Q, X => wpEs Γ es sl T (fun vs T1 => match dats vs with
    | some ds => ds.length ≤ sizeLine ∧ Q (.d (.list ds)) T1
    | none => False) X
  | .lstO es, sl, T, Q, X => wpEs Γ es sl T (fun vs T1 => vs.length ≤ sizeLine ∧ Q (.ob T1.length) (T1 ++ [.lst vs])) X
  | .bin o a b, sl, T, Q, X => wpE Γ a sl T (fun v T1 => wpE Γ b sl T1 (fun u T2 => on2 (binD o) T2 v u (fun z => Q z T2)) X) X
  | .cmp o a b, sl, T, Q, X => wpE Γ a sl T (fun v T1 => wpE Γ b sl T1 (fun u T2 => cmpW o T2 v u (fun z => Q z T2)) X) X
  | .chain o o' a b c, sl, T, Q, X => wpE Γ a sl T (fun v T1 => wpE Γ b sl T1 (fun u T2 => cmpW o T2 v u fun z => match z with
    | .d (.bool true) => wpE Γ c sl T2 (fun w T3 => cmpW o' T3 u w fun z => Q z T3) X
    | .d (.bool false) => Q (.d (.bool false)) T2
    | _ => False) X) X
  | .neg a, sl, T, Q, X => wpE Γ a sl T (fun v T1 => match v with
    | .d (.int i) => Q (.d (.int (-i))) T1
    | _ => False) X
  | .not a, sl, T, Q, X => wpE Γ a sl T (fun v T1 => truW T1 v fun b => Q (.d (.bool (!b))) T1) X
  | .and a b, sl, T, Q, X => wpE Γ a sl T (fun v T1 => truW T1 v fun t => if t = true then wpE Γ b sl T1 Q X else Q v T1) X
  | .or a b, sl, T, Q, X => wpE Γ a sl T (fun v T1 => truW T1 v fun t => if t = true then Q v T1 else wpE Γ b sl T1 Q X) X
  | .ife c a b, sl, T, Q, X => wpE Γ c sl T (fun v T1 => truW T1 v fun t => if t = true then wpE Γ a sl T1 Q X else wpE Γ b sl T1 Q X) X
  | .idx a i, sl, T, Q, X => wpE Γ a sl T (fun v T1 => wpE Γ i sl T1 (fun u T2 => idxW T2 v u (fun z => Q z T2)) X) X
  | .slc a lo hi, sl, T, Q, X => wpE Γ a sl T (fun v T1 => wpO Γ lo sl T1 (fun l T2 => match optI l with
    | some l => wpO Γ hi sl T2 (fun h T3 => match optI h with
      | some h => slcW T3 v l h (fun z => Q z T3)
      | none => False) X
    | none => False) X) X
  | .isi a ts, sl, T, Q, X => wpE Γ a sl T (fun v T1 => match tyName T1 v with
    | some t => Q (.d (.bool (isTy t ts))) T1
    | none => False) X
  | .bi f es, sl, T, Q, X => wpEs Γ es sl T (fun vs T1 => biW f T1 vs fun z => Q z T1) X
  | .mt f o es, sl, T, Q, X => wpE Γ o sl T (fun v T1 => mtB f T1 v = true ∧ wpEs Γ es sl T1 (fun vs T2 => mtW f T2 v vs Q) X) X
  | .call f es, sl, T, Q, X => wpEs Γ es sl T (fun vs T1 => callW (Γ.calls f) vs T1 Q X) X
  | .call0 f, _, T, Q, _ => callW (Γ.calls f) [] T Q (fun _ _ => False)
  | .callK _ f pm es ks, sl, T, Q, X => wpEs Γ es sl T (fun vs T1 => wpEs Γ ks sl T1 (fun ws T2 => callW (Γ.calls f) (vs ++ prm pm ws) T2 Q X) X) X
  | .tupS a b, sl, T, Q, X => wpE Γ a sl T (fun v T1 => wpE Γ b sl T1 (fun u T2 => match v, u with
    | .d x, .d (.tuple xs) => xs.length < sizeLine ∧ Q (.d (.tuple (x :: xs))) T2
    | .d x, .d (.list xs) => xs.length < sizeLine ∧ Q (.d (.tuple (x :: xs))) T2
    | _, _ => False) X) X
  | .fnv x, _, T, Q, _ => Q (.fn x) T
  | .callV i tb es, sl, T, Q, X => match getS sl i with
    | some (.fn x) => match tb.lookup x with
      | some f => wpEs Γ es sl T (fun vs T1 => callW (Γ.calls f) vs T1 Q X) X
      | none => False
    | _ => False
  | .dgt a i, sl, T, Q, X => wpE Γ a sl T (fun v T1 => wpE Γ i sl T1 (fun u T2 => dicAt T2 v fun _ kvs => match keyV u with
    | some k => match kvG kvs k with
      | some x => Q x T2
      | none => False
    | none => False) X) X
  | .get2 o k d, sl, T, Q, X => wpE Γ o sl T (fun v T1 => dicAt T1 v fun _ _ => wpE Γ k sl T1 (fun u T2 => wpE Γ d sl T2 (fun w T3 => dicAt T3 v fun _ kvs => match keyV u with
    | some k => match kvG kvs k with
      | some x => Q x T3
      | none => Q w T3
    | none => False) X) X) X
  | .kin neg k d, sl, T, Q, X => wpE Γ k sl T (fun u T1 => wpE Γ d sl T1 (fun v T2 => dicAt T2 v fun _ kvs => match keyV u with
    | some k => Q (.d (.bool (neg ^^ (kvG kvs k).isSome))) T2
    | none => False) X) X
  | .dicO ks es, sl, T, Q, X => wpEs Γ es sl T (fun vs T1 => Q (.ob T1.length) (T1 ++ [.dic (zipK ks vs)])) X
  | .caught cc e, sl, T, Q, _ => wpE Γ e sl T (fun _ T1 => Q (.d .none) T1) (fun x T1 => Γ.sub x.cls cc = some true ∧ Q (.ex x) T1)
  | .isx a c, sl, T, Q, X => wpE Γ a sl T (fun v T1 => isxW Γ.sub c T1 v fun b => Q (.d (.bool b)) T1) X
  | .dct0, _, T, Q, _ => Q (.d (.dict [])) T
  | .mkl a, sl, T, Q, X => wpE Γ a sl T (fun v T1 => itemsW T1 v fun xs _ => isStrV v = false ∧ Q (.ob T1.length) (T1 ++ [.lst xs])) X
  | .comp own elt p it c live, sl, T, Q, X => wpI Γ it sl T (fun xs src T1 =>
      compW src (fun x T k => patW p x (wipeS sl own) T fun sl1 => wpO Γ c sl1 T (fun t T1 => match t with
        | none => wpE Γ elt sl1 T1 (fun v T2 => k (some v) T2) (fun _ _ => False)
        | some t => truW T1 t fun b => if b = true then wpE Γ elt sl1 T1 (fun v T2 => k (some v) T2) (fun _ _ => False) else k none T1) (fun _ _ => False))
        xs [] T1 fun ys T2 => match live with
          | true => Q (.ob T2.length) (T2 ++ [.lst ys])
          | false => match dats ys with
            | some ds => Q (.d (.list ds)) T2
            | none => False) X
  | .comp2 own elt p it c own1 p1 it1 c1 live, sl, T, Q, X => wpI Γ it sl T (fun xs src T1 =>
      compO src (fun x acc T k => patW p x (wipeS sl own) T fun sl1 => wpO Γ c sl1 T (fun t T1 => tstW T1 t fun b =>
        if b = true then wpI Γ it1 sl1 T1 (fun xs1 src1 T2 => compW src1 (fun y T k => patW p1 y (wipeS sl1 own1) T fun sl2 => wpO Γ c1 sl2 T (fun t T1 => match t with
          | none => wpE Γ elt sl2 T1 (fun v T2 => k (some v) T2) (fun _ _ => False)
          | some t => truW T1 t fun b => if b = true then wpE Γ elt sl2 T1 (fun v T2 => k (some v) T2) (fun _ _ => False) else k none T1) (fun _ _ => False))
          xs1 acc T2 k) (fun _ _ => False) else k acc T1) (fun _ _ => False))
        xs [] T1 fun ys T2 => match live with
          | true => Q (.ob T2.length) (T2 ++ [.lst ys])
          | false => match dats ys with
            | some ds => Q (.d (.list ds)) T2
            | none => False) X
  | .frz a, sl, T, Q, X => wpE Γ a sl T (fun v T1 => match v with
    | .ob n => match getT T1 n with
      | some (.lst xs) => match dats xs with
        | some ds => Q (.d (.list ds)) (setT T1 n .dead)
        | none => False
      | _ => False
    | v => Q v T1) X
  | .fld a f c, sl, T, Q, X => wpE Γ a sl T (fun v T1 => match fldV c f v with
    | some y => Q (.d y) T1
    | none => False) X
def wpEs (Γ : DL.Env) : Es → Slots → Tab → (List Val → Tab → Prop) → XC → Prop
  | .nil, _, T, Q, _ => Q [] T
  | .cons e r, sl, T, Q, X => wpE Γ e sl T (fun v T1 => wpEs Γ r sl T1 (fun vs T2 => Q (v :: vs) T2) X) X
def wpO (Γ : DL.Env) : Oe → Slots → Tab → (Option Val → Tab → Prop) → XC → Prop
  | .none, _, T, Q, _ => Q none T
  | .some e, sl, T, Q, X => wpE Γ e sl T (fun v T1 => Q (some v) T1) X
def wpI (Γ : DL.Env) : Itr → Slots → Tab → (List Val → Option (Nat × List Val) → Tab → Prop) → XC → Prop
  | .seq a, sl, T, Q, X => wpE Γ a sl T (fun v T1 => itemsW T1 v fun xs src => Q xs src T1) X
  | .rng1 a, sl, T, Q, X => wpE Γ a sl T (fun v T1 => match v with
    | .d (.int j) => (-(2 ^ 62) ≤ j ∧ j < 2 ^ 62) ∧ Q (rangeL 0 j.toNat) none T1
    | _ => False) X
  | .rng2 a b, sl, T, Q, X => wpE Γ a sl T (fun v T1 => wpE Γ b sl T1 (fun u T2 => match v, u with
    | .d (.int i), .d (.int j) => (-(2 ^ 62) ≤ i ∧ i < 2 ^ 62 ∧ -(2 ^ 62) ≤ j ∧ j < 2 ^ 62) ∧ Q (rangeL i (j - i).toNat) none T2
    | _, _ => False) X) X
  | .rng3 _ _ _, _, _, _, _ => False
  | .enum a, sl, T, Q, X => wpE Γ a sl T (fun v T1 => match v with
    | .d (.list xs) => Q (enumL 0 (dv xs)) none T1
    | .ob n => match getT T1 n with
      | some (.lst xs) => allD xs = true ∧ Q (enumL 0 xs) (some (n, xs)) T1
      | _ => False
    | _ => False) X
  | .zip a b, sl, T, Q, X => wpE Γ a sl T (fun v T1 => wpE Γ b sl T1 (fun u T2 => match v, u with
    | .d (.list xs), .d (.list ys) => Q (zipL (dv xs) (dv ys)) none T2
    | .d (.tuple xs), .d (.tuple ys) => Q (zipL (dv xs) (dv ys)) none T2
    | _, _ => False) X) X
end
def parW : List Nat → List Val → Slots → Option Slots
  | [], [], sl => some sl
  | i :: is, v :: vs, sl => parW is vs (setS sl i (some v))
  | _, _, _ => none
/-- an error of the class c, made of the values vs for its parameters ps -/
def raiseWF (c : Str) (ps : List Str) (vs : List Val) (T : Tab) (X : XC) : Prop := match dats vs with
  | some ds => ps.length = ds.length ∧ X ⟨c, (ps.zip ds).reverse⟩ T
  | none => False
mutual
def wpS (Γ : DL.Env) : S → DS
  | .set p e, D, sl, T => wpE Γ e sl T (fun v T1 => patW p v sl T1 fun sl1 => D.nx sl1 T1) D.xc
  | .par is es, D, sl, T => wpEs Γ es sl T (fun vs T1 => match parW is vs sl with
    | some sl1 => D.nx sl1 T1
    | none => False) D.xc
  | .put o i e, D, sl, T => False
  | .dput o i e, D, sl, T => wpE Γ e sl T (fun v T1 => wpE Γ o sl T1 (fun x T2 => wpE Γ i sl T2 (fun y T3 => dicAt T3 x fun n kvs => match keyV y with
    | some k => kvs.length < sizeLine ∧ D.nx sl (setT T3 n (.dic (kvP kvs k v)))
    | none => False) D.xc) D.xc) D.xc
  | .exp e, D, sl, T => wpE Γ e sl T (fun _ T1 => D.nx sl T1) D.xc
  | .ite c a b, D, sl, T => wpE Γ c sl T (fun v T1 => truW T1 v fun t => if t = true then wpSs Γ a D sl T1 else wpSs Γ b D sl T1) D.xc
  | .whl c b, D, sl, T => ∃ n, whileW (fun sl T k => wpE Γ c sl T (fun v T1 => truW T1 v fun t => k t T1) D.xc) (wpSs Γ b) n D sl T
  | .loop p it b, D, sl, T => wpI Γ it sl T (fun xs src T1 => loopW src (fun x D sl T => patW p x sl T fun sl1 => wpSs Γ b D sl1 T) xs D sl T1) D.xc
  | .ret e, D, sl, T => wpE Γ e sl T (fun v T1 => D.rt v T1) D.xc
  | .retN, D, _, T => D.rt (.d .none) T
  | .brk, D, sl, T => D.bk sl T
  | .cnt, D, sl, T => D.ct sl T
  | .pass, D, sl, T => D.nx sl T
  | .never, _, _, _ => False
  | .raiseX c, D, _, T => D.xc ⟨c, []⟩ T
  | .raise c ps es, D, sl, T => wpEs Γ es sl T (fun vs T1 => raiseWF c ps vs T1 D.xc) D.xc
def wpSs (Γ : DL.Env) : Ss → DS
  | .nil, D, sl, T => D.nx sl T
  | .cons s r, D, sl, T => wpS Γ s { D with nx := fun sl T => wpSs Γ r D sl T } sl T
end
end DL
namespace DL
open PySem PySem.Spec PyProof.Rows L2
/-! ### readings over the layer: expressions, tests, arguments -/
def LT (K : PySem.W.Frag) (W : L2.WX) (f : DE) : TT := fun σ H Q => ∃ G m sl T, SRel K G m sl σ ∧ WRel K G H m T ∧
  f sl T (fun v T' => truW T' v fun b => ∀ G' H' m', Ext K G H m G' H' m' → WRel K G' H' m' T' → Q b H')
    (fun e T' => ∀ G' H' m' c d, Ext K G H m G' H' m' → WRel K G' H' m' T' → XRel K G' e c d → W c d σ H')
abbrev DA := Slots → Tab → (List Val → Tab → Prop) → XC → Prop
def MonoA (f : DA) : Prop := ∀ sl T (Q Q' : List Val → Tab → Prop) (X X' : XC), (∀ v T, Q v T → Q' v T) → (∀ e T, X e T → X' e T) → f sl T Q X → f sl T Q' X'
def LAr (K : PySem.W.Frag) (W : L2.WX) (f : DA) : TA := fun σ H Q => ∃ G m sl T, SRel K G m sl σ ∧ WRel K G H m T ∧
  f sl T (fun vs T' => ∀ G' H' m' xs, Ext K G H m G' H' m' → WRel K G' H' m' T' → VRels K G' m' vs xs → Q xs H')
    (fun e T' => ∀ G' H' m' c d, Ext K G H m G' H' m' → WRel K G' H' m' T' → XRel K G' e c d → W c d σ H')
theorem LAr.intro {K : PySem.W.Frag} {W : L2.WX} {f : DA} {σ : L2.St} {H G : Hp} {m : Fp} {sl : Slots} {T : Tab} {Q : List V → Hp → Prop} {Qd : List Val → Tab → Prop} {Xd : XC} (mf : MonoA f) (s : SRel K G m sl σ) (w : WRel K G H m T) (h : f sl T Qd Xd)
    (hQ : ∀ v T' G' H' m' x, Qd v T' → Ext K G H m G' H' m' → WRel K G' H' m' T' → VRels K G' m' v x → Q x H')
    (hX : ∀ e T' G' H' m' c d, Xd e T' → Ext K G H m G' H' m' → WRel K G' H' m' T' → XRel K G' e c d → W c d σ H') : LAr K W f σ H Q :=
  ⟨G, m, sl, T, s, w, mf _ _ _ _ _ _ (fun v T' q G' H' m' x e w r => hQ v T' G' H' m' x q e w r) (fun e T' q G' H' m' c d x w r => hX e T' G' H' m' c d q x w r) h⟩
theorem LT.intro {K : PySem.W.Frag} {W : L2.WX} {f : DE} {σ : L2.St} {H G : Hp} {m : Fp} {sl : Slots} {T : Tab} {Q : Bool → Hp → Prop} {Qd : VC} {Xd : XC} (mf : Mono f) (s : SRel K G m sl σ) (w : WRel K G H m T) (h : f sl T Qd Xd)
    (hQ : ∀ v T', Qd v T' → truW T' v fun b => ∀ G' H' m', Ext K G H m G' H' m' → WRel K G' H' m' T' → Q b H')
    (hX : ∀ e T' G' H' m' c d, Xd e T' → Ext K G H m G' H' m' → WRel K G' H' m' T' → XRel K G' e c d → W c d σ H') : LT K W f σ H Q :=
  ⟨G, m, sl, T, s, w, mf _ _ _ _ _ _ (fun v T' q => hQ v T' q) (fun e T' q G' H' m' c d x w r => hX e T' G' H' m' c d q x w r) h⟩
structure DPT (X : Cx) (W : L2.WX) (e : Expr) (f : DE) : Prop where
  pt : PT X e (LT X.K W f)
structure DPA (X : Cx) (W : L2.WX) (es : List Expr) (f : DA) : Prop where
  mono : MonoA f
  pa : PA X es (LAr X.K W f)
theorem PT.imp {X : Cx} {e : Expr} {t t' : TT} (h : PT X e t) (i : ∀ σ H Q, t' σ H Q → t σ H Q) : PT X e t' := ⟨fun pins s σ H Q I q => h.run pins s σ H Q I (i σ H Q q)⟩
theorem PA.imp {X : Cx} {e : List Expr} {t t' : TA} (h : PA X e t) (i : ∀ σ H Q, t' σ H Q → t σ H Q) : PA X e t' := ⟨fun pos pins s σ H Q I q => h.run pos pins s σ H Q I (i σ H Q q)⟩
/-! ### truth -/
theorem truW_mono {T : Tab} {v : Val} {k k' : Bool → Prop} (h : ∀ b, k b → k' b) (q : truW T v k) : truW T v k' := by
  unfold truW at q ⊢
  split at q
  all_goals first
    | exact h _ q
    | exact ⟨q.1, h _ q.2⟩
    | (split at q
       · exact h _ q
       · exact h _ q
       · exact q)
    | exact q
theorem isEmpty_rpl {K : PySem.W.Frag} {G : Hp} {xs : List PyData} {vs : List V} (r : RpL K G xs vs) : xs.isEmpty = vs.isEmpty := by
  have := r.length
  cases xs <;> cases vs <;> simp_all
theorem isEmpty_pair {α β : Type} {F : α → β → Prop} {xs : List α} {vs : List β} (r : Paired F xs vs) : xs.isEmpty = vs.isEmpty := by
  cases r <;> rfl
theorem RpK.len {K : PySem.W.Frag} {G : Hp} : ∀ {xs : List (PyData × PyData)} {vs : List (Key × V)}, RpK K G xs vs → xs.length = vs.length
  | [], vs, r => by simp only [RpK] at r; subst r; rfl
  | (k, x) :: xs, vs, r => by
    simp only [RpK] at r
    obtain ⟨k', v, s, e, _, _, l⟩ := r
    subst e
    simp [RpK.len l]
theorem truW_ok {K : PySem.W.Frag} {G H : Hp} {m : Fp} {T : Tab} {v : Val} {x : V} {k : Bool → Prop} (w : WRel K G H m T) (r : VRel K G m v x) (q : truW T v k) : ∃ b, TruV K x H b ∧ k b := by
  unfold truW at q
  split at q
  · simp [VRel, Rp] at r; subst r; exact ⟨_, rfl, q⟩
  · simp [VRel, Rp] at r; subst r; exact ⟨_, rfl, q⟩
  · simp [VRel, Rp] at r; subst r; exact ⟨_, rfl, q⟩
  · simp [VRel, Rp] at r; subst r; exact ⟨_, ⟨q.1, rfl⟩, q.2⟩
  · simp only [VRel, Rp] at r
    obtain ⟨a, vs, rfl, h, l⟩ := r
    exact ⟨_, .inl ⟨vs, .inl (.inl (w.sub _ _ h)), rfl⟩, by rw [← isEmpty_rpl l]; exact q⟩
  · simp only [VRel, Rp] at r
    obtain ⟨a, vs, rfl, h, l⟩ := r
    exact ⟨_, .inr (.inl ⟨vs, w.sub.sqT h, rfl⟩), by rw [← isEmpty_rpl l]; exact q⟩
  · simp only [VRel, Rp] at r
    obtain ⟨a, ks, rfl, h, l⟩ := r
    refine ⟨_, .inr (.inr ⟨ks, w.sub _ _ h, rfl⟩), ?_⟩
    have e := RpK.len l
    rename_i xs
    have : xs.isEmpty = ks.isEmpty := by cases xs <;> cases ks <;> simp_all
    rw [← this]; exact q
  · rename_i n
    split at q
    · rename_i xs e
      rw [getT_eq] at e
      obtain ⟨fp, hm, a, vs, hf, hG, hH, hv⟩ := w.ob _ _ e
      obtain ⟨b, s, hm', rfl⟩ := r
      rw [hm] at hm'; subst hf; cases hm'
      exact ⟨_, .inl ⟨vs, .inl (.inl hH), rfl⟩, by rw [← isEmpty_pair hv]; exact q⟩
    · rename_i xs e
      rw [getT_eq] at e
      obtain ⟨fp, hm, a, vs, hf, hG, hH, hv⟩ := w.ob _ _ e
      obtain ⟨b, s, hm', rfl⟩ := r
      rw [hm] at hm'; subst hf; cases hm'
      exact ⟨_, .inr (.inr ⟨vs, hH, rfl⟩), by rw [← isEmpty_pair hv]; exact q⟩
    · exact q.elim
  · exact q.elim
section
variable {X : Cx} {W : L2.WX} {a b c : Expr} {fa fb fc : DE} {pos : Pos}
/-- a test that is its value's truth -/
theorem dpt_of (h : DPE X W a fa) (he : ∀ whole, isTrue a X.env whole = (do let v ← whole; standAt a.pos; holding [v] (truthy v))) : DPT X W a fa := by
  refine ⟨PT.imp (pt_truth h.pe he) fun σ H Q q => ?_⟩
  obtain ⟨G, m, sl, T, s, w, q⟩ := q
  exact LE.intro h.mono s w q (fun v T' G' H' m' x q e w' r => by
    obtain ⟨b, t, z⟩ := truW_ok w' r q
    exact ⟨b, t, z G' H' m' e w'⟩) fun e T' G' H' m' c d q x w r => q G' H' m' c d x w r
/-! ### names and constants -/
theorem dpe_cst {v : PyData} {u : V} (h : PE X a (tC u)) (r : ∀ G, Rp X.K G v u) : DPE X W a (fun _ T Q _ => Q (.d v) T) := by
  refine ⟨fun sl T Q Q' X X' hq hx q => hq _ _ q, PE.imp h fun σ H Q q => ?_⟩
  obtain ⟨G, m, sl, T, s, w, q⟩ := q
  exact q G H m u (Ext.refl _ _ _) w (r G)
theorem dpe_var {i : Nat} {x : Str} (hN : X.N[i]? = some x) (hv : Vis X.env.scope x) (hd : (x == ("__debug__" : Str)) = false) (hcd : (x == ("__classdict__" : Str)) = false) :
    DPE X W (.Name x pos) (fun sl T Q _ => match getS sl i with
      | some v => Q v T
      | none => False) := by
  refine ⟨fun sl T Q Q' X X' hq hx q => ?_, PE.imp (pe_var hN hv hd hcd) fun σ H Q q => ?_⟩
  · cases e : getS sl i with
    | none => rw [e] at q; exact q
    | some v => rw [e] at q; exact hq _ _ q
  · obtain ⟨G, m, sl, T, s, w, q⟩ := q
    cases e : getS sl i with
    | none => rw [e] at q; exact q.elim
    | some v =>
      rw [e] at q
      obtain ⟨u, h1, h2⟩ := s.at_ i v (getS_some e)
      exact ⟨u, h1, q G H m u (Ext.refl _ _ _) w h2⟩
/-! ### two parts and an operator -/
theorem mono_two {g : G2} (ma : Mono fa) (mb : Mono fb) (mg : Mono2 g) : Mono (fun sl T Q X => fa sl T (fun v T1 => fb sl T1 (fun u T2 => g T2 v u (fun z => Q z T2)) X) X) := by
  intro sl T Q Q' X X' hq hx q
  exact ma _ _ _ _ _ _ (fun v T1 q => mb _ _ _ _ _ _ (fun u T2 q => mg _ _ _ _ _ (fun z q => hq _ _ q) q) hx q) hx q
theorem le_two {g : G2} {σ : L2.St} {H : Hp} {Q : VK} (ha : DPE X W a fa) (hb : DPE X W b fb) (mg : Mono2 g)
    (q : LE X.K W (fun sl T Q X => fa sl T (fun v T1 => fb sl T1 (fun u T2 => g T2 v u (fun z => Q z T2)) X) X) σ H Q) :
    LE X.K W fa σ H fun x H1 => LE X.K W fb σ H1 fun y H2 => LR X.K g x y H2 Q := by
  obtain ⟨G, m, sl, T, s, w, q⟩ := q
  refine LE.intro ha.mono s w q (fun v T1 G1 H1 m1 x q e1 w1 r1 => ?_) fun e T' G' H' m' c d q x w r => q G' H' m' c d x w r
  refine LE.intro hb.mono (s.ext e1) w1 q (fun u T2 G2 H2 m2 y q e2 w2 r2 => ?_) fun e T' G' H' m' c d q x w r => q G' H' m' c d (e1.trans x) w r
  refine ⟨G2, m2, T2, v, u, w2, r1.mono e2.sub e2.ms, r2, mg _ _ _ _ _ (fun z q G' H' z' e w r => ?_) q⟩
  exact q G' H' m2 z' ((e1.trans e2).trans e) w r
theorem dpe_bin {o : Operator} {g : G2} (ha : DPE X W a fa) (hb : DPE X W b fb) (ho : DOp X (binaryOp o) g) :
    DPE X W (.BinOp a o b pos) (fun sl T Q X => fa sl T (fun v T1 => fb sl T1 (fun u T2 => g T2 v u (fun z => Q z T2)) X) X) :=
  ⟨mono_two ha.mono hb.mono ho.mono, PE.imp (pe_op ho.op ha.pe hb.pe) fun σ H Q q => le_two ha hb ho.mono q⟩
theorem dpe_cmp {o : CmpOp} {g : G2} (ha : DPE X W a fa) (hb : DPE X W b fb) (ho : DOp X (compareOp o) g) (hm : behindInMarks o b = false) :
    DPE X W (.Compare a [o] [b] pos) (fun sl T Q X => fa sl T (fun v T1 => fb sl T1 (fun u T2 => g T2 v u (fun z => Q z T2)) X) X) :=
  ⟨mono_two ha.mono hb.mono ho.mono, PE.imp (pe_cmpR ho.op ha.pe hb.pe hm) fun σ H Q q => le_two ha hb ho.mono q⟩
/-- the comparison's answer is a truth -/
def Truths (g : G2) : Prop := ∀ T v u k, g T v u k → ∃ b, g T v u fun z => z = .d (.bool b) ∧ k (.d (.bool b))
theorem dpt_cmp {o : CmpOp} {g : G2} (ha : DPE X W a fa) (hb : DPE X W b fb) (ho : DOp X (compareOp o) g) (ht : Truths g) (hm : behindInMarks o b = false) :
    DPT X W (.Compare a [o] [b] pos) (fun sl T Q X => fa sl T (fun v T1 => fb sl T1 (fun u T2 => g T2 v u (fun z => Q z T2)) X) X) := by
  refine ⟨PT.imp (pt_cmpR ho.op ha.pe hb.pe hm) fun σ H Q q => ?_⟩
  obtain ⟨G, m, sl, T, s, w, q⟩ := q
  refine LE.intro ha.mono s w q (fun v T1 G1 H1 m1 x q e1 w1 r1 => ?_) fun e T' G' H' m' c d q x w r => q G' H' m' c d x w r
  refine LE.intro hb.mono (s.ext e1) w1 q (fun u T2 G2 H2 m2 y q e2 w2 r2 => ?_) fun e T' G' H' m' c d q x w r => q G' H' m' c d (e1.trans x) w r
  obtain ⟨t, q⟩ := ht _ _ _ _ q
  refine ⟨G2, m2, T2, v, u, w2, r1.mono e2.sub e2.ms, r2, ho.mono _ _ _ _ _ (fun z q G' H' z' e w r => ?_) q⟩
  obtain ⟨rfl, q⟩ := q
  simp [VRel, Rp] at r
  subst r
  exact ⟨t, rfl, q G' H' m2 ((e1.trans e2).trans e) w⟩
end
end DL
namespace DL
open PySem PySem.Spec PyProof.Rows L2
/-! ### not starred, not super() -/
def bare1 : Expr → Bool
  | .Starred _ _ => false
  | _ => true
theorem starEach_bare {x : Expr} {xs : List Expr} {env : PySem.Env} (h : bare1 x = true) : starEach (x :: xs) env = (false, eval x env) :: starEach xs env := by
  cases x <;> first | rfl | (simp [bare1] at h)
theorem starEach_any {pos : Pos} {env : PySem.Env} : ∀ {xs : List Expr}, xs.all bare1 = true → (backTo pos (starEach xs env)).any (·.1) = false
  | [], _ => rfl
  | x :: xs, h => by
    simp only [List.all_cons, Bool.and_eq_true] at h
    rw [starEach_bare h.1]
    have := starEach_any (pos := pos) (env := env) h.2
    simp only [backTo, List.map_cons, List.any_cons, Bool.false_or] at this ⊢
    exact this
theorem starEach_all {pos : Pos} {env : PySem.Env} : ∀ {xs : List Expr}, xs.all bare1 = true → (backTo pos (starEach xs env)).all (fun x => !x.1) = true
  | [], _ => rfl
  | x :: xs, h => by
    simp only [List.all_cons, Bool.and_eq_true] at h
    rw [starEach_bare h.1]
    have := starEach_all (pos := pos) (env := env) h.2
    simp only [backTo, List.map_cons, List.all_cons, Bool.not_false, Bool.true_and] at this ⊢
    exact this
def notSuper : Expr → Bool
  | .Call (.Name id _) [] [] _ => id != "super"
  | _ => true
theorem attr_base {o : Expr} {a : Str} {env : PySem.Env} {wh : Sem Value} (h : notSuper o = true) : attributeBase o a env wh = wh := by
  unfold attributeBase
  split
  · rename_i id _ pos
    simp only [notSuper] at h
    simp only [h, Bool.true_or, if_true]
  · rfl
section
variable {X : Cx} {W : L2.WX} {a b c : Expr} {fa fb fc : DE} {pos : Pos} {es : List Expr} {fs : DA}
/-! ### argument lists -/
theorem dpa_nil : DPA X W [] (fun _ T Q _ => Q [] T) := by
  refine ⟨fun sl T Q Q' X X' hq hx q => hq _ _ q, PA.imp pa_nil fun σ H Q q => ?_⟩
  obtain ⟨G, m, sl, T, s, w, q⟩ := q
  exact q G H m [] (Ext.refl _ _ _) w .nil
theorem dpa_cons (ha : DPE X W a fa) (hr : DPA X W es fs) (hb : bare1 a = true) : DPA X W (a :: es) (fun sl T Q X => fa sl T (fun v T1 => fs sl T1 (fun vs T2 => Q (v :: vs) T2) X) X) := by
  refine ⟨fun sl T Q Q' X X' hq hx q => ha.mono _ _ _ _ _ _ (fun v T1 q => hr.mono _ _ _ _ _ _ (fun u T2 q => hq _ _ q) hx q) hx q, PA.imp (pa_cons ha.pe hr.pa (starEach_bare hb)) fun σ H Q q => ?_⟩
  obtain ⟨G, m, sl, T, s, w, q⟩ := q
  refine LE.intro ha.mono s w q (fun v T1 G1 H1 m1 x q e1 w1 r1 => ?_) fun e T' G' H' m' c d q x w r => q G' H' m' c d x w r
  refine LAr.intro hr.mono (s.ext e1) w1 q (fun u T2 G2 H2 m2 y q e2 w2 r2 => ?_) fun e T' G' H' m' c d q x w r => q G' H' m' c d (e1.trans x) w r
  exact q G2 H2 m2 (x :: y) (e1.trans e2) w2 (.cons (r1.mono e2.sub e2.ms) r2)
/-! ### tuples and lists -/
theorem dats_rp {K : PySem.W.Frag} {G : Hp} {m : Fp} {xs : List Val} {ds : List PyData} {vs : List V} (e : dats xs = some ds) (r : VRels K G m xs vs) : RpL K G ds vs := dats_rel e r
theorem dpe_tup {k : Nat} (h : DPA X W es fs) : DPE X W (.Tuple es k pos) (fun sl T Q X => fs sl T (fun vs T1 => match dats vs with
    | some ds => ds.length ≤ sizeLine ∧ Q (.d (.tuple ds)) T1
    | none => False) X) := by
  refine ⟨fun sl T Q Q' X X' hq hx q => h.mono _ _ _ _ _ _ (fun v T1 q => ?_) hx q, PE.imp (pe_tup h.pa) fun σ H Q q => ?_⟩
  · cases e : dats v with
    | none => rw [e] at q; exact q
    | some ds => rw [e] at q; exact ⟨q.1, hq _ _ q.2⟩
  · obtain ⟨G, m, sl, T, s, w, q⟩ := q
    refine LAr.intro h.mono s w q (fun v T1 G1 H1 m1 x q e1 w1 r1 => ?_) fun e T' G' H' m' c d q x w r => q G' H' m' c d x w r
    cases e : dats v with
    | none => rw [e] at q; exact q.elim
    | some ds =>
      rw [e] at q
      have l := dats_rp e r1
      refine ⟨by rw [← l.length]; exact q.1, fun p hp => ?_⟩
      exact q.2 _ _ m1 _ (e1.trans (Ext.laid w1 hp)) (w1.laid hp) (rp_tup (.inl (.inl upd_same)) (l.upd (w1.gnone hp)))
theorem dpe_lst (h : DPA X W es fs) : DPE X W (.List es pos) (fun sl T Q X => fs sl T (fun vs T1 => match dats vs with
    | some ds => ds.length ≤ sizeLine ∧ Q (.d (.list ds)) T1
    | none => False) X) := by
  refine ⟨fun sl T Q Q' X X' hq hx q => h.mono _ _ _ _ _ _ (fun v T1 q => ?_) hx q, PE.imp (pe_lst h.pa) fun σ H Q q => ?_⟩
  · cases e : dats v with
    | none => rw [e] at q; exact q
    | some ds => rw [e] at q; exact ⟨q.1, hq _ _ q.2⟩
  · obtain ⟨G, m, sl, T, s, w, q⟩ := q
    refine LAr.intro h.mono s w q (fun v T1 G1 H1 m1 x q e1 w1 r1 => ?_) fun e T' G' H' m' c d q x w r => q G' H' m' c d x w r
    cases e : dats v with
    | none => rw [e] at q; exact q.elim
    | some ds =>
      rw [e] at q
      have l := dats_rp e r1
      refine ⟨by rw [← l.length]; exact q.1, fun p hp => ?_⟩
      exact q.2 _ _ m1 _ (e1.trans (Ext.laid w1 hp)) (w1.laid hp) (rp_list upd_same (l.upd (w1.gnone hp)))
end
/-! ### a new live object -/
section
variable {K : PySem.W.Frag} {G H : Hp} {m : Fp} {T : Tab}
theorem WRel.push (w : WRel K G H m T) {p : Addr} {o : HO} {ob : Ob} (n : H p = none) (r : ORel K G (upd H p o) (m ++ [[p]]) [p] ob) (hd : ∀ ps, o ≠ .tbl ps := by intro _ z; cases z) : WRel K G (upd H p o) (m ++ [[p]]) (T ++ [ob]) where
  dat := w.dat
  tb := tabs_new n w.tb
  sub := fun a u e => by rw [upd_ne (ne_of_none (w.sub a u e) n)]; exact w.sub a u e
  len := by simp [w.len]
  nd := by
    rw [List.flatten_append, List.nodup_append]
    refine ⟨w.nd, by simp, fun a h b h' => ?_⟩
    simp at h'
    subst h'
    exact fun e => w.notin n (e ▸ h)
  al := fun a h => by
    rw [List.flatten_append, List.mem_append] at h
    rcases h with h | h
    · have ne : a ≠ p := fun e => w.notin n (e ▸ h)
      exact (w.al a h).upd ne
    · simp at h; subst h; exact .same hd
  ob := fun k o' e => by
    by_cases hk : k < T.length
    · rw [List.getElem?_append_left hk] at e
      obtain ⟨fp, hm, q⟩ := w.ob k o' e
      have ne : ∀ a ∈ fp, a ≠ p := fun a h e => w.notin n (e ▸ mem_flat hm h)
      refine ⟨fp, by rw [List.getElem?_append_left (by rw [w.len]; exact hk)]; exact hm, q.stay (Sub.refl G) ⟨[[p]], rfl⟩ (fun a h g => g) fun a h u e _ => by rw [upd_ne (ne a h)]; exact e⟩
    · rw [List.getElem?_append_right (by omega)] at e
      have hk' : k = T.length := by
        have := (List.getElem?_eq_some_iff.mp e).1
        simp at this
        omega
      subst hk'
      simp at e
      subst e
      refine ⟨[p], ?_, r⟩
      rw [List.getElem?_append_right (by rw [w.len]; exact Nat.le_refl _)]
      simp [w.len]
theorem Ext.push (w : WRel K G H m T) {p : Addr} {o : HO} (n : H p = none) : Ext K G H m G (upd H p o) (m ++ [[p]]) := by
  have k : ∀ a u, H a = some u → upd H p o a = some u := fun a u e => by rw [upd_ne (ne_of_none e n)]; exact e
  refine .of_new (Sub.refl G) ⟨[[p]], rfl⟩ (fun a u e _ => k a u e) (fun a h => h.upd fun z => not_lv n (z ▸ h)) (fun a _ _ g => g) (fun a h g => ?_) fun a u e _ => k a u e
  rw [List.flatten_append, List.mem_append] at h
  rcases h with h | h
  · exact absurd h g
  · simp at h; subst h; exact n
theorem vrel_last {p : Addr} {n : Nat} (e : m.length = n) : VRel K G (m ++ [[p]]) (.ob n) (.ref p) := by
  subst e
  exact ⟨p, [], by simp, rfl⟩
end
section
variable {X : Cx} {W : L2.WX} {a b c : Expr} {fa fb fc : DE} {pos : Pos} {es : List Expr} {fs : DA}
theorem dpe_lstO (h : DPA X W es fs) : DPE X W (.List es pos) (fun sl T Q X => fs sl T (fun vs T1 => vs.length ≤ sizeLine ∧ Q (.ob T1.length) (T1 ++ [.lst vs])) X) := by
  refine ⟨fun sl T Q Q' X X' hq hx q => h.mono _ _ _ _ _ _ (fun v T1 q => ⟨q.1, hq _ _ q.2⟩) hx q, PE.imp (pe_lst h.pa) fun σ H Q q => ?_⟩
  obtain ⟨G, m, sl, T, s, w, q⟩ := q
  refine LAr.intro h.mono s w q (fun v T1 G1 H1 m1 x q e1 w1 r1 => ?_) fun e T' G' H' m' c d q x w r => q G' H' m' c d x w r
  refine ⟨by rw [← Paired.length r1]; exact q.1, fun p hp => ?_⟩
  refine q.2 _ _ (m1 ++ [[p]]) _ (e1.trans (Ext.push w1 hp)) (w1.push hp ?_) (vrel_last w1.len)
  exact ⟨p, x, rfl, w1.gnone hp, upd_same, VRels.mono (Sub.refl _) ⟨_, rfl⟩ r1⟩
/-! ### -a, not, and, or, a if c else b -/
theorem dpe_neg (ha : DPE X W a fa) : DPE X W (.UnaryOp .USub a pos) (fun sl T Q X => fa sl T (fun v T1 => match v with
    | .d (.int i) => Q (.d (.int (-i))) T1
    | _ => False) X) := by
  refine ⟨fun sl T Q Q' X X' hq hx q => ha.mono _ _ _ _ _ _ (fun v T1 q => ?_) hx q, PE.imp (pe_un un_neg ha.pe) fun σ H Q q => ?_⟩
  · split at q
    · exact hq _ _ q
    · exact q
  · obtain ⟨G, m, sl, T, s, w, q⟩ := q
    refine LE.intro ha.mono s w q (fun v T1 G1 H1 m1 x q e1 w1 r1 => ?_) fun e T' G' H' m' c d q x w r => q G' H' m' c d x w r
    split at q
    · simp [VRel, Rp] at r1
      exact ⟨_, r1, q G1 H1 m1 _ e1 w1 (by simp [VRel, Rp])⟩
    · exact q.elim
theorem dpe_not (ha : DPE X W a fa) : DPE X W (.UnaryOp .Not a pos) (fun sl T Q X => fa sl T (fun v T1 => truW T1 v fun b => Q (.d (.bool (!b))) T1) X) := by
  refine ⟨fun sl T Q Q' X X' hq hx q => ha.mono _ _ _ _ _ _ (fun v T1 q => truW_mono (fun b q => hq _ _ q) q) hx q, PE.imp (pe_notT ha.pe) fun σ H Q q => ?_⟩
  obtain ⟨G, m, sl, T, s, w, q⟩ := q
  refine LE.intro ha.mono s w q (fun v T1 G1 H1 m1 x q e1 w1 r1 => ?_) fun e T' G' H' m' c d q x w r => q G' H' m' c d x w r
  obtain ⟨b, t, z⟩ := truW_ok w1 r1 q
  exact ⟨b, t, z G1 H1 m1 _ e1 w1 (vrel_bool _)⟩
theorem truW_bool {T : Tab} {b : Bool} {k : Bool → Prop} : truW T (.d (.bool b)) k ↔ k b := Iff.rfl
theorem dpt_not (ma : Mono fa) (ha : DPT X W a fa) : DPT X W (.UnaryOp .Not a pos) (fun sl T Q X => fa sl T (fun v T1 => truW T1 v fun b => Q (.d (.bool (!b))) T1) X) := by
  refine ⟨PT.imp (pt_not ha.pt) fun σ H Q q => ?_⟩
  obtain ⟨G, m, sl, T, s, w, q⟩ := q
  exact LT.intro ma s w q (fun v T' q => truW_mono (fun b q G' H' m' e w => q G' H' m' e w) q) fun e T' G' H' m' c d q x w r => q G' H' m' c d x w r
theorem dpe_and {rest : List Expr} (ha : DPE X W a fa) (hb : DPE X W (.BoolOp .And (b :: rest) pos) fb) : DPE X W (.BoolOp .And (a :: b :: rest) pos) (fun sl T Q X => fa sl T (fun v T1 => truW T1 v fun t => if t = true then fb sl T1 Q X else Q v T1) X) := by
  refine ⟨fun sl T Q Q' X X' hq hx q => ha.mono _ _ _ _ _ _ (fun v T1 q => truW_mono (fun t q => ?_) q) hx q, PE.imp (pe_andT ha.pe hb.pe) fun σ H Q q => ?_⟩
  · cases t with
    | true => exact hb.mono _ _ _ _ _ _ hq hx q
    | false => exact hq _ _ q
  · obtain ⟨G, m, sl, T, s, w, q⟩ := q
    refine LE.intro ha.mono s w q (fun v T1 G1 H1 m1 x q e1 w1 r1 => ?_) fun e T' G' H' m' c d q x w r => q G' H' m' c d x w r
    obtain ⟨t, h, z⟩ := truW_ok w1 r1 q
    refine ⟨t, h, ?_⟩
    cases t with
    | true =>
      refine LE.intro hb.mono (s.ext e1) w1 z (fun u T2 G2 H2 m2 y q e2 w2 r2 => ?_) fun e T' G' H' m' c d q x w r => q G' H' m' c d (e1.trans x) w r
      exact q G2 H2 m2 _ (e1.trans e2) w2 r2
    | false => exact z G1 H1 m1 _ e1 w1 r1
theorem dpe_or {rest : List Expr} (ha : DPE X W a fa) (hb : DPE X W (.BoolOp .Or (b :: rest) pos) fb) : DPE X W (.BoolOp .Or (a :: b :: rest) pos) (fun sl T Q X => fa sl T (fun v T1 => truW T1 v fun t => if t = true then Q v T1 else fb sl T1 Q X) X) := by
  refine ⟨fun sl T Q Q' X X' hq hx q => ha.mono _ _ _ _ _ _ (fun v T1 q => truW_mono (fun t q => ?_) q) hx q, PE.imp (pe_orT ha.pe hb.pe) fun σ H Q q => ?_⟩
  · cases t with
    | false => exact hb.mono _ _ _ _ _ _ hq hx q
    | true => exact hq _ _ q
  · obtain ⟨G, m, sl, T, s, w, q⟩ := q
    refine LE.intro ha.mono s w q (fun v T1 G1 H1 m1 x q e1 w1 r1 => ?_) fun e T' G' H' m' c d q x w r => q G' H' m' c d x w r
    obtain ⟨t, h, z⟩ := truW_ok w1 r1 q
    refine ⟨t, h, ?_⟩
    cases t with
    | false =>
      refine LE.intro hb.mono (s.ext e1) w1 z (fun u T2 G2 H2 m2 y q e2 w2 r2 => ?_) fun e T' G' H' m' c d q x w r => q G' H' m' c d (e1.trans x) w r
      exact q G2 H2 m2 _ (e1.trans e2) w2 r2
    | true => exact z G1 H1 m1 _ e1 w1 r1
theorem dpe_one {o : BoolOp} (ha : DPE X W a fa) : DPE X W (.BoolOp o [a] pos) fa := ⟨ha.mono, pe_one ha.pe⟩
/-- the truth is one -/
theorem truW_det {T : Tab} {v : Val} {k : Bool → Prop} (q : truW T v k) : ∃ b, k b ∧ ∀ k' : Bool → Prop, (k' b → truW T v k') ∧ (truW T v k' → k' b) := by
  cases v with
  | d x =>
    cases x with
    | str s => exact ⟨_, q.2, fun k' => ⟨fun z => ⟨q.1, z⟩, fun z => z.2⟩⟩
    | _ => exact ⟨_, q, fun k' => ⟨fun z => z, fun z => z⟩⟩
  | ob n =>
    simp only [truW] at q ⊢
    cases e : getT T n with
    | none => rw [e] at q; exact q.elim
    | some o =>
      rw [e] at q
      cases o with
      | lst xs => exact ⟨_, q, fun k' => ⟨fun z => z, fun z => z⟩⟩
      | dic xs => exact ⟨_, q, fun k' => ⟨fun z => z, fun z => z⟩⟩
      | _ => exact q.elim
  | _ => exact q.elim
/-- a chain of and, or as a test hangs on no value -/
theorem pw_of {o : BoolOp} {vs : List Expr} {t : TT} (h : PT X (.BoolOp o vs pos) t) : PW X (.BoolOp o vs pos) t :=
  ⟨fun wh pins s σ H Q I q => h.run pins s σ H Q I q⟩
theorem dpt_and {rest : List Expr} (ma : Mono fa) (mb : Mono fb) (ha : DPT X W a fa) (hb : DPT X W (.BoolOp .And (b :: rest) pos) fb) : DPT X W (.BoolOp .And (a :: b :: rest) pos) (fun sl T Q X => fa sl T (fun v T1 => truW T1 v fun t => if t = true then fb sl T1 Q X else Q v T1) X) := by
  refine ⟨PT.imp (pw_and ha.pt (pw_of hb.pt)).pt fun σ H Q q => ?_⟩
  obtain ⟨G, m, sl, T, s, w, q⟩ := q
  refine LT.intro ma s w q (fun v T' q => ?_) fun e T' G' H' m' c d q x w r => q G' H' m' c d x w r
  obtain ⟨t, z, f⟩ := truW_det q
  refine (f _).1 fun G' H' m' e w' => ?_
  cases t with
  | true =>
    refine LT.intro mb (s.ext e) w' z (fun v T'' q => truW_mono (fun b q G1 H1 m1 e1 w1 => q G1 H1 m1 (e.trans e1) w1) q) fun e' T' G' H' m' c d q x w r => q G' H' m' c d (e.trans x) w r
  | false =>
    rw [if_neg Bool.false_ne_true] at z
    exact (f _).2 z G' H' m' e w'
theorem dpt_or {rest : List Expr} (ma : Mono fa) (mb : Mono fb) (ha : DPT X W a fa) (hb : DPT X W (.BoolOp .Or (b :: rest) pos) fb) : DPT X W (.BoolOp .Or (a :: b :: rest) pos) (fun sl T Q X => fa sl T (fun v T1 => truW T1 v fun t => if t = true then Q v T1 else fb sl T1 Q X) X) := by
  refine ⟨PT.imp (pw_or ha.pt (pw_of hb.pt)).pt fun σ H Q q => ?_⟩
  obtain ⟨G, m, sl, T, s, w, q⟩ := q
  refine LT.intro ma s w q (fun v T' q => ?_) fun e T' G' H' m' c d q x w r => q G' H' m' c d x w r
  obtain ⟨t, z, f⟩ := truW_det q
  refine (f _).1 fun G' H' m' e w' => ?_
  cases t with
  | false =>
    refine LT.intro mb (s.ext e) w' z (fun v T'' q => truW_mono (fun b q G1 H1 m1 e1 w1 => q G1 H1 m1 (e.trans e1) w1) q) fun e' T' G' H' m' c d q x w r => q G' H' m' c d (e.trans x) w r
  | true =>
    rw [if_pos rfl] at z
    exact (f _).2 z G' H' m' e w'
theorem dpt_one {o : BoolOp} (ha : DPT X W a fa) : DPT X W (.BoolOp o [a] pos) fa := by
  cases o with
  | And => exact ⟨(pw_and1 ha.pt).pt⟩
  | Or => exact ⟨(pw_or1 ha.pt).pt⟩
theorem dpe_ife (ma : Mono fc) (hc : DPT X W c fc) (ha : DPE X W a fa) (hb : DPE X W b fb) : DPE X W (.IfExp c a b pos) (fun sl T Q X => fc sl T (fun v T1 => truW T1 v fun t => if t = true then fa sl T1 Q X else fb sl T1 Q X) X) := by
  refine ⟨fun sl T Q Q' X X' hq hx q => ma _ _ _ _ _ _ (fun v T1 q => truW_mono (fun t q => ?_) q) hx q, PE.imp (pe_ifExp hc.pt ha.pe hb.pe) fun σ H Q q => ?_⟩
  · cases t with
    | true => exact ha.mono _ _ _ _ _ _ hq hx q
    | false => exact hb.mono _ _ _ _ _ _ hq hx q
  · obtain ⟨G, m, sl, T, s, w, q⟩ := q
    refine LT.intro ma s w q (fun v T1 q => truW_mono (fun t z G1 H1 m1 e1 w1 => ?_) q) fun e T' G' H' m' c d q x w r => q G' H' m' c d x w r
    cases t with
    | true =>
      refine LE.intro ha.mono (s.ext e1) w1 z (fun u T2 G2 H2 m2 y q e2 w2 r2 => ?_) fun e T' G' H' m' c d q x w r => q G' H' m' c d (e1.trans x) w r
      exact q G2 H2 m2 _ (e1.trans e2) w2 r2
    | false =>
      refine LE.intro hb.mono (s.ext e1) w1 z (fun u T2 G2 H2 m2 y q e2 w2 r2 => ?_) fun e T' G' H' m' c d q x w r => q G' H' m' c d (e1.trans x) w r
      exact q G2 H2 m2 _ (e1.trans e2) w2 r2
theorem pt_ifExp {t ta tb : TT} (hc : PT X c t) (ha : PT X a ta) (hb : PT X b tb) : PT X (.IfExp c a b pos) (fun σ H Q => t σ H fun k H1 => if k = true then ta σ H1 Q else tb σ H1 Q) := by
  refine ⟨fun pins s σ H Q I h => ?_⟩
  unfold PySem.isTrue
  refine wpAny_bind (thn (hc.run pins s σ H _ I h) fun k s1 z => ?_)
  obtain ⟨H1, I1, q1⟩ := z
  cases k with
  | true => exact ha.run pins s1 σ H1 Q I1 q1
  | false => exact hb.run pins s1 σ H1 Q I1 q1
theorem dpt_ife (mc : Mono fc) (ma : Mono fa) (mb : Mono fb) (hc : DPT X W c fc) (ha : DPT X W a fa) (hb : DPT X W b fb) : DPT X W (.IfExp c a b pos) (fun sl T Q X => fc sl T (fun v T1 => truW T1 v fun t => if t = true then fa sl T1 Q X else fb sl T1 Q X) X) := by
  refine ⟨PT.imp (pt_ifExp hc.pt ha.pt hb.pt) fun σ H Q q => ?_⟩
  obtain ⟨G, m, sl, T, s, w, q⟩ := q
  refine LT.intro mc s w q (fun v T1 q => truW_mono (fun t z G1 H1 m1 e1 w1 => ?_) q) fun e T' G' H' m' c d q x w r => q G' H' m' c d x w r
  cases t with
  | true =>
    refine LT.intro ma (s.ext e1) w1 z (fun v T'' q => truW_mono (fun b q G2 H2 m2 e2 w2 => q G2 H2 m2 (e1.trans e2) w2) q) fun e' T' G' H' m' c d q x w r => q G' H' m' c d (e1.trans x) w r
  | false =>
    refine LT.intro mb (s.ext e1) w1 z (fun v T'' q => truW_mono (fun b q G2 H2 m2 e2 w2 => q G2 H2 m2 (e1.trans e2) w2) q) fun e' T' G' H' m' c d q x w r => q G' H' m' c d (e1.trans x) w r
end
end DL
namespace DL
open PySem PySem.Spec PyProof.Rows L2
/-! ### a live object is written, frozen -/
section
variable {K : PySem.W.Frag} {G H : Hp} {m : Fp} {T : Tab}
theorem flat_ne (w : WRel K G H m T) {k j : Nat} {f g : List Addr} {a b : Addr} (hk : m[k]? = some f) (hj : m[j]? = some g) (ne : k ≠ j) (ha : a ∈ f) (hb : b ∈ g) : a ≠ b := by
  have go : ∀ (m : Fp) (k j : Nat) (f g : List Addr), m.flatten.Nodup → m[k]? = some f → m[j]? = some g → k < j → a ∈ f → b ∈ g → a ≠ b := by
    intro m
    induction m with
    | nil => intro k j f g _ h; simp at h
    | cons x r ih =>
      intro k j f g nd hk hj lt ha hb
      rw [List.flatten_cons, List.nodup_append] at nd
      cases k with
      | zero =>
        cases j with
        | zero => exact absurd lt (Nat.lt_irrefl _)
        | succ j =>
          simp at hk hj
          subst hk
          exact nd.2.2 a ha b (List.mem_flatten.mpr ⟨g, List.mem_of_getElem? hj, hb⟩)
      | succ k =>
        cases j with
        | zero => exact absurd lt (Nat.not_lt_zero _)
        | succ j => exact ih k j f g nd.2.1 (by simpa using hk) (by simpa using hj) (Nat.lt_of_succ_lt_succ lt) ha hb
  rcases Nat.lt_or_gt_of_ne ne with h | h
  · exact go m k j f g w.nd hk hj h ha hb
  · intro e
    have : ∀ (m : Fp) (k j : Nat) (f g : List Addr), m.flatten.Nodup → m[k]? = some f → m[j]? = some g → k < j → b ∈ f → a ∈ g → b ≠ a := by
      intro m
      induction m with
      | nil => intro k j f g _ h; simp at h
      | cons x r ih =>
        intro k j f g nd hk hj lt ha hb
        rw [List.flatten_cons, List.nodup_append] at nd
        cases k with
        | zero =>
          cases j with
          | zero => exact absurd lt (Nat.lt_irrefl _)
          | succ j =>
            simp at hk hj
            subst hk
            exact nd.2.2 b ha a (List.mem_flatten.mpr ⟨g, List.mem_of_getElem? hj, hb⟩)
        | succ k =>
          cases j with
          | zero => exact absurd lt (Nat.not_lt_zero _)
          | succ j => exact ih k j f g nd.2.1 (by simpa using hk) (by simpa using hj) (Nat.lt_of_succ_lt_succ lt) ha hb
    exact this m j k g f w.nd hj hk h hb ha e.symm
theorem Ext.setO (w : WRel K G H m T) {k : Nat} {a : Addr} {o u0 : HO} (hm : m[k]? = some [a]) (h0 : H a = some u0) (t0 : (∀ ps, u0 ≠ .tbl ps) ∧ ∀ c q, u0 ≠ LamX.CodeO c q) (hd : ∀ ps, o ≠ .tbl ps := by intro _ z; cases z) : Ext K G H m G (upd H a o) m := by
  refine .of_new (Sub.refl G) (MSub.refl m) (fun b u e h => ?_) (fun b h => ?_) (fun b _ _ g => g) (fun b h g => absurd h g) fun b u e z => ?_
  · have ne : b ≠ a := fun z => h (z ▸ mem_flat hm (by simp))
    rw [upd_ne ne]; exact e
  · by_cases z : b = a
    · subst z; exact .same hd
    · exact h.upd z
  · have ne : b ≠ a := fun y => by
      subst y
      rw [h0] at e; cases e
      obtain ⟨ps, z | ⟨c, q, z⟩⟩ := z
      · exact t0.1 ps z
      · exact t0.2 c q z
    rw [upd_ne ne]; exact e
theorem WRel.setO (w : WRel K G H m T) {k : Nat} {a : Addr} {o : HO} {ob : Ob} (hm : m[k]? = some [a]) (ga : G a = none) (r : ORel K G (upd H a o) m [a] ob) (ht : LamX.Tabs (tbOf K) (upd H a o)) (hd : ∀ ps, o ≠ .tbl ps := by intro _ z; cases z) : WRel K G (upd H a o) m (T.set k ob) where
  dat := w.dat
  tb := ht
  sub := fun b u e => by
    have ne : b ≠ a := fun z => by subst z; rw [ga] at e; cases e
    rw [upd_ne ne]; exact w.sub b u e
  len := by simp [w.len]
  nd := w.nd
  al := fun b h => by
    by_cases e : b = a
    · subst e; exact .same hd
    · exact (w.al b h).upd e
  ob := fun j o' e => by
    by_cases hj : k = j
    · subst hj
      rw [List.getElem?_set] at e
      simp only [if_true] at e
      split at e
      · cases e; exact ⟨[a], hm, r⟩
      · cases e
    · rw [List.getElem?_set_ne hj] at e
      obtain ⟨fp, hf, q⟩ := w.ob j o' e
      have ne : ∀ b ∈ fp, b ≠ a := fun b hb => flat_ne w hf hm (Ne.symm hj) hb (by simp)
      exact ⟨fp, hf, q.stay (Sub.refl G) (MSub.refl m) (fun b h g => g) fun b h u e _ => by rw [upd_ne (ne b h)]; exact e⟩
theorem WRel.frz (w : WRel K G H m T) {k : Nat} {a : Addr} {o : HO} (hm : m[k]? = some [a]) (ha : H a = some o) (hd : ∀ ps, o ≠ .tbl ps := by intro _ z; cases z) : WRel K (upd G a o) H m (T.set k .dead) where
  dat := dat_upd w.dat hd
  tb := w.tb
  sub := fun b u e => by
    by_cases z : b = a
    · subst z; rw [upd_same] at e; rw [ha]; exact e
    · rw [upd_ne z] at e; exact w.sub b u e
  len := by simp [w.len]
  nd := w.nd
  al := w.al
  ob := fun j o' e => by
    by_cases hj : k = j
    · subst hj
      rw [List.getElem?_set] at e
      simp only [if_true] at e
      split at e
      · cases e; exact ⟨[a], hm, True.intro⟩
      · cases e
    · rw [List.getElem?_set_ne hj] at e
      obtain ⟨fp, hf, q⟩ := w.ob j o' e
      have ne : ∀ b ∈ fp, b ≠ a := fun b hb => flat_ne w hf hm (Ne.symm hj) hb (by simp)
      refine ⟨fp, hf, ?_⟩
      by_cases ga : G a = none
      · exact q.stay (sub_upd ga) (MSub.refl m) (fun b h g => by rw [upd_ne (ne b h)]; exact g) fun b h u e _ => e
      · obtain ⟨u, hu⟩ := Option.ne_none_iff_exists'.mp ga
        have e2 : upd G a o = G := by
          funext b
          by_cases z : b = a
          · subst z; rw [upd_same, hu]; have := w.sub _ _ hu; rw [ha] at this; exact this
          · rw [upd_ne z]
        rw [e2]; exact q
theorem Ext.frz (w : WRel K G H m T) {k : Nat} {a : Addr} {o : HO} (hm : m[k]? = some [a]) (ga : G a = none) : Ext K G H m (upd G a o) H m := by
  refine .of_new (sub_upd ga) (MSub.refl m) (fun b u e _ => e) (fun b h => h) (fun b _ h g => ?_) (fun b h g => absurd h g) fun b u e _ => e
  have ne : b ≠ a := fun z => h (z ▸ mem_flat hm (by simp))
  rw [upd_ne ne]; exact g
/-- the live list at a place -/
theorem WRel.lst (w : WRel K G H m T) {n : Nat} {xs : List Val} {x : V} (e : getT T n = some (.lst xs)) (r : VRel K G m (.ob n) x) : ∃ a vs, x = .ref a ∧ m[n]? = some [a] ∧ G a = none ∧ H a = some (.lst vs) ∧ VRels K G m xs vs := by
  rw [getT_eq] at e
  obtain ⟨fp, hm, a, vs, hf, hG, hH, hv⟩ := w.ob _ _ e
  obtain ⟨b, s, hm', rfl⟩ := r
  rw [hm] at hm'; subst hf; cases hm'
  exact ⟨a, vs, rfl, hm, hG, hH, hv⟩
end
theorem VRels.get {K : PySem.W.Frag} {G : Hp} {m : Fp} : ∀ {xs : List Val} {vs : List V} {i : Nat} {x : Val}, VRels K G m xs vs → xs[i]? = some x → ∃ v, vs[i]? = some v ∧ VRel K G m x v
  | _, _, _, _, .nil, e => by simp at e
  | _, _, 0, _, .cons r _, e => by simp at e; subst e; exact ⟨_, rfl, r⟩
  | _, _, i + 1, x, .cons _ t, e => by
    obtain ⟨u, h1, h2⟩ := VRels.get (i := i) (x := x) t (by simpa using e)
    exact ⟨u, by simpa using h1, h2⟩
theorem VRels.app {K : PySem.W.Frag} {G : Hp} {m : Fp} : ∀ {xs ys : List Val} {vs us : List V}, VRels K G m xs vs → VRels K G m ys us → VRels K G m (xs ++ ys) (vs ++ us)
  | _, _, _, _, .nil, s => s
  | _, _, _, _, .cons r t, s => .cons r (VRels.app t s)
theorem dv_rel {K : PySem.W.Frag} {G : Hp} {m : Fp} : ∀ {xs : List PyData} {vs : List V}, RpL K G xs vs → VRels K G m (dv xs) vs
  | [], vs, r => by simp only [RpL] at r; subst r; exact .nil
  | x :: xs, vs, r => by
    simp only [RpL] at r
    obtain ⟨v, t, rfl, q, l⟩ := r
    exact .cons q (dv_rel l)
section
variable {X : Cx} {W : L2.WX} {a b c : Expr} {fa fb fc : DE} {pos : Pos} {es : List Expr} {fs : DA}
/-! ### a < b < c -/
def chainF (g g' : G2) (fa fb fc : DE) : DE := fun sl T Q X => fa sl T (fun v T1 => fb sl T1 (fun u T2 => g T2 v u fun z => match z with
    | .d (.bool true) => fc sl T2 (fun w T3 => g' T3 u w fun z => Q z T3) X
    | .d (.bool false) => Q (.d (.bool false)) T2
    | _ => False) X) X
theorem mono_chain {g g' : G2} (ma : Mono fa) (mb : Mono fb) (mc : Mono fc) (mg : Mono2 g) (mg' : Mono2 g') : Mono (chainF g g' fa fb fc) := by
  intro sl T Q Q' X X' hq hx q
  refine ma _ _ _ _ _ _ (fun v T1 q => mb _ _ _ _ _ _ (fun u T2 q => mg _ _ _ _ _ (fun z q => ?_) q) hx q) hx q
  split at q
  · exact mc _ _ _ _ _ _ (fun w T3 q => mg' _ _ _ _ _ (fun z q => hq _ _ q) q) hx q
  · exact hq _ _ q
  · exact q.elim
theorem dpe_chain {o o' : CmpOp} {g g' : G2} (ha : DPE X W a fa) (hb : DPE X W b fb) (hc : DPE X W c fc) (ho : DOp X (compareOp o) g) (ho' : DOp X (compareOp o') g') (hm : lastMarks [o, o'] [b, c] = false) :
    DPE X W (.Compare a [o, o'] [b, c] pos) (chainF g g' fa fb fc) := by
  refine ⟨mono_chain ha.mono hb.mono hc.mono ho.mono ho'.mono, PE.imp (pe_chain ho.op ho'.op ha.pe hb.pe hc.pe hm) fun σ H Q q => ?_⟩
  obtain ⟨G, m, sl, T, s, w, q⟩ := q
  refine LE.intro ha.mono s w q (fun v T1 G1 H1 m1 x q e1 w1 r1 => ?_) fun e T' G' H' m' c d q x w r => q G' H' m' c d x w r
  refine LE.intro hb.mono (s.ext e1) w1 q (fun u T2 G2 H2 m2 y q e2 w2 r2 => ?_) fun e T' G' H' m' c d q x w r => q G' H' m' c d (e1.trans x) w r
  refine ⟨G2, m2, T2, v, u, w2, r1.mono e2.sub e2.ms, r2, ho.mono _ _ _ _ _ (fun z q G3 H3 z' e3 w3 r3 => ?_) q⟩
  split at q
  · simp [VRel, Rp] at r3
    subst r3
    refine ⟨true, rfl, ?_⟩
    simp only [if_true]
    refine LE.intro hc.mono (s.ext ((e1.trans e2).trans e3)) w3 q (fun t T4 G4 H4 m4 y' q e4 w4 r4 => ?_) fun e T' G' H' m' c d q x w r => q G' H' m' c d (((e1.trans e2).trans e3).trans x) w r
    refine ⟨G4, m4, T4, u, t, w4, r2.mono (e3.sub.trans e4.sub) (e3.ms.trans e4.ms), r4, ho'.mono _ _ _ _ _ (fun z q G' H' z' e w r => ?_) q⟩
    exact q G' H' m4 z' ((((e1.trans e2).trans e3).trans e4).trans e) w r
  · simp [VRel, Rp] at r3
    subst r3
    exact ⟨false, rfl, q G3 H3 m2 _ ((e1.trans e2).trans e3) w3 (vrel_bool _)⟩
  · exact q.elim
theorem dpt_chain {o o' : CmpOp} {g g' : G2} (ha : DPE X W a fa) (hb : DPE X W b fb) (hc : DPE X W c fc) (ho : DOp X (compareOp o) g) (ho' : DOp X (compareOp o') g') (ht' : Truths g') (hm : lastMarks [o, o'] [b, c] = false) :
    DPT X W (.Compare a [o, o'] [b, c] pos) (chainF g g' fa fb fc) := by
  refine ⟨PT.imp (pt_chain ho.op ho'.op ha.pe hb.pe hc.pe hm) fun σ H Q q => ?_⟩
  obtain ⟨G, m, sl, T, s, w, q⟩ := q
  refine LE.intro ha.mono s w q (fun v T1 G1 H1 m1 x q e1 w1 r1 => ?_) fun e T' G' H' m' c d q x w r => q G' H' m' c d x w r
  refine LE.intro hb.mono (s.ext e1) w1 q (fun u T2 G2 H2 m2 y q e2 w2 r2 => ?_) fun e T' G' H' m' c d q x w r => q G' H' m' c d (e1.trans x) w r
  refine ⟨G2, m2, T2, v, u, w2, r1.mono e2.sub e2.ms, r2, ho.mono _ _ _ _ _ (fun z q G3 H3 z' e3 w3 r3 => ?_) q⟩
  split at q
  · simp [VRel, Rp] at r3
    subst r3
    refine ⟨true, rfl, ?_⟩
    simp only [if_true]
    refine LE.intro hc.mono (s.ext ((e1.trans e2).trans e3)) w3 q (fun t T4 G4 H4 m4 y' q e4 w4 r4 => ?_) fun e T' G' H' m' c d q x w r => q G' H' m' c d (((e1.trans e2).trans e3).trans x) w r
    obtain ⟨tt, q⟩ := ht' _ _ _ _ q
    refine ⟨G4, m4, T4, u, t, w4, r2.mono (e3.sub.trans e4.sub) (e3.ms.trans e4.ms), r4, ho'.mono _ _ _ _ _ (fun z q G' H' z' e w r => ?_) q⟩
    obtain ⟨rfl, q⟩ := q
    simp [VRel, Rp] at r
    subst r
    exact ⟨tt, rfl, q G' H' m4 ((((e1.trans e2).trans e3).trans e4).trans e) w⟩
  · simp [VRel, Rp] at r3
    subst r3
    refine ⟨false, rfl, ?_⟩
    exact ⟨false, rfl, q G3 H3 m2 ((e1.trans e2).trans e3) w3⟩
  · exact q.elim
theorem truths_on2 {f : PyData → PyData → (Val → Prop) → Prop} (h : ∀ x y k, f x y k → ∃ b, f x y fun z => z = .d (.bool b) ∧ k (.d (.bool b))) : Truths (on2 f) := by
  intro T v u k q
  unfold on2 at q ⊢
  split at q
  · exact h _ _ _ q
  · exact q.elim
theorem truths_cmp (o : CmpOp) : Truths (cmpW o) := by
  have ord : ∀ (f : Int → Int → Bool) (g : List Nat → List Nat → Bool), Truths (on2 (ordD f g)) := fun f g => truths_on2 fun x y k q => by
    unfold ordD at q ⊢
    split at q
    · exact ⟨_, rfl, q⟩
    · exact ⟨_, rfl, q⟩
    · exact q.elim
  have isin : ∀ neg, Truths (on2 (inD neg)) := fun neg => truths_on2 fun x y k q => by
    unfold inD at q ⊢
    split at q
    · exact ⟨_, q.1, rfl, q.2⟩
    · exact ⟨_, q.1, rfl, q.2⟩
    · split at q
      · exact ⟨_, rfl, q⟩
      · exact q.elim
    · exact q.elim
  have iss : ∀ neg, Truths (isW neg) := fun neg T v u k q => by
    unfold isW at q ⊢
    split at q
    · exact ⟨_, rfl, q⟩
    · split at q
      · exact ⟨_, rfl, q⟩
      · exact q.elim
    · exact q.elim
  cases o
  case Eq => exact truths_on2 fun x y k q => ⟨_, q.1, rfl, q.2⟩
  case NotEq => exact truths_on2 fun x y k q => ⟨_, q.1, rfl, q.2⟩
  case Lt => exact ord (fun i j => decide (i < j)) (fun a b => decide (a < b))
  case LtE => exact ord (fun i j => decide (i ≤ j)) (fun a b => !decide (b < a))
  case Gt => exact ord (fun i j => decide (j < i)) (fun a b => decide (b < a))
  case GtE => exact ord (fun i j => decide (j ≤ i)) (fun a b => !decide (a < b))
  case Is => exact iss false
  case IsNot => exact iss true
  case In => exact isin false
  case NotIn => exact isin true
/-! ### xs[i], xs[lo:hi] -/
theorem idxW_mono : Mono2 idxW := by
  intro T v u k k' h q
  unfold idxW at q ⊢
  split at q
  · split at q
    · split at q
      · exact h _ q
      · exact q
    · split at q
      · exact h _ q
      · exact q
    · refine ⟨q.1, ?_⟩
      have q := q.2
      split at q
      · exact h _ q
      · exact q
    · split at q
      · split at q
        · exact h _ q
        · exact q
      · exact q
    · exact q
  · exact q
theorem atI_rel {α β : Type} {xs : List α} {ys : List β} {i : Int} {x : α} (hl : xs.length = ys.length) (e : atI xs i = some x) : ∃ j : Nat, xs[j]? = some x ∧ ∀ y, ys[j]? = some y → atI ys i = some y := by
  unfold atI at e ⊢
  rw [← hl]
  cases q : ixN xs.length i with
  | none => rw [q] at e; cases e
  | some j =>
    rw [q] at e
    exact ⟨j, e, fun y h => h⟩
theorem ix_data : IxR X (LR X.K idxW) := by
  intro value slice pins s σ H x y v u Q I rx ry q hs
  obtain ⟨G, m, T, dv, du, w, r1, r2, q⟩ := q
  unfold idxW at q
  split at q
  · rename_i i
    simp [VRel, Rp] at r2
    subst r2
    split at q
    · rename_i xs
      simp only [VRel, Rp] at r1
      obtain ⟨a, vs, rfl, h, l⟩ := r1
      split at q
      · rename_i z e
        obtain ⟨j, h1, h2⟩ := atI_rel l.length e
        obtain ⟨vz, h3, h4⟩ := l.get h1
        exact ix_list value slice pins s σ H _ _ v u Q I rx ry ⟨a, vs, i, vz, rfl, rfl, .inl (.inl (w.sub _ _ h)), h2 _ h3, q G H vz (Ext.refl _ _ _) w h4⟩ hs
      · exact q.elim
    · rename_i xs
      simp only [VRel, Rp] at r1
      obtain ⟨a, vs, rfl, h, l⟩ := r1
      split at q
      · rename_i z e
        obtain ⟨j, h1, h2⟩ := atI_rel l.length e
        obtain ⟨vz, h3, h4⟩ := l.get h1
        exact ix_tup value slice pins s σ H _ _ v u Q I rx ry ⟨a, vs, i, vz, rfl, rfl, w.sub.sqT h, h2 _ h3, q G H vz (Ext.refl _ _ _) w h4⟩ hs
      · exact q.elim
    · rename_i xs
      simp [VRel, Rp] at r1
      subst r1
      obtain ⟨hz, q⟩ := q
      split at q
      · rename_i z e
        exact ix_str value slice pins s σ H _ _ v u Q I rx ry ⟨xs, i, z, rfl, rfl, hz, e, q G H _ (Ext.refl _ _ _) w (by simp [VRel, Rp])⟩ hs
      · exact q.elim
    · split at q
      · rename_i xs e0
        obtain ⟨a, vs, rfl, hm, hG, hH, l⟩ := w.lst e0 r1
        split at q
        · rename_i z e
          obtain ⟨j, h1, h2⟩ := atI_rel (Paired.length l) e
          obtain ⟨vz, h3, h4⟩ := VRels.get l h1
          exact ix_list value slice pins s σ H _ _ v u Q I rx ry ⟨a, vs, i, vz, rfl, rfl, .inl (.inl hH), h2 _ h3, q G H vz (Ext.refl _ _ _) w h4⟩ hs
        · exact q.elim
      · exact q.elim
    · exact q.elim
  · exact q.elim
theorem dpe_idx (ha : DPE X W a fa) (hb : DPE X W b fb) (hs : PlainIx b) : DPE X W (.Subscript a b pos) (fun sl T Q X => fa sl T (fun v T1 => fb sl T1 (fun u T2 => idxW T2 v u (fun z => Q z T2)) X) X) :=
  ⟨mono_two ha.mono hb.mono idxW_mono, PE.imp (pe_ix ix_data ha.pe hb.pe hs) fun σ H Q q => le_two ha hb idxW_mono q⟩
abbrev DO := Slots → Tab → (Option Val → Tab → Prop) → XC → Prop
def MonoO (f : DO) : Prop := ∀ sl T (Q Q' : Option Val → Tab → Prop) (X X' : XC), (∀ v T, Q v T → Q' v T) → (∀ e T, X e T → X' e T) → f sl T Q X → f sl T Q' X'
def LO (K : PySem.W.Frag) (W : L2.WX) (f : DO) : TO := fun σ H Q => ∃ G m sl T, SRel K G m sl σ ∧ WRel K G H m T ∧
  f sl T (fun v T' => ∃ o, optI v = some o ∧ ∀ G' H' m', Ext K G H m G' H' m' → WRel K G' H' m' T' → Q o H')
    (fun e T' => ∀ G' H' m' c d, Ext K G H m G' H' m' → WRel K G' H' m' T' → XRel K G' e c d → W c d σ H')
structure DPO (X : Cx) (W : L2.WX) (e : Option Expr) (f : DO) : Prop where
  mono : MonoO f
  po : PO X e (LO X.K W f)
theorem PO.imp {X : Cx} {e : Option Expr} {t t' : TO} (h : PO X e t) (i : ∀ σ H Q, t' σ H Q → t σ H Q) : PO X e t' := ⟨fun pins s σ H Q I q => h.run pins s σ H Q I (i σ H Q q)⟩
theorem dpo_none : DPO X W none (fun _ T Q _ => Q none T) := by
  refine ⟨fun sl T Q Q' X X' hq hx q => hq _ _ q, PO.imp po_none fun σ H Q q => ?_⟩
  obtain ⟨G, m, sl, T, s, w, o, e, q⟩ := q
  simp [optI] at e
  subst e
  exact q G H m (Ext.refl _ _ _) w
theorem dpo_some (ha : DPE X W a fa) : DPO X W (some a) (fun sl T Q X => fa sl T (fun v T1 => Q (some v) T1) X) := by
  refine ⟨fun sl T Q Q' X X' hq hx q => ha.mono _ _ _ _ _ _ (fun v T1 q => hq _ _ q) hx q, PO.imp (po_some ha.pe) fun σ H Q q => ?_⟩
  obtain ⟨G, m, sl, T, s, w, q⟩ := q
  refine LE.intro ha.mono s w q (fun v T1 G1 H1 m1 x q e1 w1 r1 => ?_) fun e T' G' H' m' c d q x w r => q G' H' m' c d x w r
  obtain ⟨o, e, q⟩ := q
  unfold optI at e
  split at e
  · rename_i z; cases z
  · rename_i i z
    cases z
    cases e
    simp [VRel, Rp] at r1
    exact ⟨i, r1, q G1 H1 m1 e1 w1⟩
  · cases e
theorem slcW_mono {T : Tab} {v : Val} {l h : Option Int} {k k' : Val → Prop} (f : ∀ z, k z → k' z) (q : slcW T v l h k) : slcW T v l h k' := by
  unfold slcW at q ⊢
  split at q
  · exact f _ q
  · exact f _ q
  · exact ⟨q.1, f _ q.2⟩
  · exact q
def slcR (K : PySem.W.Frag) : V → Option Int → Option Int → Hp → VK → Prop := fun x lo hi H Q => ∃ G m T v, WRel K G H m T ∧ VRel K G m v x ∧
  slcW T v lo hi (fun z => ∀ G' H' w, Ext K G H m G' H' m → WRel K G' H' m T → VRel K G' m z w → Q w H')
theorem cut_rel {K : PySem.W.Frag} {G : Hp} {xs : List PyData} {vs : List V} (l : RpL K G xs vs) (lo hi : Option Int) : RpL K G (cutD xs lo hi) (cutV vs lo hi) := by
  unfold cutD cutV
  rw [l.length]
  exact (l.drop _).take _
theorem sl_data : SlR X (slcR X.K) := by
  intro pins s σ H x v vl vu lo hi sl Q I rx hs pl pu q
  obtain ⟨G, m, T, dv, w, r1, q⟩ := q
  unfold slcW at q
  split at q
  · rename_i xs e
    obtain ⟨a, vs, rfl, h, l⟩ := asD_list w r1 e
    refine sl_list pins s σ H _ v vl vu lo hi sl Q I rx hs pl pu ⟨a, vs, rfl, .inl (.inl h), fun p hp => ?_⟩
    exact q _ _ _ (Ext.laid w hp) (w.laid hp) (rp_list upd_same ((cut_rel l lo hi).upd (w.gnone hp)))
  · rename_i xs e
    obtain ⟨a, vs, rfl, h, l⟩ := asD_tup w r1 e
    refine sl_tupA pins s σ H _ v vl vu lo hi sl Q I rx hs pl pu ⟨a, vs, rfl, w.sub.sqT h, fun z => ?_, fun _ p hp => ?_⟩
    · refine q G H _ (Ext.refl _ _ _) w (rp_tup h ?_)
      have e3 : cutD xs lo hi = xs := by
        unfold cutD
        rw [← l.length] at z
        rw [z.1, z.2]
        simp
      rw [e3]; exact l
    · exact q _ _ _ (Ext.laid w hp) (w.laid hp) (rp_tup (.inl (.inl upd_same)) ((cut_rel l lo hi).upd (w.gnone hp)))
  · rename_i z e
    have e2 := asD_str w r1 e
    subst e2
    exact sl_str pins s σ H _ v vl vu lo hi sl Q I rx hs pl pu ⟨z, rfl, q.1, q.2 G H _ (Ext.refl _ _ _) w (by simp [VRel, Rp])⟩
  · exact q.elim
end
end DL
namespace DL
open PySem PySem.Spec PyProof.Rows L2
section
variable {X : Cx} {W : L2.WX} {a b c : Expr} {fa fb fc : DE} {pos : Pos} {es : List Expr} {fs : DA} {lo hi : Option Expr} {fl fh : DO}
def slcF (fa : DE) (fl fh : DO) : DE := fun sl T Q X => fa sl T (fun v T1 => fl sl T1 (fun l T2 => match optI l with
    | some l => fh sl T2 (fun h T3 => match optI h with
      | some h => slcW T3 v l h (fun z => Q z T3)
      | none => False) X
    | none => False) X) X
theorem dpe_slc {p2 : Pos} (ha : DPE X W a fa) (hl : DPO X W lo fl) (hh : DPO X W hi fh) : DPE X W (.Subscript a (.Slice lo hi none p2) pos) (slcF fa fl fh) := by
  refine ⟨fun sl T Q Q' X X' hq hx q => ha.mono _ _ _ _ _ _ (fun v T1 q => hl.mono _ _ _ _ _ _ (fun l T2 q => ?_) hx q) hx q, PE.imp (pe_slice sl_data ha.pe hl.po hh.po) fun σ H Q q => ?_⟩
  · split at q
    · refine hh.mono _ _ _ _ _ _ (fun h T3 q => ?_) hx q
      split at q
      · exact slcW_mono (fun z q => hq _ _ q) q
      · exact q
    · exact q
  · obtain ⟨G, m, sl, T, s, w, q⟩ := q
    refine LE.intro ha.mono s w q (fun v T1 G1 H1 m1 x q e1 w1 r1 => ?_) fun e T' G' H' m' c d q x w r => q G' H' m' c d x w r
    refine ⟨G1, m1, sl, T1, s.ext e1, w1, hl.mono _ _ _ _ _ _ (fun l T2 q => ?_) (fun e T' q G' H' m' c d x w r => q G' H' m' c d (e1.trans x) w r) q⟩
    cases e : optI l with
    | none => rw [e] at q; exact q.elim
    | some l' =>
      rw [e] at q
      refine ⟨l', rfl, fun G2 H2 m2 e2 w2 => ?_⟩
      refine ⟨G2, m2, sl, T2, s.ext (e1.trans e2), w2, hh.mono _ _ _ _ _ _ (fun h T3 q => ?_) (fun e T' q G' H' m' c d x w r => q G' H' m' c d ((e1.trans e2).trans x) w r) q⟩
      cases e' : optI h with
      | none => rw [e'] at q; exact q.elim
      | some h' =>
        rw [e'] at q
        refine ⟨h', rfl, fun G3 H3 m3 e3 w3 => ?_⟩
        refine ⟨G3, m3, T3, v, w3, r1.mono (e2.sub.trans e3.sub) (e2.ms.trans e3.ms), slcW_mono (fun z q G' H' z' e w r => ?_) q⟩
        exact q G' H' m3 z' (((e1.trans e2).trans e3).trans e) w r
/-! ### isinstance of built-in types -/
def tyOk (t : String) : Bool := t == "int" || t == "bool" || t == "str" || t == "list" || t == "tuple" || t == "dict" || t == "NoneType"
theorem tyName_ok {T : Tab} {v : Val} {t : String} (e : tyName T v = some t) : tyOk t = true := by
  unfold tyName at e
  split at e
  all_goals first
    | (cases e; rfl)
    | (split at e <;> first | (cases e; rfl) | cases e)
    | cases e
theorem tyX_of {K : PySem.W.Frag} {G H : Hp} {m : Fp} {T : Tab} {v : Val} {x : V} {t : String} (w : WRel K G H m T) (r : VRel K G m v x) (e : tyName T v = some t) : TyX K H x (.type t) := by
  unfold tyName at e
  split at e
  · cases e; simp [VRel, Rp] at r; subst r; exact .base .non
  · cases e; simp [VRel, Rp] at r; subst r; exact .base (.bl _)
  · cases e; simp [VRel, Rp] at r; subst r; exact .base (.int _)
  · cases e; simp [VRel, Rp] at r; subst r; exact .base (.str _)
  · cases e; simp only [VRel, Rp] at r; obtain ⟨a, vs, rfl, h, _⟩ := r; exact .base (.lst (w.sub _ _ h))
  · cases e; simp only [VRel, Rp] at r
    obtain ⟨a, vs, rfl, h, _⟩ := r
    rcases w.sub.sqT h with (h | ⟨o, h⟩) | ⟨o, its, n, h1, h2, _⟩
    · exact .base (.tup h)
    · exact .fTuple h
    · exact .kTuple h1 h2
  · cases e; simp only [VRel, Rp] at r; obtain ⟨a, ks, rfl, h, _⟩ := r; exact .base (.dK (w.sub _ _ h))
  · rename_i n
    split at e
    · rename_i xs e0
      cases e
      obtain ⟨a, vs, rfl, _, _, hH, _⟩ := w.lst e0 r
      exact .base (.lst hH)
    · rename_i xs e0
      cases e
      rw [getT_eq] at e0
      obtain ⟨fp, hm, a, ks, hf, hG, hH, hv⟩ := w.ob _ _ e0
      obtain ⟨b, s, hm', rfl⟩ := r
      rw [hm] at hm'; subst hf; cases hm'
      exact .base (.dK hH)
    · cases e
  · cases e
theorem kit_all : ∀ t u : String, tyOk t = true → (u = "int" ∨ u = "bool" ∨ u = "str" ∨ u = "list" ∨ u = "tuple" ∨ u = "dict") → kitB t u = some (t == u || (t == "bool" && u == "int")) := by
  intro t u ht hu
  have ht' : t = "int" ∨ t = "bool" ∨ t = "str" ∨ t = "list" ∨ t = "tuple" ∨ t = "dict" ∨ t = "NoneType" := by
    simpa only [tyOk, Bool.or_eq_true, beq_iff_eq, or_assoc] using ht
  rcases ht' with rfl | rfl | rfl | rfl | rfl | rfl | rfl <;> rcases hu with rfl | rfl | rfl | rfl | rfl | rfl <;> decide +kernel
def isTyName (u : String) : Bool := u == "int" || u == "bool" || u == "str" || u == "list" || u == "tuple" || u == "dict"
theorem kit_name {K : PySem.W.Frag} {t u : String} (ht : tyOk t = true) (hu : isTyName u = true) : PySem.W.kitOne K (.type t) (.type u) = some (t == u || (t == "bool" && u == "int")) := by
  refine kit_ty (kit_all t u ht ?_)
  simpa only [isTyName, Bool.or_eq_true, beq_iff_eq, or_assoc] using hu
theorem kit_names {K : PySem.W.Frag} {t : String} (ht : tyOk t = true) : ∀ {us : List String}, us.all isTyName = true → PySem.W.kitAny K (.type t) (us.map Value.type) = some (isTy t us)
  | [], _ => rfl
  | u :: us, h => by
    simp only [List.all_cons, Bool.and_eq_true] at h
    have ih := kit_names (K := K) ht h.2
    refine kitAny_cons (kit_name ht h.1) (fun e => ?_) fun e => ?_
    · rw [ih]; unfold isTy; rw [List.any_cons, e, Bool.false_or]
    · unfold isTy; rw [List.any_cons, e, Bool.true_or]
def isiF (fa : DE) (ts : List String) : DE := fun sl T Q X => fa sl T (fun v T1 => match tyName T1 v with
    | some t => Q (.d (.bool (isTy t ts))) T1
    | none => False) X
theorem isi_mono (ma : Mono fa) (ts : List String) : Mono (isiF fa ts) := by
  intro sl T Q Q' X X' hq hx q
  refine ma _ _ _ _ _ _ (fun v T1 q => ?_) hx q
  split at q
  · exact hq _ _ q
  · exact q
/-- a built-in type's name as a value -/
theorem pe_ty {n : String} {x : Str} {p : Pos} (hg : Gl X x) (hm : X.mg x = none) (hv : bootBuiltins x = some (.type n)) (hn : x ≠ "__name__") (hd : (x == ("__debug__" : Str)) = false) : PE X (.Name x p) (tC (.ty n)) :=
  pe_bltn hg hm hv rfl hn hd
theorem dpe_isi1 {n : String} {x : Str} {p p2 p3 : Pos} (ha : DPE X W a fa) (hi : Gl X "isinstance") (mi : X.mg "isinstance" = none) (hx : Gl X x) (mx : X.mg x = none) (hv : bootBuiltins x = some (.type n)) (hn : x ≠ "__name__") (hd : (x == ("__debug__" : Str)) = false)
    (ht : isTyName n = true) (hb : bare1 a = true) : DPE X W (.Call (.Name "isinstance" p) [a, .Name x p2] [] p3) (isiF fa [n]) := by
  refine ⟨isi_mono ha.mono _, PE.imp (pe_callB call_isi hi mi (by decide +kernel) (pa_cons ha.pe (pa_cons (pe_ty hx mx hv hn hd) pa_nil) (starEach_bare hb)) (he := starEach_bare hb) (hpl := rfl)) fun σ H Q q => ?_⟩
  obtain ⟨G, m, sl, T, s, w, q⟩ := q
  refine LE.intro ha.mono s w q (fun v T1 G1 H1 m1 x q e1 w1 r1 => ?_) fun e T' G' H' m' c d q x w r => q G' H' m' c d x w r
  cases e : tyName T1 v with
  | none => rw [e] at q; exact q.elim
  | some t =>
    rw [e] at q
    refine ⟨x, .ty n, .type t, .type n, _, rfl, .ty n, tyX_of w1 r1 e, kit_name (tyName_ok e) ht, ?_⟩
    have z := q G1 H1 m1 _ e1 w1 (vrel_bool _)
    simpa [isTy] using z
end
end DL
namespace DL
open PySem PySem.Spec PyProof.Rows L2
section
variable {X : Cx} {W : L2.WX} {a b c : Expr} {fa fb fc : DE} {pos : Pos} {es : List Expr} {fs : DA}
/-! ### isinstance with several types -/
def tTys (ts : List String) : TA := fun _ H Q => Q (ts.map V.ty) H
inductive TyNames (X : Cx) : List Expr → List String → Prop where
  | nil : TyNames X [] []
  | cons {x : Str} {p : Pos} {n : String} {es : List Expr} {ts : List String} (hx : Gl X x) (mx : X.mg x = none) (hv : bootBuiltins x = some (.type n)) (hn : x ≠ "__name__") (hd : (x == ("__debug__" : Str)) = false) (r : TyNames X es ts) : TyNames X (.Name x p :: es) (n :: ts)
theorem pa_tys {es : List Expr} {ts : List String} (h : TyNames X es ts) : PA X es (tTys ts) := by
  induction h with
  | nil => exact pa_nil
  | cons hx mx hv hn hd r ih =>
    refine PA.imp (pa_cons (pe_ty hx mx hv hn hd) ih) fun σ H Q q => ?_
    exact q
theorem clsV_tys : ∀ ts : List String, Paired ClsV (ts.map V.ty) (ts.map Value.type)
  | [] => .nil
  | t :: ts => .cons (.ty t) (clsV_tys ts)
theorem dpe_isiT {es : List Expr} {ts : List String} {k : Nat} {p p2 p3 : Pos} (ha : DPE X W a fa) (hi : Gl X "isinstance") (mi : X.mg "isinstance" = none) (ht : TyNames X es ts) (hs : ts.all isTyName = true) (hz : ts.length ≤ 10) (hb : bare1 a = true) :
    DPE X W (.Call (.Name "isinstance" p) [a, .Tuple es k p2] [] p3) (isiF fa ts) := by
  refine ⟨isi_mono ha.mono _, PE.imp (pe_callB call_isiT hi mi (by decide +kernel) (pa_cons ha.pe (pa_cons (pe_tup (pa_tys ht)) pa_nil) (starEach_bare hb)) (he := starEach_bare hb) (hpl := rfl)) fun σ H Q q => ?_⟩
  obtain ⟨G, m, sl, T, s, w, q⟩ := q
  refine LE.intro ha.mono s w q (fun v T1 G1 H1 m1 x q e1 w1 r1 => ?_) fun e T' G' H' m' c d q x w r => q G' H' m' c d x w r
  cases e : tyName T1 v with
  | none => rw [e] at q; exact q.elim
  | some t =>
    rw [e] at q
    refine ⟨by rw [List.length_map, sizeLine_eq]; omega, fun p hp => ?_⟩
    have w2 := w1.laid (o := .tup (ts.map V.ty)) hp
    have e2 := Ext.laid (o := .tup (ts.map V.ty)) w1 hp
    refine ⟨x, p, ts.map V.ty, .type t, ts.map Value.type, _, rfl, upd_same, clsV_tys ts, tyX_of w2 (r1.mono e2.sub e2.ms) e, kit_names (tyName_ok e) hs, ?_⟩
    exact q _ _ m1 _ (e1.trans e2) w2 (vrel_bool _)
/-! ### built-in functions -/
def LC (K : PySem.W.Frag) (g : Tab → List Val → (Val → Prop) → Prop) : List V → Hp → VK → Prop := fun xs H Q => ∃ G m T vs, WRel K G H m T ∧ VRels K G m vs xs ∧
  g T vs (fun z => ∀ G' H' w, Ext K G H m G' H' m → WRel K G' H' m T → VRel K G' m z w → Q w H')
def biVal : Bi → Value
  | .len => .builtin "len"
  | .int => .type "int"
  | .str => .type "str"
  | .abs => .builtin "abs"
  | .min => .builtin "min"
  | .max => .builtin "max"
  | .bool => .type "bool"
  | .list => .type "list"
  | .tuple => .type "tuple"
  | .sum => .builtin "sum"
  | .all => .builtin "all"
  | .any => .builtin "any"
theorem vrels1 {K : PySem.W.Frag} {G : Hp} {m : Fp} {v : Val} {xs : List V} (r : VRels K G m [v] xs) : ∃ x, xs = [x] ∧ VRel K G m v x := by
  cases r with
  | cons q t => cases t; exact ⟨_, rfl, q⟩
theorem vrels2 {K : PySem.W.Frag} {G : Hp} {m : Fp} {v u : Val} {xs : List V} (r : VRels K G m [v, u] xs) : ∃ x y, xs = [x, y] ∧ VRel K G m v x ∧ VRel K G m u y := by
  cases r with
  | cons q t =>
    obtain ⟨y, rfl, h⟩ := vrels1 t
    exact ⟨_, y, rfl, q, h⟩
theorem lenW_ok {pins : List (Addr × Obj)} {s : Shared} {σ : L2.St} {G H : Hp} {m : Fp} {T : Tab} {v : Val} {x : V} {u : Value} {Q : VK} (I : Inv X pins σ H s) (rx : RelV x u) (w : WRel X.K G H m T) (r : VRel X.K G m v x)
    (q : lenW T v (fun z => ∀ G' H' w, Ext X.K G H m G' H' m → WRel X.K G' H' m T → VRel X.K G' m z w → Q w H')) : wpAny (model X.prog X.w) X.A (call (.builtin "len") [u]) (EP X pins σ Q) X.xe s := by
  have int : ∀ n : Int, VRel X.K G m (.d (.int n)) (.int n) := fun n => by simp [VRel, Rp]
  have one : Vals [x] [u] := .cons rx .nil
  unfold lenW at q
  split at q
  · simp only [VRel, Rp] at r
    obtain ⟨a, vs, rfl, h, l⟩ := r
    exact call_len pins s σ H [.ref a] [u] Q I one ⟨_, vs.length, rfl, .inl ⟨vs, .inl (.inl (w.sub _ _ h)), rfl⟩, by rw [← l.length]; exact q G H _ (Ext.refl _ _ _) w (int _)⟩
  · simp only [VRel, Rp] at r
    obtain ⟨a, vs, rfl, h, l⟩ := r
    exact call_len pins s σ H [.ref a] [u] Q I one ⟨_, vs.length, rfl, .inr ⟨vs, w.sub.sqT h, rfl⟩, by rw [← l.length]; exact q G H _ (Ext.refl _ _ _) w (int _)⟩
  · simp [VRel, Rp] at r
    subst r
    exact call_len pins s σ H [.str _] [u] Q I one ⟨_, _, rfl, ⟨q.1, rfl⟩, q.2 G H _ (Ext.refl _ _ _) w (int _)⟩
  · simp only [VRel, Rp] at r
    obtain ⟨a, ks, rfl, h, l⟩ := r
    cases rx
    refine d_len I (.inl (w.sub _ _ h)) fun t s' I' => ⟨.int ks.length, H, I', ⟨t, rfl⟩, ?_⟩
    rw [← RpK.len l]
    exact q G H _ (Ext.refl _ _ _) w (int _)
  · rename_i n
    split at q
    · rename_i xs e0
      obtain ⟨a, vs, rfl, _, _, hH, l⟩ := w.lst e0 r
      exact call_len pins s σ H [.ref a] [u] Q I one ⟨_, vs.length, rfl, .inl ⟨vs, .inl (.inl hH), rfl⟩, by rw [← Paired.length l]; exact q G H _ (Ext.refl _ _ _) w (int _)⟩
    · rename_i xs e0
      rw [getT_eq] at e0
      obtain ⟨fp, hm, a, ks, hf, hG, hH, hv⟩ := w.ob _ _ e0
      obtain ⟨b, s', hm', rfl⟩ := r
      rw [hm] at hm'; subst hf; cases hm'
      cases rx
      refine d_len I (.inl hH) fun t s' I' => ⟨.int ks.length, H, I', ⟨t, rfl⟩, ?_⟩
      rw [← Paired.length hv]
      exact q G H _ (Ext.refl _ _ _) w (int _)
    · exact q.elim
  · obtain ⟨a, rfl, h⟩ := r
    exact call_len pins s σ H [.ref a] [u] Q I one ⟨_, _, rfl, .inl ⟨_, w.sub.sqL h, rfl⟩, by rw [List.length_map]; exact q G H _ (Ext.refl _ _ _) w (int _)⟩
  · exact q.elim
theorem lenW_mono {T : Tab} {v : Val} {k k' : Val → Prop} (h : ∀ z, k z → k' z) (q : lenW T v k) : lenW T v k' := by
  unfold lenW at q ⊢
  split at q
  · exact h _ q
  · exact h _ q
  · exact ⟨q.1, h _ q.2⟩
  · exact h _ q
  · split at q
    · exact h _ q
    · exact h _ q
    · exact q
  · exact h _ q
  · exact q
theorem biW_mono {f : Bi} {T : Tab} {vs : List Val} {k k' : Val → Prop} (h : ∀ z, k z → k' z) (q : biW f T vs k) : biW f T vs k' := by
  unfold biW at q ⊢
  split at q
  all_goals first
    | exact lenW_mono h q
    | exact ⟨q.1, h _ q.2⟩
    | exact h _ q
    | exact q
    | (split at q <;> first | exact h _ q | exact q | (split at q <;> first | exact h _ q | exact q))
theorem intsD_rel {K : PySem.W.Frag} {G : Hp} : ∀ {xs : List PyData} {vs : List V} {ns : List Int}, intsD xs = some ns → RpL K G xs vs → vs = ns.map V.int
  | [], vs, ns, e, r => by simp [intsD] at e; subst e; simp only [RpL] at r; subst r; rfl
  | x :: xs, vs, ns, e, r => by
    cases x with
    | int i =>
      simp only [intsD] at e
      cases e1 : intsD xs with
      | none => rw [e1] at e; cases e
      | some l =>
        rw [e1] at e; cases e
        simp only [RpL, Rp] at r
        obtain ⟨v, s, rfl, rfl, l'⟩ := r
        rw [intsD_rel e1 l']; rfl
    | _ => simp [intsD] at e
theorem boolsD_rel {K : PySem.W.Frag} {G : Hp} : ∀ {xs : List PyData} {vs : List V} {ns : List Bool}, boolsD xs = some ns → RpL K G xs vs → vs = ns.map V.bl
  | [], vs, ns, e, r => by simp [boolsD] at e; subst e; simp only [RpL] at r; subst r; rfl
  | x :: xs, vs, ns, e, r => by
    cases x with
    | bool i =>
      simp only [boolsD] at e
      cases e1 : boolsD xs with
      | none => rw [e1] at e; cases e
      | some l =>
        rw [e1] at e; cases e
        simp only [RpL, Rp] at r
        obtain ⟨v, s, rfl, rfl, l'⟩ := r
        rw [boolsD_rel e1 l']; rfl
    | _ => simp [boolsD] at e
theorem bi_ok (hc : X.calm = true) (f : Bi) : CallR X (biVal f) (LC X.K (biW f)) := by
  intro pins s σ H xs us Q I rs q
  obtain ⟨G, m, T, vs, w, r, q⟩ := q
  have int : ∀ n : Int, VRel X.K G m (.d (.int n)) (.int n) := fun n => by simp [VRel, Rp]
  unfold biW at q
  split at q
  · obtain ⟨x, rfl, r1⟩ := vrels1 r
    obtain ⟨u, rfl, rx⟩ := vals1 rs
    exact lenW_ok I rx w r1 q
  · obtain ⟨x, rfl, r1⟩ := vrels1 r
    simp [VRel, Rp] at r1; subst r1
    exact call_int1 pins s σ H _ us Q I rs (.inl ⟨_, rfl, q G H _ (Ext.refl _ _ _) w (int _)⟩)
  · obtain ⟨x, rfl, r1⟩ := vrels1 r
    simp [VRel, Rp] at r1; subst r1
    exact call_int1 pins s σ H _ us Q I rs (.inr ⟨_, rfl, q G H _ (Ext.refl _ _ _) w (int _)⟩)
  · obtain ⟨x, rfl, r1⟩ := vrels1 r
    simp [VRel, Rp] at r1; subst r1
    exact call_bool1 pins s σ H _ us Q I rs (.inr ⟨_, rfl, q G H _ (Ext.refl _ _ _) w (vrel_bool _)⟩)
  · obtain ⟨x, rfl, r1⟩ := vrels1 r
    simp [VRel, Rp] at r1; subst r1
    exact call_bool1 pins s σ H _ us Q I rs (.inl ⟨_, rfl, q G H _ (Ext.refl _ _ _) w (vrel_bool _)⟩)
  · obtain ⟨x, rfl, r1⟩ := vrels1 r
    simp [VRel, Rp] at r1; subst r1
    exact call_str_int pins s σ H _ us Q I rs ⟨_, rfl, q.1, q.2 G H _ (Ext.refl _ _ _) w (by simp [VRel, Rp])⟩
  · obtain ⟨x, rfl, r1⟩ := vrels1 r
    simp [VRel, Rp] at r1; subst r1
    exact call_abs pins s σ H _ us Q I rs ⟨_, rfl, q G H _ (Ext.refl _ _ _) w (int _)⟩
  · obtain ⟨x, y, rfl, r1, r2⟩ := vrels2 r
    simp [VRel, Rp] at r1 r2; subst r1 r2
    exact call_min2 hc pins s σ H _ us Q I rs ⟨_, _, rfl, q G H _ (Ext.refl _ _ _) w (int _)⟩
  · obtain ⟨x, y, rfl, r1, r2⟩ := vrels2 r
    simp [VRel, Rp] at r1 r2; subst r1 r2
    exact call_max2 hc pins s σ H _ us Q I rs ⟨_, _, rfl, q G H _ (Ext.refl _ _ _) w (int _)⟩
  · obtain ⟨x, rfl, r1⟩ := vrels1 r
    split at q
    · rename_i e
      obtain ⟨a, vs, rfl, hH, l⟩ := asD_list w r1 e
      exact call_tuple_of pins s σ H _ us Q I rs ⟨a, vs, rfl, .inl ⟨.inl (.inl hH), fun p hp => q _ _ _ (Ext.laid w hp) (w.laid hp) (rp_tup (.inl (.inl upd_same)) (l.upd (w.gnone hp)))⟩⟩
    · rename_i e
      obtain ⟨a, vs, rfl, hH, l⟩ := asD_tup w r1 e
      exact call_tuple_of pins s σ H _ us Q I rs ⟨a, vs, rfl, .inr ⟨w.sub.sqT hH, q _ _ _ (Ext.refl _ _ _) w (rp_tup hH l)⟩⟩
    · exact q.elim
  · obtain ⟨x, rfl, r1⟩ := vrels1 r
    split at q
    · rename_i e
      obtain ⟨a, vs, rfl, hH, l⟩ := asD_list w r1 e
      split at q
      · rename_i e2
        have ev := intsD_rel e2 l
        subst ev
        exact cr_sum hc pins s σ H _ us Q I rs ⟨a, _, rfl, .inl (.inl hH), q _ _ _ (Ext.refl _ _ _) w (int _)⟩
      · exact q.elim
    · exact q.elim
  · obtain ⟨x, rfl, r1⟩ := vrels1 r
    split at q
    · rename_i e
      obtain ⟨a, vs, rfl, hH, l⟩ := asD_list w r1 e
      split at q
      · rename_i e2
        have ev := boolsD_rel e2 l
        subst ev
        exact cr_all hc pins s σ H _ us Q I rs ⟨a, _, rfl, .inl (.inl hH), q _ _ _ (Ext.refl _ _ _) w (vrel_bool _)⟩
      · exact q.elim
    · exact q.elim
  · obtain ⟨x, rfl, r1⟩ := vrels1 r
    split at q
    · rename_i e
      obtain ⟨a, vs, rfl, hH, l⟩ := asD_list w r1 e
      split at q
      · rename_i e2
        have ev := boolsD_rel e2 l
        subst ev
        exact cr_any hc pins s σ H _ us Q I rs ⟨a, _, rfl, .inl (.inl hH), q _ _ _ (Ext.refl _ _ _) w (vrel_bool _)⟩
      · exact q.elim
    · exact q.elim
  · exact q.elim
def biF (f : Bi) (fs : DA) : DE := fun sl T Q X => fs sl T (fun vs T1 => biW f T1 vs fun z => Q z T1) X
theorem biF_mono {f : Bi} (hm : MonoA fs) : Mono (biF f fs) := fun sl T Q Q' X X' hq hx q => hm _ _ _ _ _ _ (fun vs T1 q => biW_mono (fun z q => hq _ _ q) q) hx q
theorem bi_lift {f : Bi} {σ : L2.St} {H : Hp} {Q : VK} (h : DPA X W es fs) (q : LE X.K W (biF f fs) σ H Q) : LAr X.K W fs σ H fun vs H1 => LC X.K (biW f) vs H1 Q := by
  obtain ⟨G, m, sl, T, s, w, q⟩ := q
  refine LAr.intro h.mono s w q (fun v T1 G1 H1 m1 x q e1 w1 r1 => ?_) fun e T' G' H' m' c d q x w r => q G' H' m' c d x w r
  exact ⟨G1, m1, T1, v, w1, r1, biW_mono (fun z q G' H' z' e w r => q G' H' m1 z' (e1.trans e) w r) q⟩
theorem dpe_biB {f : Bi} {id : String} {x : Str} {p : Pos} (hf : biVal f = .builtin id) (hc : X.calm = true) (h : DPA X W (a :: es) fs) (hg : Gl X x) (hm : X.mg x = none) (hv : bootBuiltins x = some (.builtin id)) (hn : x ≠ "__name__") (hd : (x == ("__debug__" : Str)) = false)
    (hb : (a :: es).all bare1 = true) : DPE X W (.Call (.Name x p) (a :: es) [] pos) (biF f fs) := by
  have hb1 : bare1 a = true := by simp only [List.all_cons, Bool.and_eq_true] at hb; exact hb.1
  have hb2 : es.all bare1 = true := by simp only [List.all_cons, Bool.and_eq_true] at hb; exact hb.2
  have c := bi_ok (X := X) hc f
  rw [hf] at c
  exact ⟨biF_mono h.mono, PE.imp (pe_callB c hg hm hv h.pa hn hd (starEach_bare hb1) (starEach_any hb2)) fun σ H Q q => bi_lift h q⟩
theorem dpe_biT {f : Bi} {id : String} {x : Str} {p : Pos} (hf : biVal f = .type id) (hc : X.calm = true) (h : DPA X W (a :: es) fs) (hg : Gl X x) (hm : X.mg x = none) (hv : bootBuiltins x = some (.type id)) (hn : x ≠ "__name__") (hd : (x == ("__debug__" : Str)) = false)
    (hb : (a :: es).all bare1 = true) : DPE X W (.Call (.Name x p) (a :: es) [] pos) (biF f fs) := by
  have hb1 : bare1 a = true := by simp only [List.all_cons, Bool.and_eq_true] at hb; exact hb.1
  have hb2 : es.all bare1 = true := by simp only [List.all_cons, Bool.and_eq_true] at hb; exact hb.2
  have c := bi_ok (X := X) hc f
  rw [hf] at c
  exact ⟨biF_mono h.mono, PE.imp (pe_callTy c hg hm hv h.pa hn hd (starEach_bare hb1) (starEach_any hb2)) fun σ H Q q => bi_lift h q⟩
/-! ### freezing -/
def frzF (fa : DE) : DE := fun sl T Q X => fa sl T (fun v T1 => match v with
    | .ob n => match getT T1 n with
      | some (.lst xs) => match dats xs with
        | some ds => Q (.d (.list ds)) (setT T1 n .dead)
        | none => False
      | _ => False
    | v => Q v T1) X
theorem dpe_frz (ha : DPE X W a fa) : DPE X W a (frzF fa) := by
  refine ⟨fun sl T Q Q' X X' hq hx q => ha.mono _ _ _ _ _ _ (fun v T1 q => ?_) hx q, PE.imp ha.pe fun σ H Q q => ?_⟩
  · cases v with
    | ob n =>
      simp only at q ⊢
      split at q
      · split at q
        · exact hq _ _ q
        · exact q
      · exact q
    | _ => exact hq _ _ q
  · obtain ⟨G, m, sl, T, s, w, q⟩ := q
    refine LE.intro ha.mono s w q (fun v T1 G1 H1 m1 x q e1 w1 r1 => ?_) fun e T' G' H' m' c d q x w r => q G' H' m' c d x w r
    cases v with
    | ob n =>
      simp only at q
      split at q
      · rename_i xs e0
        split at q
        · rename_i ds e2
          obtain ⟨p, vs, rfl, hm, hG, hH, l⟩ := w1.lst e0 r1
          rw [setT_eq] at q
          refine q _ H1 m1 _ (e1.trans (Ext.frz w1 hm hG)) (w1.frz hm hH) ?_
          exact rp_list upd_same ((dats_rel e2 l).upd hG)
        · exact q.elim
      · exact q.elim
    | _ => exact q G1 H1 m1 x e1 w1 r1
end
end DL
namespace DL
open PySem PySem.Spec PyProof.Rows L2
section
variable {X : Cx} {W : L2.WX} {a b c : Expr} {fa fb fc : DE} {pos : Pos} {es : List Expr} {fs : DA}
/-! ### methods of built-in types -/
def mtTy : Mt → String
  | .split | .join | .upper => "str"
  | _ => "list"
def mtId : Mt → String
  | .append => "list.append"
  | .pop => "list.pop"
  | .popAt => "list.pop"
  | .extend => "list.extend"
  | .clear => "list.clear"
  | .insert => "list.insert"
  | .split => "str.split"
  | .join => "str.join"
  | .index => "list.index"
  | .upper => "str.upper"
def LM (K : PySem.W.Frag) (g : Tab → Val → List Val → (Val → Tab → Prop) → Prop) : V → List V → Hp → VK → Prop := fun x xs H Q => ∃ G m T o vs, WRel K G H m T ∧ VRel K G m o x ∧ VRels K G m vs xs ∧
  g T o vs (fun z T' => ∀ G' H' m' w, Ext K G H m G' H' m' → WRel K G' H' m' T' → VRel K G' m' z w → Q w H')
theorem codeO_lst {c : Addr} {q : Str} {xs : List V} : HO.lst xs ≠ LamX.CodeO c q := fun z => by
  unfold LamX.CodeO at z
  cases z
theorem lst_free (xs : List V) : (∀ ps, HO.lst xs ≠ .tbl ps) ∧ ∀ c q, HO.lst xs ≠ LamX.CodeO c q := ⟨fun ps z => (by cases z), fun c q => codeO_lst⟩
theorem vrels0 {K : PySem.W.Frag} {G : Hp} {m : Fp} {xs : List V} (r : VRels K G m [] xs) : xs = [] := by
  cases r; rfl
theorem vrel_none {K : PySem.W.Frag} {G : Hp} {m : Fp} : VRel K G m (.d .none) .non := by simp [VRel, Rp]
theorem VRels.erase {K : PySem.W.Frag} {G : Hp} {m : Fp} : ∀ {xs : List Val} {vs : List V}, VRels K G m xs vs → ∀ j : Nat, VRels K G m (xs.eraseIdx j) (vs.eraseIdx j)
  | _, _, .nil, _ => by simp; exact .nil
  | _, _, .cons r t, 0 => t
  | _, _, .cons r t, j + 1 => .cons r (VRels.erase t j)
theorem obLst_ok {K : PySem.W.Frag} {G H : Hp} {m : Fp} {T : Tab} {o : Val} {x : V} {k : Nat → List Val → Prop} (w : WRel K G H m T) (r : VRel K G m o x) (q : obLst T o k) : ∃ n xs a vs, o = .ob n ∧ getT T n = some (.lst xs) ∧ x = .ref a ∧ m[n]? = some [a] ∧ G a = none ∧ H a = some (.lst vs) ∧ VRels K G m xs vs ∧ k n xs := by
  unfold obLst at q
  split at q
  · rename_i n
    split at q
    · rename_i xs e0
      obtain ⟨a, vs, h⟩ := w.lst e0 r
      exact ⟨n, xs, a, vs, rfl, e0, h.1, h.2.1, h.2.2.1, h.2.2.2.1, h.2.2.2.2, q⟩
    · exact q.elim
  · exact q.elim
theorem obLst_mono {T : Tab} {o : Val} {k k' : Nat → List Val → Prop} (h : ∀ n xs, k n xs → k' n xs) (q : obLst T o k) : obLst T o k' := by
  unfold obLst at q ⊢
  split at q
  · split at q
    · exact h _ _ q
    · exact q
  · exact q
theorem strV_ok {K : PySem.W.Frag} {G : Hp} {m : Fp} {o : Val} {x : V} {k : Str → Prop} (r : VRel K G m o x) (q : strV o k) : ∃ a, x = .str a ∧ k a := by
  unfold strV at q
  split at q
  · simp [VRel, Rp] at r; exact ⟨_, r, q⟩
  · exact q.elim
theorem strV_mono {o : Val} {k k' : Str → Prop} (h : ∀ a, k a → k' a) (q : strV o k) : strV o k' := by
  unfold strV at q ⊢
  split at q
  · exact h _ q
  · exact q
theorem intV_ok {K : PySem.W.Frag} {G : Hp} {m : Fp} {o : Val} {x : V} {k : Int → Prop} (r : VRel K G m o x) (q : intV o k) : ∃ a, x = .int a ∧ k a := by
  unfold intV at q
  split at q
  · simp [VRel, Rp] at r; exact ⟨_, r, q⟩
  · exact q.elim
theorem intV_mono {o : Val} {k k' : Int → Prop} (h : ∀ a, k a → k' a) (q : intV o k) : intV o k' := by
  unfold intV at q ⊢
  split at q
  · exact h _ q
  · exact q
theorem arg0_ok {K : PySem.W.Frag} {G : Hp} {m : Fp} {vs : List Val} {xs : List V} {k : Prop} (r : VRels K G m vs xs) (q : arg0 vs k) : xs = [] ∧ k := by
  unfold arg0 at q
  split at q
  · exact ⟨vrels0 r, q⟩
  · exact q.elim
theorem arg0_mono {vs : List Val} {k k' : Prop} (h : k → k') (q : arg0 vs k) : arg0 vs k' := by
  unfold arg0 at q ⊢
  split at q
  · exact h q
  · exact q
theorem arg1_ok {K : PySem.W.Frag} {G : Hp} {m : Fp} {vs : List Val} {xs : List V} {k : Val → Prop} (r : VRels K G m vs xs) (q : arg1 vs k) : ∃ v x, xs = [x] ∧ VRel K G m v x ∧ k v := by
  unfold arg1 at q
  split at q
  · obtain ⟨x, e, h⟩ := vrels1 r
    exact ⟨_, x, e, h, q⟩
  · exact q.elim
theorem arg1_mono {vs : List Val} {k k' : Val → Prop} (h : ∀ v, k v → k' v) (q : arg1 vs k) : arg1 vs k' := by
  unfold arg1 at q ⊢
  split at q
  · exact h _ q
  · exact q
theorem popW_ok {xs : List Val} {i : Int} {k : Val → List Val → Prop} (q : popW xs i k) : ∃ j x, seqIndex? i xs.length = some j ∧ xs[j]? = some x ∧ -(2 ^ 63) ≤ i ∧ i < 2 ^ 63 ∧ k x (xs.eraseIdx j) := by
  unfold popW at q
  split at q
  · split at q
    · exact ⟨_, _, by assumption, by assumption, q.1.1, q.1.2, q.2⟩
    · exact q.elim
  · exact q.elim
theorem popW_mono {xs : List Val} {i : Int} {k k' : Val → List Val → Prop} (h : ∀ v l, k v l → k' v l) (q : popW xs i k) : popW xs i k' := by
  unfold popW at q ⊢
  split at q
  · split at q
    · exact ⟨q.1, h _ _ q.2⟩
    · exact q
  · exact q
theorem lstD_ok {K : PySem.W.Frag} {G : Hp} {m : Fp} {o : Val} {x : V} {k : List PyData → Prop} (r : VRel K G m o x) (q : lstD o k) : ∃ a vs ys, x = .ref a ∧ G a = some (.lst vs) ∧ RpL K G ys vs ∧ k ys := by
  unfold lstD at q
  split at q
  · rename_i ys
    have r : Rp K G (.list ys) x := r
    simp only [Rp] at r
    obtain ⟨a, vs, h1, h2, h3⟩ := r
    exact ⟨a, vs, ys, h1, h2, h3, q⟩
  · exact q.elim
theorem lstD_mono {o : Val} {k k' : List PyData → Prop} (h : ∀ a, k a → k' a) (q : lstD o k) : lstD o k' := by
  unfold lstD at q ⊢
  split at q
  · exact h _ q
  · exact q
theorem popL_ok {xs : List Val} {k : Val → List Val → Prop} (q : popL xs k) : ∃ x, xs[xs.length - 1]? = some x ∧ k x xs.dropLast := by
  unfold popL at q
  split at q
  · exact ⟨_, by assumption, q⟩
  · exact q.elim
theorem popL_mono {xs : List Val} {k k' : Val → List Val → Prop} (h : ∀ v l, k v l → k' v l) (q : popL xs k) : popL xs k' := by
  unfold popL at q ⊢
  split at q
  · exact h _ _ q
  · exact q
theorem dv_rels {K : PySem.W.Frag} {G : Hp} {m : Fp} : ∀ {ys : List PyData} {vs : List V}, RpL K G ys vs → VRels K G m (dv ys) vs
  | [], vs, r => by simp only [RpL] at r; subst r; exact .nil
  | y :: ys, vs, r => by
    simp only [RpL] at r
    obtain ⟨v, s, rfl, h, l⟩ := r
    exact .cons h (dv_rels l)
theorem VRels.dropLast {K : PySem.W.Frag} {G : Hp} {m : Fp} : ∀ {xs : List Val} {vs : List V}, VRels K G m xs vs → VRels K G m xs.dropLast vs.dropLast
  | _, _, .nil => .nil
  | _, _, .cons r .nil => .nil
  | _, _, .cons r (.cons r2 t) => by
    simp only [List.dropLast_cons₂]
    exact .cons r (VRels.dropLast (.cons r2 t))
/-- a live list is written -/
theorem lst_put {K : PySem.W.Frag} {G H : Hp} {m : Fp} {T : Tab} {n : Nat} {a : Addr} {vs us : List V} {ys : List Val} (w : WRel K G H m T) (hm : m[n]? = some [a]) (hG : G a = none) (hH : H a = some (.lst vs)) (l : VRels K G m ys us) :
    Ext K G H m G (upd H a (.lst us)) m ∧ WRel K G (upd H a (.lst us)) m (setT T n (.lst ys)) := by
  have e := Ext.setO (o := .lst us) w hm hH (lst_free _)
  refine ⟨e, ?_⟩
  rw [setT_eq]
  exact w.setO hm hG ⟨a, _, rfl, hG, upd_same, l⟩ (e.tabs w.tb)
theorem mt_ok (f : Mt) : MtR X (mtId f) (LM X.K (mtW f)) := by
  intro pins s σ H x xs v us Q I rx rs q
  obtain ⟨G, m, T, o, vs, w, r, l, q⟩ := q
  cases f with
  | append =>
    obtain ⟨n, ys, p, zs, rfl, _, rfl, hm, hG, hH, hl, q⟩ := obLst_ok w r q
    obtain ⟨u, y, rfl, ry, q⟩ := arg1_ok l q
    obtain ⟨e, w'⟩ := lst_put w hm hG hH (VRels.app hl (.cons ry .nil))
    exact mt_append pins s σ H _ _ v us Q I rx rs ⟨p, zs, y, rfl, rfl, hH, by rw [← Paired.length hl]; exact q.1, q.2 G _ m _ e w' vrel_none⟩
  | extend =>
    obtain ⟨n, ys, p, zs, rfl, _, rfl, hm, hG, hH, hl, q⟩ := obLst_ok w r q
    obtain ⟨u, y, rfl, ry, q⟩ := arg1_ok l q
    obtain ⟨b, us', ds, rfl, hb, lb, q⟩ := lstD_ok ry q
    obtain ⟨e, w'⟩ := lst_put w hm hG hH (VRels.app hl (dv_rels lb))
    exact mt_extend pins s σ H _ _ v us Q I rx rs ⟨p, b, zs, us', rfl, rfl, hH, w.sub _ _ hb, by rw [← Paired.length hl, ← lb.length]; exact q.1, q.2 G _ m _ e w' vrel_none⟩
  | pop =>
    obtain ⟨n, ys, p, zs, rfl, _, rfl, hm, hG, hH, hl, q⟩ := obLst_ok w r q
    obtain ⟨rfl, q⟩ := arg0_ok l q
    obtain ⟨z, ez, q⟩ := popL_ok q
    obtain ⟨zv, h1, h2⟩ := VRels.get hl ez
    obtain ⟨e, w'⟩ := lst_put w hm hG hH (VRels.dropLast hl)
    exact mt_pop pins s σ H _ _ v us Q I rx rs ⟨p, zs, zv, rfl, rfl, hH, by rw [← Paired.length hl]; exact h1, q G _ m _ e w' h2⟩
  | clear =>
    obtain ⟨n, ys, p, zs, rfl, _, rfl, hm, hG, hH, hl, q⟩ := obLst_ok w r q
    obtain ⟨rfl, q⟩ := arg0_ok l q
    obtain ⟨e, w'⟩ := lst_put w hm hG hH (ys := []) .nil
    exact mt_clear pins s σ H _ _ v us Q I rx rs ⟨p, zs, rfl, rfl, hH, q G _ m _ e w' vrel_none⟩
  | popAt =>
    obtain ⟨n, ys, p, zs, rfl, _, rfl, hm, hG, hH, hl, q⟩ := obLst_ok w r q
    obtain ⟨u, y, rfl, ry, q⟩ := arg1_ok l q
    obtain ⟨i, rfl, q⟩ := intV_ok ry q
    obtain ⟨j, z, ej, ez, b1, b2, q⟩ := popW_ok q
    obtain ⟨zv, h1, h2⟩ := VRels.get hl ez
    obtain ⟨e, w'⟩ := lst_put w hm hG hH (VRels.erase hl j)
    exact mt_popAt pins s σ H _ _ v us Q I rx rs ⟨p, zs, i, j, zv, rfl, rfl, hH, b1, b2, by rw [← Paired.length hl]; exact ej, h1, q G _ m _ e w' h2⟩
  | upper =>
    obtain ⟨a, rfl, q⟩ := strV_ok r q
    obtain ⟨rfl, q⟩ := arg0_ok l q
    exact mt_upper pins s σ H _ _ v us Q I rx rs ⟨a, rfl, rfl, q.1, q.2 G H m _ (Ext.refl _ _ _) w (by simp [VRel, Rp])⟩
  | split =>
    obtain ⟨z1, rfl, q⟩ := strV_ok r q
    obtain ⟨u, y, rfl, ry, q⟩ := arg1_ok l q
    obtain ⟨z2, rfl, q⟩ := strV_ok ry q
    refine mt_split pins s σ H _ _ v us Q I rx rs ⟨z1, z2, rfl, rfl, q.1.1, q.1.2, fun p hp => ?_⟩
    refine q.2 _ _ m _ (Ext.laid w hp) (w.laid hp) (rp_list upd_same ?_)
    have go : ∀ ss : List Str, RpL X.K (upd G p (.lst ((Txt.split z1 z2).map V.str))) (ss.map .str) (ss.map V.str) := by
      intro ss
      induction ss with
      | nil => simp [RpL]
      | cons a r ih => simp only [List.map_cons, RpL]; exact ⟨_, _, rfl, by simp [Rp], ih⟩
    exact go _
  | _ => exact q.elim
theorem mtB_ok {K : PySem.W.Frag} {G H : Hp} {m : Fp} {T : Tab} {v : Val} {x : V} {f : Mt} (w : WRel K G H m T) (r : VRel K G m v x) (e : mtB f T v = true) : tyV K (mtTy f) x H := by
  have str : isStrV v = true → tyV K "str" x H := fun e => by
    unfold isStrV at e
    split at e
    · simp [VRel, Rp] at r; subst r; rfl
    · cases e
  have lst : isLstV T v = true → tyV K "list" x H := fun e => by
    unfold isLstV at e
    split at e
    · split at e
      · rename_i ys e0
        obtain ⟨a, vs, h, _, _, hH, _⟩ := w.lst e0 r
        subst h
        exact .inl ⟨rfl, vs, .inl (.inl hH)⟩
      · cases e
    · cases e
  cases f <;> first | exact str e | exact lst e
def mtF (f : Mt) (fa : DE) (fs : DA) : DE := fun sl T Q X => fa sl T (fun v T1 => mtB f T1 v = true ∧ fs sl T1 (fun vs T2 => mtW f T2 v vs Q) X) X
theorem mtW_mono {f : Mt} {T : Tab} {o : Val} {vs : List Val} {k k' : Val → Tab → Prop} (h : ∀ z T, k z T → k' z T) (q : mtW f T o vs k) : mtW f T o vs k' := by
  cases f with
  | append => exact obLst_mono (fun n xs q => arg1_mono (fun v q => ⟨q.1, h _ _ q.2⟩) q) q
  | clear => exact obLst_mono (fun n xs q => arg0_mono (fun q => h _ _ q) q) q
  | extend => exact obLst_mono (fun n xs q => arg1_mono (fun v q => lstD_mono (fun a q => ⟨q.1, h _ _ q.2⟩) q) q) q
  | pop => exact obLst_mono (fun n xs q => arg0_mono (fun q => popL_mono (fun z l q => h _ _ q) q) q) q
  | popAt => exact obLst_mono (fun n xs q => arg1_mono (fun v q => intV_mono (fun i q => popW_mono (fun z l q => h _ _ q) q) q) q) q
  | upper => exact strV_mono (fun a q => arg0_mono (fun q => ⟨q.1, h _ _ q.2⟩) q) q
  | split => exact strV_mono (fun a q => arg1_mono (fun v q => strV_mono (fun b q => ⟨q.1, h _ _ q.2⟩) q) q) q
  | _ => exact q
theorem mtF_mono {f : Mt} (ma : Mono fa) (mf : MonoA fs) : Mono (mtF f fa fs) := fun sl T Q Q' X X' hq hx q =>
  ma _ _ _ _ _ _ (fun v T1 q => ⟨q.1, mf _ _ _ _ _ _ (fun vs T2 q => mtW_mono hq q) hx q.2⟩) hx q
theorem mt_lift {f : Mt} {σ : L2.St} {H : Hp} {Q : VK} (ha : DPE X W a fa) (h : DPA X W es fs) (q : LE X.K W (mtF f fa fs) σ H Q) :
    LE X.K W fa σ H fun x H1 => tyV X.K (mtTy f) x H1 ∧ LAr X.K W fs σ H1 fun vs H2 => LM X.K (mtW f) x vs H2 Q := by
  obtain ⟨G, m, sl, T, s, w, q⟩ := q
  refine LE.intro ha.mono s w q (fun v T1 G1 H1 m1 x q e1 w1 r1 => ?_) fun e T' G' H' m' c d q x w r => q G' H' m' c d x w r
  refine ⟨mtB_ok w1 r1 q.1, ?_⟩
  refine LAr.intro h.mono (s.ext e1) w1 q.2 (fun vs T2 G2 H2 m2 xs q e2 w2 r2 => ?_) fun e T' G' H' m' c d q x w r => q G' H' m' c d (e1.trans x) w r
  exact ⟨G2, m2, T2, v, vs, w2, r1.mono e2.sub e2.ms, r2, mtW_mono (fun z T3 q G' H' m' z' e w r => q G' H' m' z' ((e1.trans e2).trans e) w r) q⟩
theorem dpe_mt {f : Mt} {T name : Str} {apos cpos : Pos} (ht : PlainAttrs (mtTy f)) (slot : Slot (mtTy f) name (mtId f)) (hty : typeOf (.builtin (mtId f)) = pure (.type "method_descriptor"))
    (ha : DPE X W a fa) (h : DPA X W es fs) (hne : es ≠ []) (hs : notSuper a = true) (hb : es.all bare1 = true) (hl : (apos.endLine == cpos.line) = true) (hf : es.length < 30) :
    DPE X W (.Call (.Attribute a name apos) es [] cpos) (mtF f fa fs) := by
  cases es with
  | nil => exact absurd rfl hne
  | cons e es =>
    have hb1 : bare1 e = true := by simp only [List.all_cons, Bool.and_eq_true] at hb; exact hb.1
    have hb2 : es.all bare1 = true := by simp only [List.all_cons, Bool.and_eq_true] at hb; exact hb.2
    have few : ((backTo cpos (starEach (e :: es) X.env)).all (fun x => !x.1) && (backToKw cpos (keywordEach [] X.env)).all (fun x => x.1.isSome)
      && decide ((e :: es).length + ([] : List Keyword).length + (if ([] : List Keyword).isEmpty then 0 else 1) < 30)) = true := by
      rw [starEach_all hb, Bool.true_and, Bool.and_eq_true]
      refine ⟨rfl, decide_eq_true ?_⟩
      simpa using hf
    refine ⟨mtF_mono ha.mono h.mono, PE.imp (pe_bm ht slot hty (mt_ok f) ha.pe h.pa (attr_base hs) few hl (starEach_bare hb1) (starEach_any hb2)) fun σ H Q q => mt_lift ha h q⟩
theorem dpe_mt0 {f : Mt} {T name : Str} {apos cpos : Pos} (ht : PlainAttrs (mtTy f)) (slot : Slot (mtTy f) name (mtId f)) (hty : typeOf (.builtin (mtId f)) = pure (.type "method_descriptor"))
    (ha : DPE X W a fa) (hs : notSuper a = true) (hl : (apos.endLine == cpos.line) = true) :
    DPE X W (.Call (.Attribute a name apos) [] [] cpos) (mtF f fa (fun _ T Q _ => Q [] T)) := by
  refine ⟨mtF_mono ha.mono (dpa_nil (X := X) (W := W)).mono, PE.imp (pe_bm0 ht slot hty (mt_ok f) ha.pe (attr_base hs) hl) fun σ H Q q => ?_⟩
  obtain ⟨G, m, sl, T, s, w, q⟩ := q
  refine LE.intro ha.mono s w q (fun v T1 G1 H1 m1 x q e1 w1 r1 => ?_) fun e T' G' H' m' c d q x w r => q G' H' m' c d x w r
  exact ⟨mtB_ok w1 r1 q.1, G1, m1, T1, v, [], w1, r1, .nil, mtW_mono (fun z T3 q G' H' m' z' e w r => q G' H' m' z' (e1.trans e) w r) q.2⟩
end
end DL
namespace DL
open PySem PySem.Spec PyProof.Rows L2
/-! ### calls of one's own defs -/
/-- a def's promise over the layer, n its parameters -/
def spOf (K : PySem.W.Frag) (n : Nat) (dsp : DSp) : Sp := fun vs H Q E => ∃ G m T vals, WRel K G H m T ∧ VRels K G m vals vs ∧ vals.length = n ∧
  dsp vals T (fun v T' => ∀ G' H' m' x, Ext K G H m G' H' m' → WRel K G' H' m' T' → VRel K G' m' v x → Q x H')
    (fun e T' => ∀ G' H' m' c d, Ext K G H m G' H' m' → WRel K G' H' m' T' → XRel K G' e c d → E c d H')
def MonoS (dsp : DSp) : Prop := ∀ vs T (Q Q' : VC) (X X' : XC), (∀ v T, Q v T → Q' v T) → (∀ e T, X e T → X' e T) → dsp vs T Q X → dsp vs T Q' X'
theorem obs_nodup : ∀ vs : List Val, (obsOf vs).Nodup
  | [] => by simp [obsOf]
  | .ob k :: r => by
    have ih := obs_nodup r
    simp only [obsOf]
    split
    · exact ih
    · exact List.nodup_cons.mpr ⟨by assumption, ih⟩
  | .d _ :: r => by simpa [obsOf] using obs_nodup r
  | .ty _ :: r => by simpa [obsOf] using obs_nodup r
  | .ex _ :: r => by simpa [obsOf] using obs_nodup r
  | .scr _ :: r => by simpa [obsOf] using obs_nodup r
  | .fn _ :: r => by simpa [obsOf] using obs_nodup r
theorem obs_mem : ∀ {vs : List Val} {k : Nat}, .ob k ∈ vs → k ∈ obsOf vs
  | .ob j :: r, k, h => by
    simp only [obsOf]
    rcases List.mem_cons.mp h with e | h
    · cases e
      split
      · assumption
      · simp
    · have := obs_mem h
      split
      · exact this
      · exact List.mem_cons_of_mem _ this
  | .d _ :: r, k, h => by
    rcases List.mem_cons.mp h with e | h
    · cases e
    · simpa [obsOf] using obs_mem h
  | .ty _ :: r, k, h => by
    rcases List.mem_cons.mp h with e | h
    · cases e
    · simpa [obsOf] using obs_mem h
  | .ex _ :: r, k, h => by
    rcases List.mem_cons.mp h with e | h
    · cases e
    · simpa [obsOf] using obs_mem h
  | .scr _ :: r, k, h => by
    rcases List.mem_cons.mp h with e | h
    · cases e
    · simpa [obsOf] using obs_mem h
  | .fn _ :: r, k, h => by
    rcases List.mem_cons.mp h with e | h
    · cases e
    · simpa [obsOf] using obs_mem h
theorem tabOf_get {T : Tab} : ∀ {ks : List Nat} {Ts : Tab}, tabOf T ks = some Ts → Ts.length = ks.length ∧ ∀ (i k : Nat), ks[i]? = some k → Ts[i]? = T[k]? ∧ k < T.length
  | [], Ts, h => by
    simp only [tabOf, Option.some.injEq] at h
    subst h
    exact ⟨rfl, fun i k e => by simp at e⟩
  | k :: r, Ts, h => by
    simp only [tabOf] at h
    split at h
    · rename_i o t e1 e2
      cases h
      obtain ⟨h1, h2⟩ := tabOf_get e2
      rw [getT_eq] at e1
      refine ⟨by simp [h1], fun i k' e => ?_⟩
      cases i with
      | zero =>
        simp at e
        subst e
        refine ⟨by simp [e1], (List.getElem?_eq_some_iff.mp e1).1⟩
      | succ i =>
        have := h2 i k' (by simpa using e)
        simpa using this
    · cases h
/-- what stands behind a call -/
theorem putT_get : ∀ (ks : List Nat) (T T' : Tab), ks.Nodup → (∀ k ∈ ks, k < T.length) → ks.length ≤ T'.length →
    (putT T ks T').length = T.length + (T'.length - ks.length) ∧
    (∀ j, j < T.length → (putT T ks T')[j]? = if j ∈ ks then T'[ks.idxOf j]? else T[j]?) ∧
    (∀ j, (putT T ks T')[T.length + j]? = T'[ks.length + j]?)
  | [], T, T', _, _, _ => by
    simp only [putT]
    refine ⟨by simp, fun j hj => ?_, fun j => ?_⟩
    · rw [List.getElem?_append_left hj]; simp
    · rw [List.getElem?_append_right (by omega)]; simp
  | k :: r, T, [], _, _, h => absurd h (by simp)
  | k :: r, T, o :: T', nd, hk, h => by
    simp only [putT]
    rw [setT_eq]
    have nd' := List.nodup_cons.mp nd
    have kl : k < T.length := hk k (by simp)
    obtain ⟨h1, h2, h3⟩ := putT_get r (T.set k o) T' nd'.2 (fun j hj => by rw [List.length_set]; exact hk j (List.mem_cons_of_mem _ hj)) (by simpa using h)
    rw [List.length_set] at h1 h2 h3
    refine ⟨by rw [h1]; simp, fun j hj => ?_, fun j => ?_⟩
    · rw [h2 j hj]
      by_cases e : j = k
      · subst e
        rw [if_neg nd'.1, if_pos (by simp), List.getElem?_set_self (by exact hj)]
        simp
      · by_cases hm : j ∈ r
        · rw [if_pos hm, if_pos (List.mem_cons_of_mem _ hm), List.idxOf_cons]
          have : (k == j) = false := by simpa using fun z => e z.symm
          rw [this]
          simp
        · rw [if_neg hm, if_neg (by simp [hm, e]), List.getElem?_set_ne (fun z => e z.symm)]
    · rw [h3 j]
      have : (k :: r).length + j = (r.length + j) + 1 := by simp; omega
      rw [this]
      simp
/-- the places of some objects -/
def subF (m : Fp) (ks : List Nat) : Fp := ks.map fun k => m.getD k []
section
variable {K : PySem.W.Frag} {G H : Hp} {m : Fp} {T : Tab}
theorem subF_get {ks : List Nat} {i k : Nat} (h : ks[i]? = some k) (hk : k < m.length) : (subF m ks)[i]? = m[k]? := by
  unfold subF
  rw [List.getElem?_map, h]
  simp [hk, List.getD_eq_getElem?_getD]
theorem subF_mem {ks : List Nat} {a : Addr} (h : a ∈ (subF m ks).flatten) : ∃ k ∈ ks, ∃ f, m[k]? = some f ∧ a ∈ f := by
  obtain ⟨f, hf, ha⟩ := List.mem_flatten.mp h
  obtain ⟨k, hk, e⟩ := List.mem_map.mp hf
  refine ⟨k, hk, f, ?_, ha⟩
  rw [List.getD_eq_getElem?_getD] at e
  cases q : m[k]? with
  | none => rw [q] at e; simp at e; subst e; simp at ha
  | some g => rw [q] at e; simp at e; rw [e]
theorem subF_in {ks : List Nat} {k : Nat} {f : List Addr} {a : Addr} (hk : k ∈ ks) (hm : m[k]? = some f) (ha : a ∈ f) : a ∈ (subF m ks).flatten := by
  refine List.mem_flatten.mpr ⟨f, List.mem_map.mpr ⟨k, hk, ?_⟩, ha⟩
  rw [List.getD_eq_getElem?_getD, hm]; rfl
theorem subF_nodup (w : WRel K G H m T) : ∀ {ks : List Nat}, ks.Nodup → (subF m ks).flatten.Nodup
  | [], _ => by simp [subF]
  | k :: r, nd => by
    have nd' := List.nodup_cons.mp nd
    have e : subF m (k :: r) = m.getD k [] :: subF m r := rfl
    rw [e, List.flatten_cons, List.nodup_append]
    refine ⟨?_, subF_nodup w nd'.2, fun a ha b hb z => ?_⟩
    · rw [List.getD_eq_getElem?_getD]
      cases q : m[k]? with
      | none => simp
      | some f =>
        have : ∀ (m : Fp), m.flatten.Nodup → f ∈ m → f.Nodup := by
          intro m nd hm
          obtain ⟨s, t, rfl⟩ := List.append_of_mem hm
          rw [List.flatten_append, List.flatten_cons, List.nodup_append] at nd
          exact (List.nodup_append.mp nd.2.1).1
        exact this m w.nd (List.mem_of_getElem? q)
    · subst z
      rw [List.getD_eq_getElem?_getD] at ha
      cases q : m[k]? with
      | none => rw [q] at ha; simp at ha
      | some f =>
        rw [q] at ha
        obtain ⟨j, hj, g, hg, hb⟩ := subF_mem hb
        have ne : k ≠ j := fun z => nd'.1 (z ▸ hj)
        exact flat_ne w q hg ne (by simpa using ha) hb rfl
theorem flatV_rel {m' : Fp} {v : Val} {x : V} (f : flatV v = true) (r : VRel K G m v x) : VRel K G m' v x := by
  cases v with
  | ob _ => simp [flatV] at f
  | _ => exact r
theorem flats_rel {m' : Fp} : ∀ {vs : List Val} {xs : List V}, vs.all flatV = true → VRels K G m vs xs → VRels K G m' vs xs
  | _, _, _, .nil => .nil
  | v :: vs, _, f, .cons r t => by
    simp only [List.all_cons, Bool.and_eq_true] at f
    exact .cons (flatV_rel f.1 r) (flats_rel f.2 t)
theorem flatO_rel {m' : Fp} {fp : List Addr} {o : Ob} (f : flatO o = true) (r : ORel K G H m fp o) : ORel K G H m' fp o := by
  cases o with
  | lst xs =>
    obtain ⟨a, vs, h1, h2, h3, h4⟩ := r
    exact ⟨a, vs, h1, h2, h3, flats_rel f h4⟩
  | dic kvs =>
    obtain ⟨a, ks, h1, h2, h3, h4⟩ := r
    refine ⟨a, ks, h1, h2, h3, ?_⟩
    have go : ∀ {kvs : List (Key × Val)} {ks : List (Key × V)}, (kvs.all fun p => flatV p.2) = true → Paired (fun p q => p.1 = q.1 ∧ VRel K G m p.2 q.2) kvs ks → Paired (fun p q => p.1 = q.1 ∧ VRel K G m' p.2 q.2) kvs ks := by
      intro kvs ks f h
      induction h with
      | nil => exact .nil
      | cons r t ih =>
        simp only [List.all_cons, Bool.and_eq_true] at f
        exact .cons ⟨r.1, flatV_rel f.1 r.2⟩ (ih f.2)
    exact go f h4
  | _ => exact r
theorem callF_ok {dsp : DSp} {vs : List Val} {xs : List V} {Q : VK} {E : XK} {Qd : VC} {Xd : XC} (mono : MonoS dsp) (w : WRel K G H m T) (r : VRels K G m vs xs) (q : callF dsp vs T Qd Xd)
    (hQ : ∀ v T' G' H' m' x, Qd v T' → Ext K G H m G' H' m' → WRel K G' H' m' T' → VRel K G' m' v x → Q x H')
    (hX : ∀ e T' G' H' m' c d, Xd e T' → Ext K G H m G' H' m' → WRel K G' H' m' T' → XRel K G' e c d → E c d H') : spOf K vs.length dsp xs H Q E := by
  unfold callF at q
  simp only at q
  generalize hks : obsOf vs = ks at q
  have nd : ks.Nodup := hks ▸ obs_nodup vs
  split at q
  · rename_i Ts eT
    obtain ⟨fl, q⟩ := q
    obtain ⟨t1, t2⟩ := tabOf_get eT
    have kT : ∀ k ∈ ks, k < T.length := fun k hk => by
      obtain ⟨i, e⟩ := List.mem_iff_getElem?.mp hk
      exact (t2 i k e).2
    have sub_in : ∀ a, a ∈ (subF m ks).flatten → a ∈ m.flatten := fun a h => by
      obtain ⟨k, _, f, hf, ha⟩ := subF_mem h
      exact mem_flat hf ha
    have w1 : WRel K G H (subF m ks) Ts := by
      refine ⟨w.sub, by rw [t1]; simp [subF], subF_nodup w nd, fun a h => w.al a (sub_in a h), fun i o e => ?_, w.dat, w.tb⟩
      have hi : i < ks.length := by rw [← t1]; exact (List.getElem?_eq_some_iff.mp e).1
      obtain ⟨k, ek⟩ : ∃ k, ks[i]? = some k := ⟨ks[i], List.getElem?_eq_getElem hi⟩
      obtain ⟨a1, a2⟩ := t2 i k ek
      rw [e] at a1
      obtain ⟨fp, hm, h⟩ := w.ob k o a1.symm
      refine ⟨fp, by rw [subF_get ek (by rw [w.len]; exact a2)]; exact hm, flatO_rel ?_ h⟩
      exact List.all_eq_true.mp fl o (List.mem_of_getElem? e)
    have ren : VRels K G (subF m ks) (vs.map (renV ks)) xs := by
      have go : ∀ {us : List Val} {ys : List V}, (∀ k, .ob k ∈ us → k ∈ ks) → VRels K G m us ys → VRels K G (subF m ks) (us.map (renV ks)) ys := by
        intro us ys hk h
        induction h with
        | nil => exact .nil
        | @cons u y us ys r t ih =>
          refine .cons ?_ (ih fun k hm => hk k (List.mem_cons_of_mem _ hm))
          cases u with
          | ob k =>
            obtain ⟨a, s, hm, rfl⟩ := r
            have hk' := hk k (by simp)
            refine ⟨a, s, ?_, rfl⟩
            rw [subF_get (i := ks.idxOf k) (by rw [List.getElem?_eq_getElem (List.idxOf_lt_length_of_mem hk'), List.getElem_idxOf]) (by rw [w.len]; exact kT k hk')]
            exact hm
          | _ => exact r
      exact go (fun k hm => hks ▸ obs_mem hm) r
    -- what is known behind the call
    have back : ∀ (T' : Tab) (G' H' : Hp) (m' : Fp), ks.length ≤ T'.length → T'.all flatO = true → Ext K G H (subF m ks) G' H' m' → WRel K G' H' m' T' →
        ∃ ex, m' = subF m ks ++ ex ∧ Ext K G H m G' H' (m ++ ex) ∧ WRel K G' H' (m ++ ex) (putT T ks T') := by
      intro T' G' H' m' hl hf e w'
      obtain ⟨ex, rfl⟩ := e.ms
      have exin : ∀ a, a ∈ ex.flatten → a ∉ (subF m ks).flatten ∧ ¬ Lv H a := fun a h => by
        have nd2 := w'.nd
        rw [List.flatten_append, List.nodup_append] at nd2
        have n1 : a ∉ (subF m ks).flatten := fun z => nd2.2.2 a z a h rfl
        exact ⟨n1, e.new a (by rw [List.flatten_append, List.mem_append]; exact .inr h) n1⟩
      have e' : Ext K G H m G' H' (m ++ ex) := by
        refine ⟨e.sub, ⟨ex, rfl⟩, fun a o h n t => e.keep a o h (fun z => n (sub_in a z)) t, e.stay, fun a h n g => e.keepG a h (fun z => n (sub_in a z)) g, fun a h n => ?_, e.tabs⟩
        rw [List.flatten_append, List.mem_append] at h
        rcases h with h | h
        · exact absurd h n
        · exact (exin a h).2
      obtain ⟨p1, p2, p3⟩ := putT_get ks T T' nd kT hl
      have lm : m.length = T.length := w.len
      have lex : ex.length = T'.length - ks.length := by
        have := w'.len
        rw [List.length_append] at this
        simp only [subF, List.length_map] at this
        omega
      refine ⟨ex, rfl, e', w'.sub, by rw [List.length_append, p1, lm, lex], ?_, fun a h => ?_, fun j o ej => ?_, w'.dat, w'.tb⟩
      · rw [List.flatten_append, List.nodup_append]
        have nd2 := w'.nd
        rw [List.flatten_append, List.nodup_append] at nd2
        exact ⟨w.nd, nd2.2.1, fun a ha b hb z => by subst z; exact (exin a hb).2 (w.al a ha)⟩
      · rw [List.flatten_append, List.mem_append] at h
        rcases h with h | h
        · exact e.stay a (w.al a h)
        · exact w'.al a (by rw [List.flatten_append, List.mem_append]; exact .inr h)
      · by_cases hj : j < T.length
        · rw [p2 j hj] at ej
          have mj : (m ++ ex)[j]? = m[j]? := List.getElem?_append_left (by rw [lm]; exact hj)
          by_cases hm : j ∈ ks
          · rw [if_pos hm] at ej
            obtain ⟨fp, h1, h2⟩ := w'.ob _ o ej
            have il := List.idxOf_lt_length_of_mem hm
            rw [List.getElem?_append_left (by simpa [subF] using il), subF_get (k := j) (by rw [List.getElem?_eq_getElem il, List.getElem_idxOf]) (by rw [lm]; exact hj)] at h1
            exact ⟨fp, by rw [mj]; exact h1, flatO_rel (List.all_eq_true.mp hf o (List.mem_of_getElem? ej)) h2⟩
          · rw [if_neg hm] at ej
            obtain ⟨fp, h1, h2⟩ := w.ob j o ej
            have out : ∀ a ∈ fp, a ∉ (subF m ks).flatten := fun a ha z => by
              obtain ⟨k, hk, f, hf, ha'⟩ := subF_mem z
              exact flat_ne w h1 hf (fun z => hm (z ▸ hk)) ha ha' rfl
            refine ⟨fp, by rw [mj]; exact h1, h2.stay e.sub ⟨ex, rfl⟩ (fun a ha g => e.keepG a (w.al a (mem_flat h1 ha)) (out a ha) g) fun a ha u hu t => e.keep a u hu (out a ha) t⟩
        · obtain ⟨d, rfl⟩ : ∃ d, j = T.length + d := ⟨j - T.length, by omega⟩
          rw [p3 d] at ej
          obtain ⟨fp, h1, h2⟩ := w'.ob _ o ej
          refine ⟨fp, ?_, flatO_rel (List.all_eq_true.mp hf o (List.mem_of_getElem? ej)) h2⟩
          rw [List.getElem?_append_right (by simp [subF])] at h1
          rw [List.getElem?_append_right (by rw [lm]; omega), lm]
          have e1 : ks.length + d - (subF m ks).length = d := by simp [subF]
          have e2 : T.length + d - T.length = d := by omega
          rw [e1] at h1
          rw [e2]
          exact h1
    refine ⟨G, subF m ks, Ts, vs.map (renV ks), w1, ren, by simp, mono _ _ _ _ _ _ (fun v T' z G' H' m' x e w' rv => ?_) (fun ee T' z G' H' m' c d e w' rx => ?_) q⟩
    · obtain ⟨z1, z2, z3⟩ := z
      obtain ⟨ex, hm', e', w''⟩ := back T' G' H' m' z1 z2 e w'
      refine hQ _ _ G' H' (m ++ ex) x z3 e' w'' ?_
      subst hm'
      cases v with
      | ob j =>
        obtain ⟨a, s, hm, rfl⟩ := rv
        simp only [backV]
        cases ek : ks[j]? with
        | some k =>
          refine ⟨a, s, ?_, rfl⟩
          have jl := (List.getElem?_eq_some_iff.mp ek).1
          have kl := kT k (List.mem_of_getElem? ek)
          rw [List.getElem?_append_left (by simpa [subF] using jl), subF_get ek (by rw [w.len]; exact kl)] at hm
          rw [List.getElem?_append_left (by rw [w.len]; exact kl)]
          exact hm
        | none =>
          refine ⟨a, s, ?_, rfl⟩
          have jl := List.getElem?_eq_none_iff.mp ek
          rw [List.getElem?_append_right (by simpa [subF] using jl)] at hm
          rw [List.getElem?_append_right (by rw [w.len]; omega), w.len]
          have e1 : j - (subF m ks).length = j - ks.length := by simp [subF]
          have e2 : T.length + (j - ks.length) - T.length = j - ks.length := by omega
          rw [e1] at hm
          rw [e2]
          exact hm
      | _ => exact rv
    · obtain ⟨z1, z2, z3⟩ := z
      obtain ⟨ex, hm', e', w''⟩ := back T' G' H' m' z1 z2 e w'
      exact hX _ _ G' H' (m ++ ex) c d z3 e' w'' rx
  · exact q.elim
theorem call_ok {dsp : DSp} {vs : List Val} {xs : List V} {Q : VK} {E : XK} {Qd : VC} {Xd : XC} (mono : MonoS dsp) (w : WRel K G H m T) (r : VRels K G m vs xs) (q : callW dsp vs T Qd Xd)
    (hQ : ∀ v T' G' H' m' x, Qd v T' → Ext K G H m G' H' m' → WRel K G' H' m' T' → VRel K G' m' v x → Q x H')
    (hX : ∀ e T' G' H' m' c d, Xd e T' → Ext K G H m G' H' m' → WRel K G' H' m' T' → XRel K G' e c d → E c d H') : spOf K vs.length dsp xs H Q E := by
  rcases q with q | q
  · exact callF_ok mono w r q hQ hX
  · exact ⟨G, m, T, vs, w, r, rfl, mono _ _ _ _ _ _ (fun v T' z G' H' m' x e w r => hQ v T' G' H' m' x z e w r) (fun v T' z G' H' m' c d e w r => hX v T' G' H' m' c d z e w r) q⟩
theorem callF_mono {dsp : DSp} (mono : MonoS dsp) {vs : List Val} {T : Tab} {Q Q' : VC} {X X' : XC} (hq : ∀ v T, Q v T → Q' v T) (hx : ∀ v T, X v T → X' v T) (q : callF dsp vs T Q X) : callF dsp vs T Q' X' := by
  unfold callF at q ⊢
  simp only at q ⊢
  split at q
  · exact ⟨q.1, mono _ _ _ _ _ _ (fun v T' z => ⟨z.1, z.2.1, hq _ _ z.2.2⟩) (fun e T' z => ⟨z.1, z.2.1, hx _ _ z.2.2⟩) q.2⟩
  · exact q
theorem callW_mono {dsp : DSp} (mono : MonoS dsp) {vs : List Val} {T : Tab} {Q Q' : VC} {X X' : XC} (hq : ∀ v T, Q v T → Q' v T) (hx : ∀ v T, X v T → X' v T) (q : callW dsp vs T Q X) : callW dsp vs T Q' X' := by
  rcases q with q | q
  · exact .inl (callF_mono mono hq hx q)
  · exact .inr (mono _ _ _ _ _ _ hq hx q)
end
end DL
namespace DL
open PySem PySem.Spec PyProof.Rows L2
section
variable {X : Cx} {W : L2.WX} {a b c : Expr} {fa fb fc : DE} {pos : Pos} {es : List Expr} {fs : DA}
theorem dpe_call {dsp : DSp} {n k : Nat} {f : Addr} {fd : FuncData} {ps : List Str} {x : Str} {p : Pos} (F : FnOk X.prog X.w X.K X.mg X.base (L2.CX X.prog X.w) k f fd ps (spOf X.K n dsp)) (mono : MonoS dsp) (hr : Room k X.A) (hg : Gl X x) (hm : X.mg x = some (.ref f))
    (hk : PySem.W.keepIn X.K (.ref f) = true) (hb : Binds X.K fd ps []) (tk : Takes X W) (h : DPA X W (a :: es) fs) (hd : (x == ("__debug__" : Str)) = false) (hs : (a :: es).all bare1 = true)
    (hlen : ∀ sl T Q X, fs sl T Q X → fs sl T (fun vs T => vs.length = n ∧ Q vs T) X) : DPE X W (.Call (.Name x p) (a :: es) [] pos) (fun sl T Q X => fs sl T (fun vs T1 => callW dsp vs T1 Q X) X) := by
  have hb1 : bare1 a = true := by simp only [List.all_cons, Bool.and_eq_true] at hs; exact hs.1
  have hb2 : es.all bare1 = true := by simp only [List.all_cons, Bool.and_eq_true] at hs; exact hs.2
  refine ⟨fun sl T Q Q' X X' hq hx q => h.mono _ _ _ _ _ _ (fun vs T1 q => ?_) hx q, PE.imp (pe_callS F hr hg hm hk hb (fun σ => passAt tk σ) h.pa hd (starEach_bare hb1) (starEach_any hb2)) fun σ H Q q => ?_⟩
  · exact callW_mono mono hq hx q
  · obtain ⟨G, m, sl, T, s, w, q⟩ := q
    refine LAr.intro h.mono s w (hlen _ _ _ _ q) (fun v T1 G1 H1 m1 x q e1 w1 r1 => ?_) fun e T' G' H' m' c d q x w r => q G' H' m' c d x w r
    obtain ⟨hl, q⟩ := q
    rw [← hl]
    exact call_ok mono w1 r1 q (fun v T' G' H' m' x z e w r => z G' H' m' x (e1.trans e) w r) fun e T' G' H' m' c d z x w r => z G' H' m' c d (e1.trans x) w r
/-! ### what is walked -/
/-- what stands stands: the frozen part, the map -/
structure Fr (G : Hp) (m : Fp) (G2 : Hp) (m2 : Fp) : Prop where
  sub : Sub G G2
  ms : MSub m m2
theorem Ext.fr {K : PySem.W.Frag} {G H : Hp} {m : Fp} {G2 H2 : Hp} {m2 : Fp} (e : Ext K G H m G2 H2 m2) : Fr G m G2 m2 := ⟨e.sub, e.ms⟩
theorem Fr.trans {G : Hp} {m : Fp} {G1 : Hp} {m1 : Fp} {G2 : Hp} {m2 : Fp} (a : Fr G m G1 m1) (b : Fr G1 m1 G2 m2) : Fr G m G2 m2 := ⟨a.sub.trans b.sub, a.ms.trans b.ms⟩
theorem Fr.refl (G : Hp) (m : Fp) : Fr G m G m := ⟨Sub.refl G, MSub.refl m⟩
/-- the iterator gives these items, as long as what it walks stays -/
def ItOk (K : PySem.W.Frag) (G H : Hp) (m : Fp) (J : It) (items : List Val) (src : Option (Nat × List Val)) : Prop :=
  ∀ G2 H2 m2 T2, Fr G m G2 m2 → WRel K G2 H2 m2 T2 → still T2 src →
    (∀ (i : Nat) (x : Val), items[i]? = some x → J.go i H2 ∧ ∀ v H3, J.yld i H2 v H3 → ∃ G3, Ext K G2 H2 m2 G3 H3 m2 ∧ WRel K G3 H3 m2 T2 ∧ VRel K G3 m2 x v) ∧ ∀ i, items.length ≤ i → J.stop i H2
abbrev DI := Slots → Tab → (List Val → Option (Nat × List Val) → Tab → Prop) → XC → Prop
def MonoI (f : DI) : Prop := ∀ sl T (Q Q' : List Val → Option (Nat × List Val) → Tab → Prop) (X X' : XC), (∀ v s T, Q v s T → Q' v s T) → (∀ e T, X e T → X' e T) → f sl T Q X → f sl T Q' X'
def LI (K : PySem.W.Frag) (W : L2.WX) (f : DI) : TI := fun σ H R => ∃ G m sl T, SRel K G m sl σ ∧ WRel K G H m T ∧
  f sl T (fun vs src T' => ∀ G' H' m' J, Ext K G H m G' H' m' → WRel K G' H' m' T' → ItOk K G' H' m' J vs src → R J H')
    (fun e T' => ∀ G' H' m' c d, Ext K G H m G' H' m' → WRel K G' H' m' T' → XRel K G' e c d → W c d σ H')
structure DPI (X : Cx) (W : L2.WX) (tg e : Expr) (f : DI) : Prop where
  mono : MonoI f
  pi : PI X tg e (LI X.K W f)
theorem PI.imp {X : Cx} {tg e : Expr} {t t' : TI} (h : PI X tg e t) (i : ∀ σ H Q, t' σ H Q → t σ H Q) : PI X tg e t' := ⟨fun pins s σ H Q I q => h.run pins s σ H Q I (i σ H Q q)⟩
/-- a list, a tuple or a text, walked -/
def iSeq (K : PySem.W.Frag) (tl : TE) : TI := fun σ H R => tl σ H fun x H1 => (∃ a, x = .ref a ∧ (∃ xs, SqL K H1 a xs) ∧ R (Itl K a) H1) ∨ (∃ a, x = .ref a ∧ (∃ xs, SqT K H1 a xs) ∧ R (Itt K a) H1) ∨ ∃ z, x = .str z ∧ R (Its z) H1
theorem pi_seq {tg l : Expr} {tl : TE} (hl : PE X l tl) : PI X tg l (iSeq X.K tl) := by
  refine ⟨fun pins s σ H R I h => thn (hl.run pins s σ H _ I h) fun v s1 z => ?_⟩
  obtain ⟨x, H1, I1, r1, q1⟩ := z
  rcases q1 with ⟨p, e, ⟨xs, hq⟩, q⟩ | ⟨p, e, ⟨xs, hq⟩, q⟩ | ⟨y, e, q⟩
  · have e2 : v = Value.ref p := by subst e; exact r1
    subst e2
    obtain ⟨its, _, pl, _⟩ := I1.list hq
    exact wpAny_pyIter_list pl.isList (pi_one (tk := s1.toks) I1 _ (turn_list p _) ⟨_, Heap.get?_push_size _ rfl, rfl, rfl⟩ q)
  · have e2 : v = Value.ref p := by subst e; exact r1
    subst e2
    obtain ⟨its, _, pl⟩ := Inv.tupIs I1 hq
    exact wpAny_pyIter_tuple pl (pi_one (tk := s1.toks) I1 _ (turn_tuple p _) ⟨_, Heap.get?_push_size _ rfl, rfl, rfl⟩ q)
  · subst e
    obtain ⟨t, rfl⟩ := r1
    cases ha : y.cps.all (· < 128) with
    | false => exact wpAny_pyIter_wide ha (pi_one (tk := s1.toks) I1 _ (turn_str _ y t "str_iterator" (.inr rfl)) ⟨_, Heap.get?_push_size _ rfl, rfl, rfl⟩ q)
    | true => exact wpAny_pyIter_ascii ha (pi_one (tk := s1.toks) I1 _ (turn_str _ y t "str_ascii_iterator" (.inl rfl)) ⟨_, Heap.get?_push_size _ rfl, rfl, rfl⟩ q)
theorem rd_uniq {K : PySem.W.Frag} {H : Hp} {a : Addr} {xs ys : List V} (h : H a = some (.lst xs)) (q : SqL K H a ys) (hk : K.lookup a = none ∨ True) : Rd H a (.lst ys) → ys = xs := by
  rintro (r | ⟨o, r⟩)
  · rw [h] at r; cases r; rfl
  · rw [h] at r; cases r
theorem dv_get : ∀ {xs : List PyData} {i : Nat}, (dv xs)[i]? = (xs[i]?).map .d
  | [], i => by simp [dv]
  | x :: xs, 0 => by simp [dv]
  | x :: xs, i + 1 => by simp [dv, dv_get]
theorem dv_len : ∀ xs : List PyData, (dv xs).length = xs.length
  | [] => rfl
  | x :: xs => by simp [dv, dv_len xs]
section
variable {K : PySem.W.Frag} {G H : Hp} {m : Fp} {T : Tab}
theorem ItOk.list {a : Addr} {vs : List V} {items : List Val} (h : SqL K G a vs) (l : VRels K G m items vs) : ItOk K G H m (Itl K a) items none := by
  intro G2 H2 m2 T2 e w _
  have sq : SqL K H2 a vs := w.sub.sqL (e.sub.sqL h)
  refine ⟨fun i x hx => ?_, fun i hi => ⟨vs, sq, by rw [← Paired.length l]; exact hi⟩⟩
  obtain ⟨v, h3, h4⟩ := VRels.get l hx
  refine ⟨⟨vs, v, sq, h3⟩, fun u H3 y => ?_⟩
  obtain ⟨rfl, y⟩ := y
  have := y vs sq
  rw [h3] at this; cases this
  exact ⟨G2, Ext.refl _ _ _, w, h4.mono e.sub e.ms⟩
theorem ItOk.live {n : Nat} {a : Addr} {items : List Val} (hm : m[n]? = some [a]) : ItOk K G H m (Itl K a) items (some (n, items)) := by
  intro G2 H2 m2 T2 e w st
  have st' : getT T2 n = some (.lst items) := st
  obtain ⟨b, vs, eb, hm2, hG, hH, l⟩ := w.lst (x := .ref a) st' ⟨a, [], e.ms.get hm, rfl⟩
  cases eb
  have sq : SqL K H2 a vs := .inl (.inl hH)
  refine ⟨fun i x hx => ?_, fun i hi => ⟨vs, sq, by rw [← Paired.length l]; exact hi⟩⟩
  obtain ⟨v, h3, h4⟩ := VRels.get l hx
  refine ⟨⟨vs, v, sq, h3⟩, fun u H3 y => ?_⟩
  obtain ⟨rfl, y⟩ := y
  have := y vs sq
  rw [h3] at this; cases this
  exact ⟨G2, Ext.refl _ _ _, w, h4⟩
theorem ItOk.tup {a : Addr} {vs : List V} {items : List Val} (h : SqT K G a vs) (l : VRels K G m items vs) : ItOk K G H m (Itt K a) items none := by
  intro G2 H2 m2 T2 e w _
  have sq := w.sub.sqT (e.sub.sqT h)
  refine ⟨fun i x hx => ?_, fun i hi => ⟨vs, sq, by rw [← Paired.length l]; exact hi⟩⟩
  obtain ⟨v, h3, h4⟩ := VRels.get l hx
  refine ⟨⟨vs, v, sq, h3⟩, fun u H3 y => ?_⟩
  obtain ⟨rfl, y⟩ := y
  have := y vs sq
  rw [h3] at this; cases this
  exact ⟨G2, Ext.refl _ _ _, w, h4.mono e.sub e.ms⟩
theorem ItOk.text {z : Str} : ItOk K G H m (Its z) (z.cps.toList.map fun c => .d (.str ⟨#[c]⟩)) none := by
  intro G2 H2 m2 T2 e w _
  refine ⟨fun i x hx => ?_, fun i hi => by simpa [Its] using hi⟩
  rw [List.getElem?_map] at hx
  obtain ⟨c, hc, rfl⟩ := Option.map_eq_some_iff.mp hx
  have hc' : z.cps[i]? = some c := by rw [← Array.getElem?_toList]; exact hc
  refine ⟨(Array.getElem?_eq_some_iff.mp hc').1, fun u H3 y => ?_⟩
  obtain ⟨rfl, d, h1, rfl⟩ := y
  rw [hc'] at h1; cases h1
  exact ⟨G2, Ext.refl _ _ _, w, by simp [VRel, Rp]⟩
theorem rangeL_len : ∀ (n : Nat) (lo : Int), (rangeL lo n).length = n
  | 0, _ => rfl
  | n + 1, lo => by simp [rangeL, rangeL_len n]
theorem rangeL_get : ∀ (n : Nat) (lo : Int) (i : Nat) (x : Val), (rangeL lo n)[i]? = some x → x = .d (.int (lo + i)) ∧ i < n
  | 0, _, i, x, h => by simp [rangeL] at h
  | n + 1, lo, 0, x, h => by simp [rangeL] at h; subst h; simp
  | n + 1, lo, i + 1, x, h => by
    simp only [rangeL, List.getElem?_cons_succ] at h
    obtain ⟨h1, h2⟩ := rangeL_get n (lo + 1) i x h
    refine ⟨?_, by omega⟩
    rw [h1]
    congr 2
    omega
theorem ItOk.range {lo : Int} {n : Nat} : ItOk K G H m (L2.Itr lo n) (rangeL lo n) none := by
  intro G2 H2 m2 T2 e w _
  refine ⟨fun i x hx => ?_, fun i hi => by rw [rangeL_len] at hi; exact hi⟩
  obtain ⟨rfl, hi⟩ := rangeL_get _ _ _ _ hx
  refine ⟨hi, fun u H3 y => ?_⟩
  obtain ⟨rfl, rfl⟩ := y
  exact ⟨G2, Ext.refl _ _ _, w, by simp [VRel, Rp]⟩
theorem allD_get : ∀ {xs : List Val} {i : Nat} {x : Val}, allD xs = true → xs[i]? = some x → ∃ y, x = .d y := by
  intro xs i x h e
  have := List.all_eq_true.mp h x (List.mem_of_getElem? e)
  cases x with
  | d y => exact ⟨y, rfl⟩
  | _ => simp at this
theorem enumL_get : ∀ (xs : List Val) (n i : Nat) (x : Val), allD xs = true → (enumL n xs)[i]? = some x → ∃ y, xs[i]? = some (.d y) ∧ x = .d (.tuple [.int ((n + i : Nat) : Int), y])
  | [], _, _, _, _, h => by simp [enumL] at h
  | .d y :: r, n, 0, x, _, h => by simp [enumL] at h; subst h; exact ⟨y, rfl, by simp⟩
  | .d y :: r, n, i + 1, x, a, h => by
    simp only [enumL, List.getElem?_cons_succ] at h
    have a' : allD r = true := by
      unfold allD at a ⊢
      rw [List.all_cons, Bool.and_eq_true] at a
      exact a.2
    obtain ⟨z, h1, h2⟩ := enumL_get r (n + 1) i x a' h
    refine ⟨z, by simpa using h1, ?_⟩
    rw [h2]
    have e : n + 1 + i = n + (i + 1) := by omega
    rw [e]
  | .ob _ :: r, _, _, _, a, _ => by simp [allD] at a
  | .ty _ :: r, _, _, _, a, _ => by simp [allD] at a
  | .ex _ :: r, _, _, _, a, _ => by simp [allD] at a
theorem enumL_len : ∀ (xs : List Val) (n : Nat), allD xs = true → (enumL n xs).length = xs.length
  | [], _, _ => rfl
  | .d y :: r, n, a => by
    have a' : allD r = true := by
      unfold allD at a ⊢
      rw [List.all_cons, Bool.and_eq_true] at a
      exact a.2
    simp [enumL, enumL_len r (n + 1) a']
  | .ob _ :: r, _, a => by simp [allD] at a
  | .ty _ :: r, _, a => by simp [allD] at a
  | .ex _ :: r, _, a => by simp [allD] at a
theorem allD_dv (xs : List PyData) : allD (dv xs) = true := by
  induction xs with
  | nil => rfl
  | cons x xs ih => unfold allD at ih ⊢; simp only [dv, List.all_cons, ih]; rfl
/-- a pair of data, newly laid -/
theorem pair_laid (w : WRel K G H m T) {p : Addr} (n : H p = none) {x y : PyData} {u v : V} (h1 : Rp K G x u) (h2 : Rp K G y v) : ∃ G3, Ext K G H m G3 (upd H p (.tup [u, v])) m ∧ WRel K G3 (upd H p (.tup [u, v])) m T ∧ VRel K G3 m (.d (.tuple [x, y])) (.ref p) := by
  refine ⟨upd G p (.tup [u, v]), Ext.laid w n, w.laid n, ?_⟩
  refine rp_tup (.inl (.inl upd_same)) (RpL.upd (w.gnone n) ?_)
  simp only [RpL]
  exact ⟨u, [v], rfl, h1, v, [], rfl, h2, rfl⟩
theorem ItOk.enum {a : Addr} {items : List Val} {src : Option (Nat × List Val)} (ad : allD items = true)
    (st : ∀ G2 H2 m2 T2, Fr G m G2 m2 → WRel K G2 H2 m2 T2 → still T2 src → ∃ vs, H2 a = some (.lst vs) ∧ VRels K G2 m2 items vs) : ItOk K G H m (Ite K a) (enumL 0 items) src := by
  intro G2 H2 m2 T2 e w s
  obtain ⟨vs, hH, l⟩ := st G2 H2 m2 T2 e w s
  have sq : SqL K H2 a vs := .inl (.inl hH)
  refine ⟨fun i x hx => ?_, fun i hi => ⟨vs, sq, by rw [← Paired.length l]; rw [enumL_len _ _ ad] at hi; exact hi⟩⟩
  obtain ⟨y, h1, rfl⟩ := enumL_get items 0 i x ad hx
  obtain ⟨v, h3, h4⟩ := VRels.get l h1
  refine ⟨⟨vs, v, sq, h3⟩, fun u H3 z => ?_⟩
  obtain ⟨t, x', rfl, hn, rfl, hx'⟩ := z
  have := hx' vs sq
  rw [h3] at this; cases this
  have := pair_laid w hn (x := .int ((0 + i : Nat) : Int)) (u := .int (i : Nat)) (by simp [Rp]) h4
  exact this
theorem zipL_get : ∀ (xs ys : List Val) (i : Nat) (x : Val), (zipL xs ys)[i]? = some x → ∃ y z, xs[i]? = some (.d y) ∧ ys[i]? = some (.d z) ∧ x = .d (.tuple [y, z])
  | .d y :: r, .d z :: s, 0, x, h => by simp [zipL] at h; subst h; exact ⟨y, z, rfl, rfl, rfl⟩
  | .d y :: r, .d z :: s, i + 1, x, h => by
    simp only [zipL, List.getElem?_cons_succ] at h
    obtain ⟨y', z', h1, h2, h3⟩ := zipL_get r s i x h
    exact ⟨y', z', by simpa using h1, by simpa using h2, h3⟩
  | [], _, i, x, h => by simp [zipL] at h
  | .ob _ :: _, _, i, x, h => by simp [zipL] at h
  | .ty _ :: _, _, i, x, h => by simp [zipL] at h
  | .ex _ :: _, _, i, x, h => by simp [zipL] at h
  | .scr _ :: _, _, i, x, h => by simp [zipL] at h
  | .fn _ :: _, _, i, x, h => by simp [zipL] at h
  | .d _ :: _, [], i, x, h => by simp [zipL] at h
  | .d _ :: _, .ob _ :: _, i, x, h => by simp [zipL] at h
  | .d _ :: _, .ty _ :: _, i, x, h => by simp [zipL] at h
  | .d _ :: _, .ex _ :: _, i, x, h => by simp [zipL] at h
  | .d _ :: _, .scr _ :: _, i, x, h => by simp [zipL] at h
  | .d _ :: _, .fn _ :: _, i, x, h => by simp [zipL] at h
theorem zipL_len : ∀ (xs ys : List PyData), (zipL (dv xs) (dv ys)).length = min xs.length ys.length
  | [], ys => by simp [dv, zipL]
  | x :: xs, [] => by simp [dv, zipL]
  | x :: xs, y :: ys => by simp only [dv, zipL, List.length_cons, zipL_len xs ys]; omega
theorem ItOk.zip {a b : Addr} {xs ys : List PyData} {vs us : List V} (h1 : G a = some (.lst vs)) (h2 : G b = some (.lst us)) (l1 : RpL K G xs vs) (l2 : RpL K G ys us) : ItOk K G H m (Itz K a b) (zipL (dv xs) (dv ys)) none := by
  intro G2 H2 m2 T2 e w s
  have q1 : SqL K H2 a vs := .inl (.inl (w.sub _ _ (e.sub _ _ h1)))
  have q2 : SqL K H2 b us := .inl (.inl (w.sub _ _ (e.sub _ _ h2)))
  refine ⟨fun i x hx => ?_, fun i hi => ⟨vs, us, q1, q2, ?_⟩⟩
  · obtain ⟨y, z, z1, z2, rfl⟩ := zipL_get _ _ _ _ hx
    rw [dv_get] at z1 z2
    obtain ⟨y', z1, e1⟩ := Option.map_eq_some_iff.mp z1
    obtain ⟨z', z2, e2⟩ := Option.map_eq_some_iff.mp z2
    cases e1; cases e2
    obtain ⟨v, a1, a2⟩ := l1.get z1
    obtain ⟨u, b1, b2⟩ := l2.get z2
    refine ⟨⟨vs, us, v, u, q1, q2, a1, b1⟩, fun t H3 r => ?_⟩
    obtain ⟨t', x1, x2, rfl, hn, rfl, f1, f2⟩ := r
    have c1 := f1 vs q1
    have c2 := f2 us q2
    rw [a1] at c1; rw [b1] at c2; cases c1; cases c2
    exact pair_laid w hn (Rp.mono e.sub _ _ a2) (Rp.mono e.sub _ _ b2)
  · rw [zipL_len, l1.length, l2.length] at hi
    omega
theorem ItOk.zipT {a b : Addr} {xs ys : List PyData} {vs us : List V} (h1 : SqT K G a vs) (h2 : SqT K G b us) (l1 : RpL K G xs vs) (l2 : RpL K G ys us) : ItOk K G H m (RZ.ItzT K a b) (zipL (dv xs) (dv ys)) none := by
  intro G2 H2 m2 T2 e w s
  have q1 : SqT K H2 a vs := w.sub.sqT (e.sub.sqT h1)
  have q2 : SqT K H2 b us := w.sub.sqT (e.sub.sqT h2)
  refine ⟨fun i x hx => ?_, fun i hi => ⟨vs, us, q1, q2, ?_⟩⟩
  · obtain ⟨y, z, z1, z2, rfl⟩ := zipL_get _ _ _ _ hx
    rw [dv_get] at z1 z2
    obtain ⟨y', z1, e1⟩ := Option.map_eq_some_iff.mp z1
    obtain ⟨z', z2, e2⟩ := Option.map_eq_some_iff.mp z2
    cases e1; cases e2
    obtain ⟨v, a1, a2⟩ := l1.get z1
    obtain ⟨u, b1, b2⟩ := l2.get z2
    refine ⟨⟨vs, us, v, u, q1, q2, a1, b1⟩, fun t H3 r => ?_⟩
    obtain ⟨t', x1, x2, rfl, hn, rfl, f1, f2⟩ := r
    have c1 := f1 vs q1
    have c2 := f2 us q2
    rw [a1] at c1; rw [b1] at c2; cases c1; cases c2
    exact pair_laid w hn (Rp.mono e.sub _ _ a2) (Rp.mono e.sub _ _ b2)
  · rw [zipL_len, l1.length, l2.length] at hi
    omega
end
theorem itemsW_mono {T : Tab} {v : Val} {k k' : List Val → Option (Nat × List Val) → Prop} (h : ∀ a b, k a b → k' a b) (q : itemsW T v k) : itemsW T v k' := by
  unfold itemsW at q ⊢
  split at q
  · exact h _ _ q
  · exact h _ _ q
  · exact h _ _ q
  · split at q
    · exact h _ _ q
    · exact q
  · exact h _ _ q
  · exact q
theorem dpi_seq {tg : Expr} (ha : DPE X W a fa) : DPI X W tg a (fun sl T Q X => fa sl T (fun v T1 => itemsW T1 v fun xs src => Q xs src T1) X) := by
  refine ⟨fun sl T Q Q' X X' hq hx q => ha.mono _ _ _ _ _ _ (fun v T1 q => itemsW_mono (fun a b q => hq _ _ _ q) q) hx q, PI.imp (pi_seq ha.pe) fun σ H Q q => ?_⟩
  obtain ⟨G, m, sl, T, s, w, q⟩ := q
  refine LE.intro ha.mono s w q (fun v T1 G1 H1 m1 x q e1 w1 r1 => ?_) fun e T' G' H' m' c d q x w r => q G' H' m' c d x w r
  unfold itemsW at q
  split at q
  · simp only [VRel, Rp] at r1
    obtain ⟨p, vs, rfl, h, l⟩ := r1
    exact .inl ⟨p, rfl, ⟨vs, .inl (.inl (w1.sub _ _ h))⟩, q G1 H1 m1 _ e1 w1 (.list (.inl (.inl h)) (dv_rel l))⟩
  · simp only [VRel, Rp] at r1
    obtain ⟨p, vs, rfl, h, l⟩ := r1
    exact .inr (.inl ⟨p, rfl, ⟨vs, w1.sub.sqT h⟩, q G1 H1 m1 _ e1 w1 (.tup h (dv_rel l))⟩)
  · simp [VRel, Rp] at r1
    subst r1
    exact .inr (.inr ⟨_, rfl, q G1 H1 m1 _ e1 w1 .text⟩)
  · split at q
    · rename_i n xs e0
      obtain ⟨p, vs, rfl, hm, _, hH, l⟩ := w1.lst e0 r1
      exact .inl ⟨p, rfl, ⟨vs, .inl (.inl hH)⟩, q G1 H1 m1 _ e1 w1 (.live hm)⟩
    · exact q.elim
  · rename_i ns
    obtain ⟨p, rfl, h⟩ := r1
    refine .inl ⟨p, rfl, ⟨_, w1.sub.sqL h⟩, q G1 H1 m1 _ e1 w1 (.list h ?_)⟩
    clear q h
    induction ns with
    | nil => exact .nil
    | cons i ns ih => exact .cons (by simp [VRel, Rp]) ih
  · exact q.elim
theorem dpi_rng1 {tg : Expr} {p : Pos} (ha : DPE X W a fa) (hb : bare1 a = true) (hg : Gl X "range") (hm : X.mg "range" = none) : DPI X W tg (.Call (.Name "range" p) [a] [] pos) (fun sl T Q X => fa sl T (fun v T1 => match v with
    | .d (.int j) => (-(2 ^ 62) ≤ j ∧ j < 2 ^ 62) ∧ Q (rangeL 0 j.toNat) none T1
    | _ => False) X) := by
  refine ⟨fun sl T Q Q' X X' hq hx q => ha.mono _ _ _ _ _ _ (fun v T1 q => ?_) hx q, PI.imp (pi_range1 hg hm (pa_cons ha.pe pa_nil (starEach_bare hb)) (starEach_bare hb)) fun σ H Q q => ?_⟩
  · split at q
    · exact ⟨q.1, hq _ _ _ q.2⟩
    · exact q
  · obtain ⟨G, m, sl, T, s, w, q⟩ := q
    refine LE.intro ha.mono s w q (fun v T1 G1 H1 m1 x q e1 w1 r1 => ?_) fun e T' G' H' m' c d q x w r => q G' H' m' c d x w r
    split at q
    · simp [VRel, Rp] at r1
      subst r1
      exact ⟨_, rfl, q.1.1, q.1.2, q.2 G1 H1 m1 _ e1 w1 .range⟩
    · exact q.elim
theorem dpi_rng2 {tg : Expr} {p : Pos} (ha : DPE X W a fa) (hb : DPE X W b fb) (ba : bare1 a = true) (bb : bare1 b = true) (hg : Gl X "range") (hm : X.mg "range" = none) : DPI X W tg (.Call (.Name "range" p) [a, b] [] pos) (fun sl T Q X => fa sl T (fun v T1 => fb sl T1 (fun u T2 => match v, u with
    | .d (.int i), .d (.int j) => (-(2 ^ 62) ≤ i ∧ i < 2 ^ 62 ∧ -(2 ^ 62) ≤ j ∧ j < 2 ^ 62) ∧ Q (rangeL i (j - i).toNat) none T2
    | _, _ => False) X) X) := by
  refine ⟨fun sl T Q Q' X X' hq hx q => ha.mono _ _ _ _ _ _ (fun v T1 q => hb.mono _ _ _ _ _ _ (fun u T2 q => ?_) hx q) hx q,
    PI.imp (pi_range2 hg hm (pa_cons ha.pe (pa_cons hb.pe pa_nil (starEach_bare bb)) (starEach_bare ba)) (by rw [starEach_bare ba, starEach_bare bb]; rfl) (starEach_bare bb)) fun σ H Q q => ?_⟩
  · split at q
    · exact ⟨q.1, hq _ _ _ q.2⟩
    · exact q
  · obtain ⟨G, m, sl, T, s, w, q⟩ := q
    refine LE.intro ha.mono s w q (fun v T1 G1 H1 m1 x q e1 w1 r1 => ?_) fun e T' G' H' m' c d q x w r => q G' H' m' c d x w r
    refine LE.intro hb.mono (s.ext e1) w1 q (fun u T2 G2 H2 m2 y q e2 w2 r2 => ?_) fun e T' G' H' m' c d q x w r => q G' H' m' c d (e1.trans x) w r
    split at q
    · simp [VRel, Rp] at r1 r2
      subst r1 r2
      exact ⟨_, _, rfl, q.1, q.2 G2 H2 m2 _ (e1.trans e2) w2 .range⟩
    · exact q.elim
theorem dpi_enum {ts : List Expr} {kk : Nat} {tp p : Pos} (ha : DPE X W a fa) (hb : bare1 a = true) (hg : Gl X "enumerate") (hm : X.mg "enumerate" = none) : DPI X W (.Tuple ts kk tp) (.Call (.Name "enumerate" p) [a] [] pos) (fun sl T Q X => fa sl T (fun v T1 => match v with
    | .d (.list xs) => Q (enumL 0 (dv xs)) none T1
    | .ob n => match getT T1 n with
      | some (.lst xs) => allD xs = true ∧ Q (enumL 0 xs) (some (n, xs)) T1
      | _ => False
    | _ => False) X) := by
  refine ⟨fun sl T Q Q' X X' hq hx q => ha.mono _ _ _ _ _ _ (fun v T1 q => ?_) hx q, PI.imp (pi_enum hg hm (pa_cons ha.pe pa_nil (starEach_bare hb)) (starEach_bare hb)) fun σ H Q q => ?_⟩
  · split at q
    · exact hq _ _ _ q
    · split at q
      · exact ⟨q.1, hq _ _ _ q.2⟩
      · exact q
    · exact q
  · obtain ⟨G, m, sl, T, s, w, q⟩ := q
    refine LE.intro ha.mono s w q (fun v T1 G1 H1 m1 x q e1 w1 r1 => ?_) fun e T' G' H' m' c d q x w r => q G' H' m' c d x w r
    split at q
    · rename_i xs
      simp only [VRel, Rp] at r1
      obtain ⟨z, vs, rfl, h, l⟩ := r1
      refine ⟨z, vs, rfl, .inl (.inl (w1.sub _ _ h)), q G1 H1 m1 _ e1 w1 (.enum (allD_dv xs) fun G2 H2 m2 T2 e w _ => ?_)⟩
      exact ⟨vs, w.sub _ _ (e.sub _ _ h), VRels.mono e.sub e.ms (dv_rel l)⟩
    · rename_i n
      split at q
      · rename_i xs e0
        obtain ⟨z, vs, rfl, hm, _, hH, l⟩ := w1.lst e0 r1
        refine ⟨z, vs, rfl, .inl (.inl hH), q.2 G1 H1 m1 _ e1 w1 (.enum q.1 fun G2 H2 m2 T2 e w st => ?_)⟩
        have st' : getT T2 n = some (.lst xs) := st
        obtain ⟨b, us, eb, _, _, hH2, l2⟩ := w.lst (x := .ref z) st' ⟨z, [], e.ms.get hm, rfl⟩
        cases eb
        exact ⟨us, hH2, l2⟩
      · exact q.elim
    · exact q.elim
theorem dpi_zip {ts : List Expr} {kk : Nat} {tp p : Pos} (ha : DPE X W a fa) (hb : DPE X W b fb) (ba : bare1 a = true) (bb : bare1 b = true) (hg : Gl X "zip") (hm : X.mg "zip" = none) : DPI X W (.Tuple ts kk tp) (.Call (.Name "zip" p) [a, b] [] pos) (fun sl T Q X => fa sl T (fun v T1 => fb sl T1 (fun u T2 => match v, u with
    | .d (.list xs), .d (.list ys) => Q (zipL (dv xs) (dv ys)) none T2
    | .d (.tuple xs), .d (.tuple ys) => Q (zipL (dv xs) (dv ys)) none T2
    | _, _ => False) X) X) := by
  refine ⟨fun sl T Q Q' X X' hq hx q => ha.mono _ _ _ _ _ _ (fun v T1 q => hb.mono _ _ _ _ _ _ (fun u T2 q => ?_) hx q) hx q,
    PI.imp (RZ.pi_zipA hg hm (pa_cons ha.pe (pa_cons hb.pe pa_nil (starEach_bare bb)) (starEach_bare ba)) (starEach_bare ba) (starEach_any (by simpa using bb))) fun σ H Q q => ?_⟩
  · split at q
    · exact hq _ _ _ q
    · exact hq _ _ _ q
    · exact q
  · obtain ⟨G, m, sl, T, s, w, q⟩ := q
    refine LE.intro ha.mono s w q (fun v T1 G1 H1 m1 x q e1 w1 r1 => ?_) fun e T' G' H' m' c d q x w r => q G' H' m' c d x w r
    refine LE.intro hb.mono (s.ext e1) w1 q (fun u T2 G2 H2 m2 y q e2 w2 r2 => ?_) fun e T' G' H' m' c d q x w r => q G' H' m' c d (e1.trans x) w r
    have r1' := r1.mono e2.sub e2.ms
    split at q
    · simp only [VRel, Rp] at r1' r2
      obtain ⟨z1, vs, rfl, h1, l1⟩ := r1'
      obtain ⟨z2, us, rfl, h2, l2⟩ := r2
      exact ⟨z1, z2, vs, us, rfl, .inl ⟨.inl (.inl (w2.sub _ _ h1)), .inl (.inl (w2.sub _ _ h2)), q G2 H2 m2 _ (e1.trans e2) w2 (.zip h1 h2 l1 l2)⟩⟩
    · simp only [VRel, Rp] at r1' r2
      obtain ⟨z1, vs, rfl, h1, l1⟩ := r1'
      obtain ⟨z2, us, rfl, h2, l2⟩ := r2
      exact ⟨z1, z2, vs, us, rfl, .inr ⟨w2.sub.sqT h1, w2.sub.sqT h2, q G2 H2 m2 _ (e1.trans e2) w2 (.zipT h1 h2 l1 l2)⟩⟩
    · exact q.elim
end
end DL
namespace DL
open PySem PySem.Spec PyProof.Rows L2
/-! ### targets -/
mutual
def gP (K : PySem.W.Frag) : Pat → TG
  | .nm i => gName i
  | .tp ps => fun v σ H Q => gTup K ps.length (gPs K ps) v σ H Q ∨ gLst K ps.length (gPs K ps) v σ H Q
def gPs (K : PySem.W.Frag) : List Pat → TGs
  | [] => gNil
  | p :: ps => gCons (gP K p) (gPs K ps)
end
theorem PG.or {X : Cx} {tg : Expr} {t t' : TG} (h : PG X tg t) (h' : PG X tg t') : PG X tg (fun v σ H Q => t v σ H Q ∨ t' v σ H Q) :=
  ⟨fun pins s σ H v u Q I r q => q.elim (fun q => h.run pins s σ H v u Q I r q) fun q => h'.run pins s σ H v u Q I r q⟩
/-- what the checker asks of a target's name: cells only where cl -/
def locN (names : List (Str × NameKind)) (cl : Bool) (x : Str) : Bool :=
  match names.lookup x with
  | some .local => true
  | some .cell => cl
  | _ => false
mutual
def chkP (N : List Str) (names : List (Str × NameKind)) (cl : Bool) : Pat → Expr → Bool
  | .nm i, .Name x _ => decide (N[i]? = some x) && locN names cl x
  | .tp ps, .Tuple es _ _ => chkPs N names cl ps es
  | _, _ => false
def chkPs (N : List Str) (names : List (Str × NameKind)) (cl : Bool) : List Pat → List Expr → Bool
  | [], [] => true
  | p :: ps, e :: es => chkP N names cl p e && chkPs N names cl ps es
  | _, _ => false
end
theorem loc_of {X : Cx} {names : List (Str × NameKind)} {cl : Bool} {x : Str} (hs : X.env.scope.names = names) (hf : cl = true → ∀ x, X.fn x = true) (h : locN names cl x = true) : Loc X.env.scope x ∧ (X.fn x = true ∨ X.env.scope.names.lookup x = some .local) := by
  unfold locN at h
  rw [← hs] at h
  split at h
  · rename_i e; exact ⟨.inl e, .inr e⟩
  · rename_i e; exact ⟨.inr e, .inl (hf h x)⟩
  · cases h
theorem each_cons {p : Pat} {e : Expr} {es : List Expr} {env : PySem.Env} {N : List Str} {names : List (Str × NameKind)} {cl : Bool} (h : chkP N names cl p e = true) : assignEach (e :: es) env = (false, assign e env) :: assignEach es env := by
  cases p with
  | nm i => cases e <;> first | rfl | (simp [chkP] at h)
  | tp ps => cases e <;> first | rfl | (simp [chkP] at h)
theorem each_all {N : List Str} {names : List (Str × NameKind)} {cl : Bool} {env : PySem.Env} : ∀ {ps : List Pat} {es : List Expr}, chkPs N names cl ps es = true → (assignEach es env).length = ps.length ∧ (assignEach es env).findIdx? (·.1) = none
  | [], [], _ => ⟨rfl, rfl⟩
  | p :: ps, e :: es, h => by
    simp only [chkPs, Bool.and_eq_true] at h
    obtain ⟨h1, h2⟩ := each_all (env := env) h.2
    rw [each_cons h.1]
    refine ⟨by simp [h1], ?_⟩
    rw [List.findIdx?_cons]
    simp [h2]
  | [], _ :: _, h => by simp [chkPs] at h
  | _ :: _, [], h => by simp [chkPs] at h
mutual
theorem pg_pat {X : Cx} {names : List (Str × NameKind)} {cl : Bool} (hc : X.calm = true) (hN : X.N.Nodup) (hs : X.env.scope.names = names) (hf : cl = true → ∀ x, X.fn x = true) : ∀ (p : Pat) (e : Expr), chkP X.N names cl p e = true → PG X e (gP X.K p)
  | .nm i, e, h => by
    cases e with
    | Name x pos =>
      simp only [chkP, Bool.and_eq_true, decide_eq_true_eq] at h
      obtain ⟨h1, h2⟩ := loc_of hs hf h.2
      exact pg_name hN h.1 h1 h2
    | _ => simp [chkP] at h
  | .tp ps, e, h => by
    cases e with
    | Tuple es k pos =>
      simp only [chkP] at h
      obtain ⟨h1, h2⟩ := each_all (env := X.env) h
      have q := pgs_pat hc hN hs hf ps es h
      exact PG.or (pg_tup hc q h1 h2) (pg_lst hc q h1 h2)
    | _ => simp [chkP] at h
theorem pgs_pat {X : Cx} {names : List (Str × NameKind)} {cl : Bool} (hc : X.calm = true) (hN : X.N.Nodup) (hs : X.env.scope.names = names) (hf : cl = true → ∀ x, X.fn x = true) : ∀ (ps : List Pat) (es : List Expr), chkPs X.N names cl ps es = true → PGs X es (gPs X.K ps)
  | [], [], _ => pgs_nil
  | p :: ps, e :: es, h => by
    simp only [chkPs, Bool.and_eq_true] at h
    exact pgs_cons (pg_pat hc hN hs hf p e h.1) (pgs_pat hc hN hs hf ps es h.2) (by rw [each_cons h.1]; rfl)
  | [], _ :: _, h => by simp [chkPs] at h
  | _ :: _, [], h => by simp [chkPs] at h
end
mutual
theorem pat_ok {K : PySem.W.Frag} {G H : Hp} {m : Fp} {T : Tab} (w : WRel K G H m T) : ∀ (p : Pat) (v : Val) (x : V) (sl : Slots) (σ : L2.St) (k : Slots → Prop) (Q : L2.St → Hp → Prop), VRel K G m v x → SRel K G m sl σ → patW p v sl T k →
    (∀ sl' σ', SRel K G m sl' σ' → k sl' → Q σ' H) → gP K p x σ H Q
  | .nm i, v, x, sl, σ, k, Q, r, s, q, f => by
    simp only [patW] at q
    rw [setS_eq] at q
    exact f _ _ (s.set r i) q
  | .tp ps, v, x, sl, σ, k, Q, r, s, q, f => by
    simp only [patW] at q
    split at q
    · rename_i xs
      simp only [VRel, Rp] at r
      obtain ⟨a, vs, rfl, h, l⟩ := r
      have z := pats_ok w ps (dv xs) vs sl σ k Q (dv_rel l) s q.2 f
      exact .inl ⟨a, vs, rfl, w.sub.sqT h, by rw [← l.length]; exact q.1, z⟩
    · rename_i xs
      simp only [VRel, Rp] at r
      obtain ⟨a, vs, rfl, h, l⟩ := r
      have z := pats_ok w ps (dv xs) vs sl σ k Q (dv_rel l) s q.2 f
      exact .inr ⟨a, vs, rfl, .inl (.inl (w.sub _ _ h)), by rw [← l.length]; exact q.1, z⟩
    · exact q.elim
theorem pats_ok {K : PySem.W.Frag} {G H : Hp} {m : Fp} {T : Tab} (w : WRel K G H m T) : ∀ (ps : List Pat) (vs : List Val) (xs : List V) (sl : Slots) (σ : L2.St) (k : Slots → Prop) (Q : L2.St → Hp → Prop), VRels K G m vs xs → SRel K G m sl σ → patsW ps vs sl T k →
    (∀ sl' σ', SRel K G m sl' σ' → k sl' → Q σ' H) → gPs K ps xs σ H Q
  | [], vs, xs, sl, σ, k, Q, r, s, q, f => by
    simp only [patsW] at q
    cases vs with
    | nil => cases r; exact ⟨rfl, f _ _ s q⟩
    | cons v vs => exact q.elim
  | p :: ps, vs, xs, sl, σ, k, Q, r, s, q, f => by
    simp only [patsW] at q
    cases vs with
    | nil => exact q.elim
    | cons v vs =>
      cases r with
      | cons r1 r2 =>
        refine ⟨_, _, rfl, pat_ok w p v _ sl σ _ _ r1 s q fun sl' σ' s' q' => ?_⟩
        exact pats_ok w ps vs _ sl' σ' k Q r2 s' q' f
end
/-! ### comprehensions -/
theorem wipe_rel {K : PySem.W.Frag} {G : Hp} {m : Fp} {sl : Slots} {σ : L2.St} (s : SRel K G m sl σ) : ∀ own : List Nat, SRel K G m (wipeS sl own) (wipe σ own)
  | [] => s
  | v :: vs => by
    have ih := wipe_rel s vs
    simp only [wipeS]
    unfold wipe
    rw [setS_eq]
    refine ⟨by simpa using ih.len, fun i x e => ?_⟩
    by_cases h : v = i
    · subst h
      rw [List.getElem?_set] at e
      simp only [if_true] at e
      split at e <;> cases e
    · rw [List.getElem?_set_ne h] at e ⊢
      exact ih.at_ i x e
mutual
def patIn (own : List Nat) : Pat → Bool
  | .nm i => own.contains i
  | .tp ps => patsIn own ps
def patsIn (own : List Nat) : List Pat → Bool
  | [] => true
  | p :: ps => patIn own p && patsIn own ps
end
theorem wipe_set {σ : L2.St} {i : Nat} {v : Option V} : ∀ {own : List Nat}, i ∈ own → wipe (σ.set i v) own = wipe σ own
  | [], h => by simp at h
  | w :: ws, h => by
    unfold wipe
    by_cases e : i ∈ ws
    · rw [wipe_set e]
    · have e2 : i = w := by
        rcases List.mem_cons.mp h with h | h
        · exact h
        · exact absurd h e
      subst e2
      have go : ∀ ws : List Nat, i ∉ ws → (wipe (σ.set i v) ws).set i none = (wipe σ ws).set i none := by
        intro ws
        induction ws with
        | nil => intro _; simp [wipe]
        | cons u us ih =>
          intro hu
          unfold wipe
          simp only [List.mem_cons, not_or] at hu
          rw [List.set_comm _ _ (fun z => hu.1 z.symm), List.set_comm _ _ (fun z => hu.1 z.symm), ih hu.2]
      exact go ws e
mutual
/-- the targets of a comprehension are its own names -/
theorem gP_wipe {K : PySem.W.Frag} {own : List Nat} : ∀ (p : Pat) (x : V) (σ : L2.St) (H : Hp) (Q : L2.St → Hp → Prop), patIn own p = true → gP K p x σ H Q → gP K p x σ H fun σ' H' => wipe σ' own = wipe σ own ∧ Q σ' H'
  | .nm i, x, σ, H, Q, h, q => by
    simp only [patIn] at h
    exact ⟨wipe_set (List.contains_iff_mem.mp h), q⟩
  | .tp ps, x, σ, H, Q, h, q => by
    simp only [patIn] at h
    rcases q with ⟨a, xs, h1, h2, h3, q⟩ | ⟨a, xs, h1, h2, h3, q⟩
    · exact .inl ⟨a, xs, h1, h2, h3, gPs_wipe ps xs σ H Q h q⟩
    · exact .inr ⟨a, xs, h1, h2, h3, gPs_wipe ps xs σ H Q h q⟩
theorem gPs_wipe {K : PySem.W.Frag} {own : List Nat} : ∀ (ps : List Pat) (xs : List V) (σ : L2.St) (H : Hp) (Q : L2.St → Hp → Prop), patsIn own ps = true → gPs K ps xs σ H Q → gPs K ps xs σ H fun σ' H' => wipe σ' own = wipe σ own ∧ Q σ' H'
  | [], xs, σ, H, Q, h, q => ⟨q.1, rfl, q.2⟩
  | p :: ps, xs, σ, H, Q, h, q => by
    simp only [patsIn, Bool.and_eq_true] at h
    obtain ⟨v, r, e, q⟩ := q
    refine ⟨v, r, e, ?_⟩
    have z := gP_wipe (own := own) p v σ H _ h.1 q
    refine gP_mono p v σ H _ _ (fun σ' H' z => ?_) z
    have y := gPs_wipe (own := own) ps r σ' H' Q h.2 z.2
    rw [z.1] at y
    exact y
theorem gP_mono {K : PySem.W.Frag} : ∀ (p : Pat) (x : V) (σ : L2.St) (H : Hp) (Q Q' : L2.St → Hp → Prop), (∀ σ H, Q σ H → Q' σ H) → gP K p x σ H Q → gP K p x σ H Q'
  | .nm i, x, σ, H, Q, Q', h, q => h _ _ q
  | .tp ps, x, σ, H, Q, Q', h, q => by
    rcases q with ⟨a, xs, h1, h2, h3, q⟩ | ⟨a, xs, h1, h2, h3, q⟩
    · exact .inl ⟨a, xs, h1, h2, h3, gPs_mono ps xs σ H Q Q' h q⟩
    · exact .inr ⟨a, xs, h1, h2, h3, gPs_mono ps xs σ H Q Q' h q⟩
theorem gPs_mono {K : PySem.W.Frag} : ∀ (ps : List Pat) (xs : List V) (σ : L2.St) (H : Hp) (Q Q' : L2.St → Hp → Prop), (∀ σ H, Q σ H → Q' σ H) → gPs K ps xs σ H Q → gPs K ps xs σ H Q'
  | [], xs, σ, H, Q, Q', h, q => ⟨q.1, h _ _ q.2⟩
  | p :: ps, xs, σ, H, Q, Q', h, q => by
    obtain ⟨v, r, e, q⟩ := q
    exact ⟨v, r, e, gP_mono p v σ H _ _ (fun σ' H' z => gPs_mono ps r σ' H' Q Q' h z) q⟩
end
end DL
namespace DL
open PySem PySem.Spec PyProof.Rows L2
theorem wipe_off {τ : L2.St} {v : Nat} : ∀ {vs : List Nat}, v ∉ vs → wipe (τ.set v none) vs = (wipe τ vs).set v none
  | [], _ => rfl
  | u :: us, h => by
    simp only [List.mem_cons, not_or] at h
    unfold wipe
    rw [wipe_off h.2, List.set_comm _ _ h.1]
theorem wipe_idem (σ : L2.St) : ∀ vs : List Nat, wipe (wipe σ vs) vs = wipe σ vs
  | [] => rfl
  | v :: vs => by
    have ih := wipe_idem σ vs
    show (wipe ((wipe σ vs).set v none) vs).set v none = (wipe σ vs).set v none
    by_cases h : v ∈ vs
    · rw [wipe_set h, ih]
    · rw [wipe_off h, ih, List.set_set]
abbrev WN : L2.WX := fun _ _ _ _ => False
/-- one item of a comprehension -/
def stepF2 (fe : DE) (fc : Option DE) (sl1 : Slots) (T : Tab) (k : Option Val → Tab → Prop) : Prop := match fc with
    | none => fe sl1 T (fun v T2 => k (some v) T2) (fun _ _ => False)
    | some fc => fc sl1 T (fun t T1 => truW T1 t fun b => if b = true then fe sl1 T1 (fun v T2 => k (some v) T2) (fun _ _ => False) else k none T1) (fun _ _ => False)
def stepF (own : List Nat) (fe : DE) (p : Pat) (fc : Option DE) (sl : Slots) (x : Val) (T : Tab) (k : Option Val → Tab → Prop) : Prop :=
  patW p x (wipeS sl own) T fun sl1 => stepF2 fe fc sl1 T k
theorem stepF_eq {own : List Nat} {fe : DE} {p : Pat} {fc : Option DE} {sl : Slots} {x : Val} {T : Tab} {k : Option Val → Tab → Prop} (h : stepF own fe p fc sl x T k) :
  patW p x (wipeS sl own) T fun sl1 => stepF2 fe fc sl1 T k := h
def finF (live : Bool) (Q : VC) (ys : List Val) (T : Tab) : Prop :=
  match live with
  | true => Q (.ob T.length) (T ++ [.lst ys])
  | false => match dats ys with
    | some ds => Q (.d (.list ds)) T
    | none => False
def compF (own : List Nat) (fe : DE) (p : Pat) (fi : DI) (fc : Option DE) (live : Bool) : DE := fun sl T Q X =>
  fi sl T (fun xs src T1 => compW src (stepF own fe p fc sl) xs [] T1 (finF live Q)) X
def ttOf (K : PySem.W.Frag) : Option DE → TT
  | none => tYes
  | some fc => LT K WN fc
theorem tYes_then {A B : Hp → Prop} {σ : L2.St} {H : Hp} (h : A H) : tYes σ H (fun b H3 => if b = true then A H3 else B H3) := by unfold tYes; simpa using h
theorem compW_mono {src : Option (Nat × List Val)} {step : Val → Tab → (Option Val → Tab → Prop) → Prop} (hs : ∀ x T (k k' : Option Val → Tab → Prop), (∀ o T, k o T → k' o T) → step x T k → step x T k') {k k' : List Val → Tab → Prop} (h : ∀ ys T, k ys T → k' ys T) :
    ∀ (xs ys : List Val) (T : Tab), compW src step xs ys T k → compW src step xs ys T k'
  | [], ys, T, q => ⟨q.1, h _ _ q.2⟩
  | x :: r, ys, T, q => by
    simp only [compW] at q ⊢
    refine ⟨q.1, hs _ _ _ _ (fun o T1 z => ?_) q.2⟩
    cases o with
    | some v => exact ⟨z.1, compW_mono hs h _ _ _ z.2⟩
    | none => exact compW_mono hs h _ _ _ z
mutual
theorem patW_mono {T : Tab} : ∀ (p : Pat) (v : Val) (sl : Slots) (k k' : Slots → Prop), (∀ s, k s → k' s) → patW p v sl T k → patW p v sl T k'
  | .nm i, v, sl, k, k', h, q => by simp only [patW] at q ⊢; exact h _ q
  | .tp ps, v, sl, k, k', h, q => by
    simp only [patW] at q ⊢
    split at q
    · exact ⟨q.1, patsW_mono ps _ sl k k' h q.2⟩
    · exact ⟨q.1, patsW_mono ps _ sl k k' h q.2⟩
    · exact q
theorem patsW_mono {T : Tab} : ∀ (ps : List Pat) (vs : List Val) (sl : Slots) (k k' : Slots → Prop), (∀ s, k s → k' s) → patsW ps vs sl T k → patsW ps vs sl T k'
  | [], vs, sl, k, k', h, q => by
    simp only [patsW] at q ⊢
    split at q
    · exact h _ q
    · exact q
  | p :: ps, vs, sl, k, k', h, q => by
    simp only [patsW] at q ⊢
    split at q
    · exact patW_mono p _ sl _ _ (fun s q => patsW_mono ps _ s k k' h q) q
    · exact q
end
theorem stepF_mono {own : List Nat} {fe : DE} {p : Pat} {fc : Option DE} {sl : Slots} (me : Mono fe) (mc : ∀ f, fc = some f → Mono f) (x : Val) (T : Tab) (k k' : Option Val → Tab → Prop) (h : ∀ o T, k o T → k' o T) (q : stepF own fe p fc sl x T k) : stepF own fe p fc sl x T k' := by
  unfold stepF stepF2 at q ⊢
  refine patW_mono p x _ _ _ (fun s q => ?_) q
  cases fc with
  | none => exact me _ _ _ _ _ _ (fun v T q => h _ _ q) (fun _ _ q => q) q
  | some f =>
    refine mc f rfl _ _ _ _ _ _ (fun v T q => truW_mono (fun b q => ?_) q) (fun _ _ q => q) q
    cases b with
    | true => exact me _ _ _ _ _ _ (fun v T q => h _ _ q) (fun _ _ q => q) q
    | false => exact h _ _ q
theorem finF_mono {live : Bool} {Q Q' : VC} (h : ∀ v T, Q v T → Q' v T) (ys : List Val) (T : Tab) (q : finF live Q ys T) : finF live Q' ys T := by
  unfold finF at q ⊢
  cases live with
  | true => exact h _ _ q
  | false =>
    simp only at q ⊢
    split at q
    · exact h _ _ q
    · exact q
/-- a list that stands apart becomes a live object, or is frozen -/
theorem WRel.adopt {K : PySem.W.Frag} {G H : Hp} {m : Fp} {T : Tab} {D : Addr} {vs : List V} {ys : List Val} (w : WRel K G H m T) (hD : H D = some (.lst vs)) (hG : G D = none) (hm : D ∉ m.flatten) (l : VRels K G m ys vs) : WRel K G H (m ++ [[D]]) (T ++ [.lst ys]) where
  dat := w.dat
  tb := w.tb
  sub := w.sub
  len := by simp [w.len]
  nd := by
    rw [List.flatten_append, List.nodup_append]
    refine ⟨w.nd, by simp, fun a h b h' => ?_⟩
    simp at h'
    subst h'
    exact fun e => hm (e ▸ h)
  al := fun a h => by
    rw [List.flatten_append, List.mem_append] at h
    rcases h with h | h
    · exact w.al a h
    · simp at h; subst h; exact ⟨_, hD, (lst_free vs).1⟩
  ob := fun k o' e => by
    by_cases hk : k < T.length
    · rw [List.getElem?_append_left hk] at e
      obtain ⟨fp, h1, q⟩ := w.ob k o' e
      exact ⟨fp, by rw [List.getElem?_append_left (by rw [w.len]; exact hk)]; exact h1, q.stay (Sub.refl G) ⟨[[D]], rfl⟩ (fun a h g => g) fun a h u e _ => e⟩
    · rw [List.getElem?_append_right (by omega)] at e
      have hk' : k = T.length := by
        have := (List.getElem?_eq_some_iff.mp e).1
        simp at this
        omega
      subst hk'
      simp at e
      subst e
      refine ⟨[D], ?_, D, vs, rfl, hG, hD, VRels.mono (Sub.refl _) ⟨[[D]], rfl⟩ l⟩
      rw [List.getElem?_append_right (by rw [w.len]; exact Nat.le_refl _)]
      simp [w.len]
theorem WRel.settle {K : PySem.W.Frag} {G H : Hp} {m : Fp} {T : Tab} {D : Addr} {vs : List V} (w : WRel K G H m T) (hD : H D = some (.lst vs)) (hG : G D = none) (hm : D ∉ m.flatten) : WRel K (upd G D (.lst vs)) H m T where
  dat := dat_upd w.dat (by intro _ z; cases z)
  tb := w.tb
  sub := fun b u e => by
    by_cases z : b = D
    · subst z; rw [upd_same] at e; rw [hD]; exact e
    · rw [upd_ne z] at e; exact w.sub b u e
  len := w.len
  nd := w.nd
  al := w.al
  ob := fun k o e => by
    obtain ⟨fp, h1, q⟩ := w.ob k o e
    refine ⟨fp, h1, q.stay (sub_upd hG) (MSub.refl m) (fun a h g => ?_) fun a h u e _ => e⟩
    have ne : a ≠ D := fun z => hm (z ▸ mem_flat h1 h)
    rw [upd_ne ne]; exact g
/-- the list apart is written -/
theorem WRel.apart {K : PySem.W.Frag} {G H : Hp} {m : Fp} {T : Tab} {D : Addr} {o : HO} (w : WRel K G H m T) (hG : G D = none) (hm : D ∉ m.flatten) (ht : LamX.Tabs (tbOf K) (upd H D o)) : WRel K G (upd H D o) m T where
  dat := w.dat
  tb := ht
  sub := fun b u e => by
    have ne : b ≠ D := fun z => by subst z; rw [hG] at e; cases e
    rw [upd_ne ne]; exact w.sub b u e
  len := w.len
  nd := w.nd
  al := fun a h => by
    have ne : a ≠ D := fun z => hm (z ▸ h)
    exact (w.al a h).upd ne
  ob := fun k ob e => by
    obtain ⟨fp, h1, q⟩ := w.ob k ob e
    refine ⟨fp, h1, q.stay (Sub.refl G) (MSub.refl m) (fun a h g => g) fun a h u e _ => ?_⟩
    have ne : a ≠ D := fun z => hm (z ▸ mem_flat h1 h)
    rw [upd_ne ne]; exact e
theorem tabs_upd {K : PySem.W.Frag} {H : Hp} {D : Addr} {vs us : List V} (hD : H D = some (.lst vs)) (t : LamX.Tabs (tbOf K) H) : LamX.Tabs (tbOf K) (upd H D (.lst us)) := fun p hp => by
  obtain ⟨ps, h1, h2, h3⟩ := t p hp
  refine ⟨ps, ?_, h2, fun pos cv hc => ?_⟩
  · rw [upd_ne (ne_of h1 hD (fun z => by cases z))]; exact h1
  · obtain ⟨c, e1, e2⟩ := h3 pos cv hc
    exact ⟨c, e1, by rw [upd_ne (ne_of e2 hD (fun z => codeO_lst z.symm))]; exact e2⟩
theorem Ext.apart {K : PySem.W.Frag} {G H G' H' : Hp} {m m' : Fp} {D : Addr} {vs us : List V} (e : Ext K G H m G' H' m') (n : H D = none) (hD : H' D = some (.lst vs)) : Ext K G H m G' (upd H' D (.lst us)) m' where
  sub := e.sub
  ms := e.ms
  keep := fun a o h g t => by rw [upd_ne (ne_of_none h n)]; exact e.keep a o h g t
  stay := fun a h => by
    have ne : a ≠ D := fun z => not_lv n (z ▸ h)
    exact (e.stay a h).upd ne
  keepG := e.keepG
  new := e.new
  tabs := fun t => tabs_upd hD (e.tabs t)
theorem Ext.settle {K : PySem.W.Frag} {G H G' H' : Hp} {m m' : Fp} {D : Addr} {o : HO} (e : Ext K G H m G' H' m') (n : H D = none) (g : G' D = none) : Ext K G H m (upd G' D o) H' m' where
  sub := e.sub.trans (sub_upd g)
  ms := e.ms
  keep := e.keep
  stay := e.stay
  keepG := fun a h q z => by
    have ne : a ≠ D := fun z => not_lv n (z ▸ h)
    rw [upd_ne ne]; exact e.keepG a h q z
  new := e.new
  tabs := e.tabs
theorem Ext.adopt {K : PySem.W.Frag} {G H G' H' : Hp} {m m' : Fp} {D : Addr} (e : Ext K G H m G' H' m') (n : H D = none) : Ext K G H m G' H' (m' ++ [[D]]) where
  sub := e.sub
  ms := e.ms.trans ⟨[[D]], rfl⟩
  keep := e.keep
  stay := e.stay
  keepG := e.keepG
  new := fun a h q => by
    rw [List.flatten_append, List.mem_append] at h
    rcases h with h | h
    · exact e.new a h q
    · simp at h; subst h; exact not_lv n
  tabs := e.tabs
/-- D stands apart behind a step -/
theorem apart_step {K : PySem.W.Frag} {G H G' H' : Hp} {m m' : Fp} {D : Addr} {vs : List V} (e : Ext K G H m G' H' m') (hD : H D = some (.lst vs)) (hG : G D = none) (hm : D ∉ m.flatten) : H' D = some (.lst vs) ∧ G' D = none ∧ D ∉ m'.flatten :=
  ⟨e.keep D _ hD hm (lst_free vs).1, e.keepG D ⟨_, hD, (lst_free vs).1⟩ hm hG, fun z => e.new D z hm ⟨_, hD, (lst_free vs).1⟩⟩
section
variable {X : Cx} {W : L2.WX} {tg iter elt : Expr} {ifs : List Expr} {scope : Scope} {own : List (Str × Nat)} {fe : DE} {fi : DI} {fc : Option DE} {p : Pat} {pos : Pos} {live : Bool}
theorem lc_main {σ : L2.St} {H : Hp} {Q : VK} (hi : MonoI fi) (me : Mono fe) (mc : ∀ f, fc = some f → Mono f) (hp : patIn (own.map (·.2)) p = true)
    (q : LE X.K W (compF (own.map (·.2)) fe p fi fc live) σ H Q) : tLc (LI X.K W fi) (gP X.K p) (ttOf X.K fc) (LE X.K WN fe) (own.map (·.2)) σ H Q := by
  obtain ⟨G, m, sl, T, s, w, q⟩ := q
  refine ⟨G, m, sl, T, s, w, hi _ _ _ _ _ _ (fun xs src T1 q G1 H1 m1 J e1 w1 it D hD => ?_) (fun e T' q => q) q⟩
  generalize hown : own.map (·.2) = vs at *
  refine ⟨fun i mm H2 => mm = xs.length - i ∧ i ≤ xs.length ∧ ∃ G2 m2 T2 ys us, Ext X.K G1 H1 m1 G2 H2 m2 ∧ WRel X.K G2 H2 m2 T2 ∧ H2 D = some (.lst us) ∧ G2 D = none ∧ D ∉ m2.flatten ∧ VRels X.K G2 m2 ys us ∧
    compW src (stepF vs fe p fc sl) (xs.drop i) ys T2 (finF live fun v T' => ∀ G' H' m' x, Ext X.K G H m G' H' m' → WRel X.K G' H' m' T' → VRel X.K G' m' v x → Q x H'), ⟨xs.length, by simp, Nat.zero_le _, G1, m1, T1, [], [], ?_, ?_, upd_same, w1.gnone hD, w1.notin hD, .nil, by simpa using q⟩, ?_⟩
  · have k : ∀ a u, H1 a = some u → upd H1 D (.lst []) a = some u := fun a u e => by rw [upd_ne (ne_of_none e hD)]; exact e
    exact .of_new (Sub.refl _) (MSub.refl _) (fun a u e _ => k a u e) (fun a h => h.upd fun z => not_lv hD (z ▸ h)) (fun a _ _ g => g) (fun a h g => absurd h g) fun a u e _ => k a u e
  · exact w1.apart (w1.gnone hD) (w1.notin hD) (tabs_new hD w1.tb)
  · rintro i mm H2 ⟨rfl, hi', G2, m2, T2, ys, us, e2, w2, hD2, gD2, mD2, l2, q2⟩
    by_cases hlt : i < xs.length
    · have ed : xs.drop i = xs[i] :: xs.drop (i + 1) := List.drop_eq_getElem_cons hlt
      rw [ed] at q2
      simp only [compW] at q2
      obtain ⟨st, q2⟩ := q2
      obtain ⟨go, yl⟩ := (it G2 H2 m2 T2 e2.fr w2 st).1 i _ (List.getElem?_eq_getElem hlt)
      refine .inr ⟨go, _, fun H' z => ⟨xs.length - (i + 1), by omega, z⟩, fun v H3 y => ?_⟩
      obtain ⟨G3, e3, w3, r3⟩ := yl v H3 y
      obtain ⟨hD3, gD3, mD3⟩ := apart_step e3 hD2 gD2 mD2
      have s3 : SRel X.K G3 m2 (wipeS sl vs) (wipe σ vs) := (wipe_rel s vs).ext ((e1.trans e2).trans e3)
      have q2 := stepF_eq q2
      have z := pat_ok w3 p _ v _ _ _ (fun σ' H' => H' = H3 ∧ ∃ sl', SRel X.K G3 m2 sl' σ' ∧ stepF2 fe fc sl' T2 _) r3 s3 q2 fun sl' σ' s' k => ⟨rfl, sl', s', k⟩
      have z2 := gP_wipe (own := vs) p v (wipe σ vs) H3 _ hp z
      refine gP_mono p v (wipe σ vs) H3 _ _ (fun σ' H' z => ?_) z2
      obtain ⟨ew, rfl, sl', s', k⟩ := z
      rw [wipe_idem] at ew
      refine ⟨ew, ?_⟩
      -- the element is made and stored
      have elem : ∀ (G4 H4 : Hp) (m4 : Fp) (T4 : Tab), Ext X.K G3 H' m2 G4 H4 m4 → WRel X.K G4 H4 m4 T4 →
          fe sl' T4 (fun v T2 => ys.length < sizeLine ∧ compW src (stepF vs fe p fc sl) (xs.drop (i + 1)) (ys ++ [v]) T2 (finF live fun v T' => ∀ G' H' m' x, Ext X.K G H m G' H' m' → WRel X.K G' H' m' T' → VRel X.K G' m' v x → Q x H')) (fun _ _ => False) →
          LE X.K WN fe σ' H4 fun y H5 => ∃ acc, H5 D = some (.lst acc) ∧ acc.length < sizeLine ∧ (xs.length - (i + 1) = xs.length - (i + 1) ∧ i + 1 ≤ xs.length ∧ ∃ G2 m2 T2 ys us, Ext X.K G1 H1 m1 G2 (upd H5 D (.lst (acc ++ [y]))) m2 ∧ WRel X.K G2 (upd H5 D (.lst (acc ++ [y]))) m2 T2 ∧ (upd H5 D (.lst (acc ++ [y]))) D = some (.lst us) ∧ G2 D = none ∧ D ∉ m2.flatten ∧ VRels X.K G2 m2 ys us ∧
            compW src (stepF vs fe p fc sl) (xs.drop (i + 1)) ys T2 (finF live fun v T' => ∀ G' H' m' x, Ext X.K G H m G' H' m' → WRel X.K G' H' m' T' → VRel X.K G' m' v x → Q x H')) := by
        intro G4 H4 m4 T4 e4 w4 q4
        refine LE.intro me (s'.ext e4) w4 q4 (fun yv T5 G5 H5 m5 yy q5 e5 w5 r5 => ?_) (fun _ _ _ _ _ _ _ z => z.elim)
        obtain ⟨hD5, gD5, mD5⟩ := apart_step (e4.trans e5) hD3 gD3 mD3
        refine ⟨us, hD5, by rw [← Paired.length l2]; exact q5.1, rfl, hlt, G5, m5, T5, ys ++ [yv], us ++ [yy], ?_, w5.apart gD5 mD5 (tabs_upd hD5 w5.tb), upd_same, gD5, mD5, ?_, q5.2⟩
        · exact (((e2.trans e3).trans e4).trans e5).apart hD hD5
        · exact VRels.app (l2.mono ((e3.sub.trans e4.sub).trans e5.sub) ((e3.ms.trans e4.ms).trans e5.ms)) (.cons r5 .nil)
      cases fc with
      | none =>
        rw [show ttOf X.K none = tYes from rfl]
        unfold stepF2 at k
        refine tYes_then ?_
        exact elem G3 H' m2 T2 (Ext.refl _ _ _) w3 k
      | some f =>
        unfold stepF2 at k
        refine LT.intro (mc f rfl) s' w3 k (fun t T4 q => truW_mono (fun b q G4 H4 m4 e4 w4 => ?_) q) (fun _ _ _ _ _ _ _ z => z.elim)
        cases b with
        | true =>
          rw [if_pos rfl] at q ⊢
          exact elem G4 H4 m4 T4 e4 w4 q
        | false =>
          rw [if_neg Bool.false_ne_true] at q ⊢
          obtain ⟨hD4, gD4, mD4⟩ := apart_step e4 hD3 gD3 mD3
          exact ⟨rfl, hlt, G4, m4, T4, ys, us, (e2.trans e3).trans e4, w4, hD4, gD4, mD4, l2.mono (e3.sub.trans e4.sub) (e3.ms.trans e4.ms), q⟩
    · have ei : i = xs.length := by omega
      subst ei
      rw [List.drop_length] at q2
      simp only [compW] at q2
      refine .inl ⟨(it G2 H2 m2 T2 e2.fr w2 q2.1).2 _ (Nat.le_refl _), ?_⟩
      have q2 := q2.2
      unfold finF at q2
      cases live with
      | true => exact q2 G2 H2 (m2 ++ [[D]]) _ (e1.trans (e2.adopt hD)) (w2.adopt hD2 gD2 mD2 l2) (vrel_last w2.len)
      | false =>
        simp only at q2
        cases e : dats ys with
        | none => rw [e] at q2; exact q2.elim
        | some ds =>
          rw [e] at q2
          exact q2 (upd G2 D (.lst us)) H2 m2 _ (e1.trans (e2.settle hD gD2)) (w2.settle hD2 gD2 mD2) (rp_list upd_same ((dats_rel e l2).upd gD2))
end
end DL
namespace DL
open PySem PySem.Spec PyProof.Rows L2
section
variable {X : Cx} {W : L2.WX} {tg iter elt : Expr} {ifs : List Expr} {scope : Scope} {own : List (Str × Nat)} {fe : DE} {fi : DI} {fc : Option DE} {p : Pat} {pos : Pos} {live : Bool}
theorem comp_mono (hi : MonoI fi) (me : Mono fe) (mc : ∀ f, fc = some f → Mono f) {own : List Nat} : Mono (compF own fe p fi fc live) := fun sl T Q Q' X X' hq hx q =>
  hi _ _ _ _ _ _ (fun xs src T1 q => compW_mono (fun x T k k' h q => stepF_mono me mc x T k k' h q) (fun ys T q => finF_mono hq ys T q) _ _ _ q) hx q
theorem dpe_comp (hc : X.calm = true) (hN : X.N.Nodup) (hi : DPI X W tg iter fi) (ok : BlkOk X.N X.env.scope scope own) (hp : patIn (own.map (·.2)) p = true)
    (hg : ∀ (s : Shared) (H : Hp) (C : Addr) (cl : List (Str × Addr)) (fp : List Addr), PG (X.blk s H scope (compEnvC scope cl C X.env) fp) tg (gP X.K p)) (ht : ∀ (s : Shared) (H : Hp) (C : Addr) (cl : List (Str × Addr)) (fp : List Addr), PTs (X.blk s H scope (compEnvC scope cl C X.env) fp) ifs (ttOf X.K fc))
    (he : ∀ (s : Shared) (H : Hp) (C : Addr) (cl : List (Str × Addr)) (fp : List Addr), PE (X.blk s H scope (compEnvC scope cl C X.env) fp) elt (LE X.K WN fe)) (me : Mono fe) (mc : ∀ f, fc = some f → Mono f) (hs : ∀ x, foldedSetIterable iter X.env x = pure x) :
    DPE X W (.ListComp elt [⟨tg, iter, ifs, 0⟩] scope pos) (compF (own.map (·.2)) fe p fi fc live) :=
  ⟨comp_mono hi.mono me mc, PE.imp (pe_lc hc hN hi.pi ok hg ht he hs) fun σ H Q q => lc_main hi.mono me mc hp q⟩
end
/-! ### statements -/
def DEnds.le (D D' : DEnds) : Prop := (∀ sl T, D.nx sl T → D'.nx sl T) ∧ (∀ v T, D.rt v T → D'.rt v T) ∧ (∀ sl T, D.bk sl T → D'.bk sl T) ∧ (∀ sl T, D.ct sl T → D'.ct sl T) ∧ ∀ e T, D.xc e T → D'.xc e T
theorem DEnds.le.refl (D : DEnds) : D.le D := ⟨fun _ _ h => h, fun _ _ h => h, fun _ _ h => h, fun _ _ h => h, fun _ _ h => h⟩
def MonoD (f : DS) : Prop := ∀ D D' sl T, DEnds.le D D' → f D sl T → f D' sl T
theorem MonoD.ap {f : DS} (m : MonoD f) {D D' : DEnds} {sl : Slots} {T : Tab} (q : f D sl T) (h : DEnds.le D D') : f D' sl T := m D D' sl T h q
/-- what stands behind: over the ground G H m -/
def lift (K : PySem.W.Frag) (W : L2.WX) (D : Ends) (G H : Hp) (m : Fp) : DEnds where
  nx := fun sl T => ∀ G' H' m' σ', Ext K G H m G' H' m' → WRel K G' H' m' T → SRel K G' m' sl σ' → D.nx σ' H'
  rt := fun v T => ∀ G' H' m' x, Ext K G H m G' H' m' → WRel K G' H' m' T → VRel K G' m' v x → D.rt x H'
  bk := fun sl T => ∀ G' H' m' σ', Ext K G H m G' H' m' → WRel K G' H' m' T → SRel K G' m' sl σ' → D.bk σ' H'
  ct := fun sl T => ∀ G' H' m' σ', Ext K G H m G' H' m' → WRel K G' H' m' T → SRel K G' m' sl σ' → D.ct σ' H'
  xc := fun e T => ∀ G' H' m' c d σ', Ext K G H m G' H' m' → WRel K G' H' m' T → XRel K G' e c d → W c d σ' H'
def LS (K : PySem.W.Frag) (W : L2.WX) (f : DS) : TS := fun D σ H => ∃ G m sl T, SRel K G m sl σ ∧ WRel K G H m T ∧ f (lift K W D G H m) sl T
structure DPS (X : Cx) (W : L2.WX) (st : Stmt) (f : DS) : Prop where
  mono : MonoD f
  ps : PS X st (LS X.K W f)
structure DPSs (X : Cx) (W : L2.WX) (st : List Stmt) (f : DS) : Prop where
  mono : MonoD f
  ps : PSs X st (LS X.K W f)
theorem PS.imp {X : Cx} {e : Stmt} {t t' : TS} (h : PS X e t) (i : ∀ D σ H, t' D σ H → t D σ H) : PS X e t' := ⟨fun pins s σ H Q I q => h.run pins s σ H Q I (i Q σ H q)⟩
theorem PSs.imp {X : Cx} {e : List Stmt} {t t' : TS} (h : PSs X e t) (i : ∀ D σ H, t' D σ H → t D σ H) : PSs X e t' := ⟨fun pins s σ H Q I q => h.run pins s σ H Q I (i Q σ H q)⟩
theorem lift_ext {K : PySem.W.Frag} {W : L2.WX} {D : Ends} {G H G1 H1 : Hp} {m m1 : Fp} (e : Ext K G H m G1 H1 m1) : DEnds.le (lift K W D G H m) (lift K W D G1 H1 m1) :=
  ⟨fun sl T q G' H' m' σ' x w s => q G' H' m' σ' (e.trans x) w s, fun v T q G' H' m' y x w s => q G' H' m' y (e.trans x) w s, fun sl T q G' H' m' σ' x w s => q G' H' m' σ' (e.trans x) w s,
    fun sl T q G' H' m' σ' x w s => q G' H' m' σ' (e.trans x) w s, fun v T q G' H' m' c d σ' x w s => q G' H' m' c d σ' (e.trans x) w s⟩
section
variable {X : Cx} {W : L2.WX} {a b c : Expr} {fa fb fc : DE} {pos : Pos} {st : Stmt} {sts : List Stmt} {f g : DS}
theorem dss_nil : DPSs X W [] (fun D sl T => D.nx sl T) := by
  refine ⟨fun D D' sl T h q => h.1 _ _ q, PSs.imp pss_nil fun D σ H q => ?_⟩
  obtain ⟨G, m, sl, T, s, w, q⟩ := q
  exact q G H m σ (Ext.refl _ _ _) w s
theorem dss_cons (h1 : DPS X W st f) (h2 : DPSs X W sts g) : DPSs X W (st :: sts) (fun D sl T => f { D with nx := fun sl T => g D sl T } sl T) := by
  refine ⟨fun D D' sl T h q => h1.mono.ap q ⟨fun sl T q => h2.mono _ _ _ _ h q, h.2⟩, PSs.imp (pss_cons h1.ps h2.ps) fun D σ H q => ?_⟩
  obtain ⟨G, m, sl, T, s, w, q⟩ := q
  exact ⟨G, m, sl, T, s, w, h1.mono.ap q ⟨fun sl T q G' H' m' σ' e w' s' => ⟨G', m', sl, T, s', w', h2.mono _ _ _ _ (lift_ext e) q⟩, fun _ _ h => h, fun _ _ h => h, fun _ _ h => h, fun _ _ h => h⟩⟩
theorem dps_pass : DPS X W (.Pass pos) (fun D sl T => D.nx sl T) := by
  refine ⟨fun D D' sl T h q => h.1 _ _ q, PS.imp ps_pass fun D σ H q => ?_⟩
  obtain ⟨G, m, sl, T, s, w, q⟩ := q
  exact q G H m σ (Ext.refl _ _ _) w s
theorem dps_doc {x j pos pos'} : DPS X W (.Expr (.Constant (.str x) j pos) pos') (fun D sl T => D.nx sl T) := by
  refine ⟨fun D D' sl T h q => h.1 _ _ q, PS.imp ps_doc fun D σ H q => ?_⟩
  obtain ⟨G, m, sl, T, s, w, q⟩ := q
  exact q G H m σ (Ext.refl _ _ _) w s
theorem dps_brk : DPS X W (.Break pos) (fun D sl T => D.bk sl T) := by
  refine ⟨fun D D' sl T h q => h.2.2.1 _ _ q, PS.imp ps_break fun D σ H q => ?_⟩
  obtain ⟨G, m, sl, T, s, w, q⟩ := q
  exact q G H m σ (Ext.refl _ _ _) w s
theorem dps_cnt : DPS X W (.Continue pos) (fun D sl T => D.ct sl T) := by
  refine ⟨fun D D' sl T h q => h.2.2.2.1 _ _ q, PS.imp ps_continue fun D σ H q => ?_⟩
  obtain ⟨G, m, sl, T, s, w, q⟩ := q
  exact q G H m σ (Ext.refl _ _ _) w s
theorem dps_retN : DPS X W (.Return none pos) (fun D _ T => D.rt (.d .none) T) := by
  refine ⟨fun D D' sl T h q => h.2.1 _ _ q, PS.imp ps_retN fun D σ H q => ?_⟩
  obtain ⟨G, m, sl, T, s, w, q⟩ := q
  exact q G H m _ (Ext.refl _ _ _) w (by simp [VRel, Rp])
theorem dps_ret (ha : DPE X W a fa) : DPS X W (.Return (some a) pos) (fun D sl T => fa sl T (fun v T1 => D.rt v T1) D.xc) := by
  refine ⟨fun D D' sl T h q => ha.mono _ _ _ _ _ _ (fun v T q => h.2.1 _ _ q) h.2.2.2.2 q, PS.imp (ps_ret ha.pe) fun D σ H q => ?_⟩
  obtain ⟨G, m, sl, T, s, w, q⟩ := q
  exact LE.intro ha.mono s w q (fun v T' G' H' m' x q e w r => q G' H' m' x e w r) fun e T' G' H' m' c d q x w r => q G' H' m' c d σ x w r
theorem dps_exp (ha : DPE X W a fa) (hs : swapsWith a none pos.line X.env = pure false) : DPS X W (.Expr a pos) (fun D sl T => fa sl T (fun _ T1 => D.nx sl T1) D.xc) := by
  refine ⟨fun D D' sl T h q => ha.mono _ _ _ _ _ _ (fun v T q => h.1 _ _ q) h.2.2.2.2 q, PS.imp (ps_expr ha.pe hs) fun D σ H q => ?_⟩
  obtain ⟨G, m, sl, T, s, w, q⟩ := q
  exact LE.intro ha.mono s w q (fun v T' G' H' m' x q e w r => q G' H' m' σ e w (s.ext e)) fun e T' G' H' m' c d q x w r => q G' H' m' c d σ x w r
def asgF (p : Pat) (fa : DE) : DS := fun D sl T => fa sl T (fun v T1 => patW p v sl T1 fun sl1 => D.nx sl1 T1) D.xc
theorem asg_mono {p : Pat} (ma : Mono fa) : MonoD (asgF p fa) := fun D D' sl T h q => ma _ _ _ _ _ _ (fun v T q => patW_mono p v sl _ _ (fun sl q => h.1 _ _ q) q) h.2.2.2.2 q
theorem asg_main {K : PySem.W.Frag} {p : Pat} (ma : Mono fa) {D : Ends} {σ : L2.St} {H : Hp} (q : LS K W (asgF p fa) D σ H) : tAsg (LE K W fa) (gP K p) D σ H := by
  obtain ⟨G, m, sl, T, s, w, q⟩ := q
  refine LE.intro ma s w q (fun v T' G' H' m' x q e w r => ?_) fun e T' G' H' m' c d q x w r => q G' H' m' c d σ x w r
  exact pat_ok w p v x sl σ _ _ r (s.ext e) q fun sl' σ' s' q => q G' H' m' σ' e w s'
theorem dps_asg {tg : Expr} {p : Pat} (ha : DPE X W a fa) (hg : PG X tg (gP X.K p)) (hs : swapsWithSole [tg] a pos.line X.env = pure false) (hw : swappedStores [tg] a X.env = pure none) (h1 : (assignEach [tg] X.env).map (·.2) = [assign tg X.env]) :
    DPS X W (.Assign [tg] a pos) (asgF p fa) := ⟨asg_mono ha.mono, PS.imp (ps_asg ha.pe hg hs hw h1) fun D σ H q => asg_main ha.mono q⟩
/-- name = [..], swapped -/
theorem dps_asgC {tg iter elt : Expr} {ifs : List Expr} {scope : Scope} {own : List (Str × Nat)} {fe : DE} {fi : DI} {fc : Option DE} {p : Pat} {cpos : Pos} {live : Bool} {i : Nat} {y : Str} {py : Pos} (hc : X.calm = true) (hN : X.N.Nodup) (hi : DPI X W tg iter fi) (ok : BlkOk X.N X.env.scope scope own) (hp : patIn (own.map (·.2)) p = true)
    (hg : ∀ (s : Shared) (H : Hp) (C : Addr) (cl : List (Str × Addr)) (fp : List Addr), PG (X.blk s H scope (compEnvC scope cl C X.env) fp) tg (gP X.K p)) (ht : ∀ (s : Shared) (H : Hp) (C : Addr) (cl : List (Str × Addr)) (fp : List Addr), PTs (X.blk s H scope (compEnvC scope cl C X.env) fp) ifs (ttOf X.K fc))
    (he : ∀ (s : Shared) (H : Hp) (C : Addr) (cl : List (Str × Addr)) (fp : List Addr), PE (X.blk s H scope (compEnvC scope cl C X.env) fp) elt (LE X.K WN fe)) (me : Mono fe) (mc : ∀ f, fc = some f → Mono f) (hs : ∀ x, foldedSetIterable iter X.env x = pure x)
    (hy : X.N[i]? = some y) (hyl : X.env.scope.names.lookup y = some .local) (hsw : swapsWith (.ListComp elt [⟨tg, iter, ifs, 0⟩] scope cpos) (some (.Name y py)) pos.line X.env = pure true) :
    DPS X W (.Assign [.Name y py] (.ListComp elt [⟨tg, iter, ifs, 0⟩] scope cpos) pos) (asgF (.nm i) (compF (own.map (·.2)) fe p fi fc live)) := by
  have m := comp_mono (p := p) (live := live) hi.mono me mc (own := own.map (·.2))
  refine ⟨asg_mono m, PS.imp (ps_setLc hc hN hy hyl hsw hi.pi ok hg ht he hs) fun D σ H q => ?_⟩
  exact lc_main hi.mono me mc hp (asg_main m q)
theorem LT.of {K : PySem.W.Frag} {D : Ends} {σ : L2.St} {H G : Hp} {m : Fp} {sl : Slots} {T : Tab} {Q : Bool → Hp → Prop} {Dq : Bool → Tab → Prop} (mc : Mono fc) (s : SRel K G m sl σ) (w : WRel K G H m T) (q : fc sl T (fun v T1 => truW T1 v fun t => Dq t T1) (lift K W D G H m).xc)
    (hQ : ∀ b T' G' H' m', Dq b T' → Ext K G H m G' H' m' → WRel K G' H' m' T' → Q b H') : LT K W fc σ H Q :=
  LT.intro mc s w q (fun v T1 q => truW_mono (fun b q G' H' m' e w => hQ b T1 G' H' m' q e w) q) fun e T' G' H' m' c d q x w r => q G' H' m' c d σ x w r
theorem dps_ite {sa sb : List Stmt} (mc : Mono fc) (hc : DPT X W c fc) (ha : DPSs X W sa f) (hb : DPSs X W sb g) : DPS X W (.If c sa sb pos) (fun D sl T => fc sl T (fun v T1 => truW T1 v fun t => if t = true then f D sl T1 else g D sl T1) D.xc) := by
  refine ⟨fun D D' sl T h q => mc _ _ _ _ _ _ (fun v T q => truW_mono (fun b q => ?_) q) h.2.2.2.2 q, PS.imp (ps_if hc.pt ha.ps hb.ps) fun D σ H q => ?_⟩
  · cases b with
    | true => exact ha.mono _ _ _ _ h q
    | false => exact hb.mono _ _ _ _ h q
  · obtain ⟨G, m, sl, T, s, w, q⟩ := q
    refine LT.of mc s w q fun b T' G' H' m' q e w' => ?_
    cases b with
    | true => exact ⟨G', m', sl, T', s.ext e, w', ha.mono _ _ _ _ (lift_ext e) q⟩
    | false => exact ⟨G', m', sl, T', s.ext e, w', hb.mono _ _ _ _ (lift_ext e) q⟩
def whlF (fc : DE) (f : DS) : DS := fun D sl T => ∃ n, whileW (fun sl T k => fc sl T (fun v T1 => truW T1 v fun t => k t T1) D.xc) f n D sl T
theorem whileW_mono (mc : Mono fc) (mf : MonoD f) : ∀ (n : Nat) (D D' : DEnds) (sl : Slots) (T : Tab), DEnds.le D D' → whileW (fun sl T k => fc sl T (fun v T1 => truW T1 v fun t => k t T1) D.xc) f n D sl T → whileW (fun sl T k => fc sl T (fun v T1 => truW T1 v fun t => k t T1) D'.xc) f n D' sl T
  | 0, D, D', sl, T, h, q => q
  | n + 1, D, D', sl, T, h, q => by
    simp only [whileW] at q ⊢
    refine mc _ _ _ _ _ _ (fun v T q => truW_mono (fun b q => ?_) q) h.2.2.2.2 q
    cases b with
    | true => exact mf.ap q ⟨fun sl T q => whileW_mono mc mf n D D' sl T h q, h.2.1, fun sl T q => h.1 _ _ q, fun sl T q => whileW_mono mc mf n D D' sl T h q, h.2.2.2.2⟩
    | false => exact h.1 _ _ q
theorem dps_whl {body : List Stmt} (hp : PassesOwn (model X.prog X.w) X.A X.env X.xe) (mc : Mono fc) (hc : DPT X W c fc) (hb : DPSs X W body f) : DPS X W (.While c body [] pos) (whlF fc f) := by
  refine ⟨fun D D' sl T h ⟨n, q⟩ => ⟨n, whileW_mono mc hb.mono n D D' sl T h q⟩, PS.imp (ps_while hp hc.pt hb.ps) fun D σ H q => ?_⟩
  obtain ⟨G, m, sl, T, s, w, n, q⟩ := q
  refine ⟨fun n σ1 H1 => ∃ G1 m1 sl1 T1, Ext X.K G H m G1 H1 m1 ∧ SRel X.K G1 m1 sl1 σ1 ∧ WRel X.K G1 H1 m1 T1 ∧ whileW (fun sl T k => fc sl T (fun v T1 => truW T1 v fun t => k t T1) (lift X.K W D G H m).xc) f n (lift X.K W D G H m) sl1 T1,
    ⟨n, G, m, sl, T, Ext.refl _ _ _, s, w, q⟩, ?_⟩
  rintro n σ1 H1 ⟨G1, m1, sl1, T1, e1, s1, w1, q1⟩
  cases n with
  | zero => exact q1.elim
  | succ n =>
    simp only [whileW] at q1
    refine LT.intro mc s1 w1 q1 (fun v T1 q => truW_mono (fun b q G2 H2 m2 e2 w2 => ?_) q) fun e T' G' H' m' c d q x w r => q G' H' m' c d σ1 (e1.trans x) w r
    cases b with
    | true =>
      rw [if_pos rfl] at q ⊢
      refine ⟨_, fun σ' H' z => ⟨n, Nat.lt_succ_self n, z⟩, G2, m2, sl1, _, s1.ext e2, w2, hb.mono.ap q ⟨?_, ?_, ?_, ?_, ?_⟩⟩
      · exact fun sl T q G' H' m' σ' x w s => ⟨G', m', sl, T, (e1.trans e2).trans x, s, w, q⟩
      · exact fun v T q G' H' m' y x w r => q G' H' m' y ((e1.trans e2).trans x) w r
      · exact fun sl T q G' H' m' σ' x w s => q G' H' m' σ' ((e1.trans e2).trans x) w s
      · exact fun sl T q G' H' m' σ' x w s => ⟨G', m', sl, T, (e1.trans e2).trans x, s, w, q⟩
      · exact fun e T q G' H' m' c d σ' x w r => q G' H' m' c d σ' ((e1.trans e2).trans x) w r
    | false =>
      rw [if_neg Bool.false_ne_true] at q ⊢
      exact q G2 H2 m2 σ1 (e1.trans e2) w2 (s1.ext e2)
def loopF (p : Pat) (fi : DI) (f : DS) : DS := fun D sl T => fi sl T (fun xs src T1 => loopW src (fun x D sl T => patW p x sl T fun sl1 => f D sl1 T) xs D sl T1) D.xc
theorem loopW_mono {src : Option (Nat × List Val)} {step : Val → DS} (ms : ∀ x, MonoD (step x)) : ∀ (xs : List Val) (D D' : DEnds) (sl : Slots) (T : Tab), DEnds.le D D' → loopW src step xs D sl T → loopW src step xs D' sl T
  | [], D, D', sl, T, h, q => ⟨q.1, h.1 _ _ q.2⟩
  | x :: r, D, D', sl, T, h, q => ⟨q.1, (ms x).ap q.2 ⟨fun sl T q => loopW_mono ms r D D' sl T h q, h.2.1, fun sl T q => h.1 _ _ q, fun sl T q => loopW_mono ms r D D' sl T h q, h.2.2.2.2⟩⟩
theorem step_monoD {p : Pat} (mf : MonoD f) (x : Val) : MonoD (fun D sl T => patW p x sl T fun sl1 => f D sl1 T) := fun D D' sl T h q => patW_mono p x sl _ _ (fun sl1 q => mf _ _ _ _ h q) q
theorem dps_loop {tg iter : Expr} {fi : DI} {p : Pat} {body : List Stmt} (hp : PassesOwn (model X.prog X.w) X.A X.env X.xe) (hc : X.calm = true) (hi : DPI X W tg iter fi) (hg : PG X tg (gP X.K p)) (hb : DPSs X W body f) (hs : ∀ x, foldedSetIterable iter X.env x = pure x) :
    DPS X W (.For tg iter body [] pos) (loopF p fi f) := by
  refine ⟨fun D D' sl T h q => hi.mono _ _ _ _ _ _ (fun xs src T q => loopW_mono (fun x => step_monoD hb.mono x) xs D D' sl T h q) h.2.2.2.2 q, PS.imp (ps_for hp hc hi.pi hg hb.ps hs) fun D σ H q => ?_⟩
  obtain ⟨G, m, sl, T, s, w, q⟩ := q
  refine ⟨G, m, sl, T, s, w, hi.mono _ _ _ _ _ _ (fun xs src T1 q G1 H1 m1 J e1 w1 it => ?_) (fun e T' q G' H' m' c d x w r => q G' H' m' c d σ x w r) q⟩
  refine ⟨fun i mm σ2 H2 => mm = xs.length - i ∧ i ≤ xs.length ∧ ∃ G2 m2 sl2 T2, Ext X.K G1 H1 m1 G2 H2 m2 ∧ SRel X.K G2 m2 sl2 σ2 ∧ WRel X.K G2 H2 m2 T2 ∧ loopW src (fun x D sl T => patW p x sl T fun sl1 => f D sl1 T) (xs.drop i) (lift X.K W D G H m) sl2 T2,
    ⟨xs.length, by simp, Nat.zero_le _, G1, m1, sl, T1, Ext.refl _ _ _, s.ext e1, w1, by simpa using q⟩, ?_⟩
  rintro i mm σ2 H2 ⟨rfl, hi', G2, m2, sl2, T2, e2, s2, w2, q2⟩
  by_cases hlt : i < xs.length
  · have ed : xs.drop i = xs[i] :: xs.drop (i + 1) := List.drop_eq_getElem_cons hlt
    rw [ed] at q2
    obtain ⟨stl, q2⟩ := q2
    obtain ⟨go, yl⟩ := (it G2 H2 m2 T2 e2.fr w2 stl).1 i _ (List.getElem?_eq_getElem hlt)
    refine .inr ⟨go, _, fun σ' H' z => ⟨xs.length - (i + 1), by omega, rfl, hlt, z⟩, fun v H3 y => ?_⟩
    obtain ⟨G3, e3, w3, r3⟩ := yl v H3 y
    refine pat_ok w3 p _ v _ _ _ _ r3 (s2.ext e3) q2 fun sl4 σ4 s4 q4 => ⟨G3, m2, sl4, T2, s4, w3, hb.mono.ap q4 ⟨?_, ?_, ?_, ?_, ?_⟩⟩
    · exact fun sl T q G' H' m' σ' x w s => ⟨G', m', sl, T, (e2.trans e3).trans x, s, w, q⟩
    · exact fun v T q G' H' m' y x w r => q G' H' m' y (((e1.trans e2).trans e3).trans x) w r
    · exact fun sl T q G' H' m' σ' x w s => q G' H' m' σ' (((e1.trans e2).trans e3).trans x) w s
    · exact fun sl T q G' H' m' σ' x w s => ⟨G', m', sl, T, (e2.trans e3).trans x, s, w, q⟩
    · exact fun e T q G' H' m' c d σ' x w r => q G' H' m' c d σ' (((e1.trans e2).trans e3).trans x) w r
  · have ei : i = xs.length := by omega
    subst ei
    rw [List.drop_length] at q2
    exact .inl ⟨(it G2 H2 m2 T2 e2.fr w2 q2.1).2 _ (Nat.le_refl _), q2.2 G2 H2 m2 σ2 (e1.trans e2) w2 s2⟩
/-- a, b = x, y -/
def parF (ps : List Nat) (fs : DA) : DS := fun D sl T => fs sl T (fun vs T1 => match parW ps vs sl with
  | some sl1 => D.nx sl1 T1
  | none => False) D.xc
theorem par_mono {fs : DA} {ps : List Nat} (ms : MonoA fs) : MonoD (parF ps fs) := fun D D' sl T h q => ms _ _ _ _ _ _ (fun vs T q => by
  revert q
  cases parW ps vs sl with
  | none => exact fun q => q
  | some sl1 => exact fun q => h.1 _ _ q) h.2.2.2.2 q
theorem SRel.setS {K : PySem.W.Frag} {G : Hp} {m : Fp} {sl : Slots} {σ : L2.St} (s : SRel K G m sl σ) {x : Val} {v : V} (r : VRel K G m x v) (i : Nat) : SRel K G m (setS sl i (some x)) (σ.set i (some v)) := by rw [setS_eq]; exact s.set r i
theorem dps_par2 {fs : DA} {i j : Nat} {x y : Str} {px py pt : Pos} {kt k2 pt2} (ha : DPA X W [a, b] fs) (hc : X.calm = true) (hN : X.N.Nodup) (hi : X.N[i]? = some x) (hj : X.N[j]? = some y) (hij : i ≠ j)
    (hx : X.env.scope.names.lookup x = some .local) (hy : X.env.scope.names.lookup y = some .local) 
    (hw : swappedStores [.Tuple [.Name x px, .Name y py] kt pt] (.Tuple [a, b] k2 pt2) X.env = pure (some [x, y]))
    (hs : swapsWithSole [.Tuple [.Name x px, .Name y py] kt pt] (.Tuple [a, b] k2 pt2) pos.line X.env = pure false) :
    DPS X W (.Assign [.Tuple [.Name x px, .Name y py] kt pt] (.Tuple [a, b] k2 pt2) pos) (parF [i, j] fs) := by
  refine ⟨par_mono ha.mono, PS.imp (ps_par hc hN hi hj hij hx hy ha.pa hw hs) fun D σ H q => ?_⟩
  obtain ⟨G, m, sl, T, s, w, q⟩ := q
  refine LAr.intro ha.mono s w q (fun vs T1 G1 H1 m1 xs q e1 w1 r1 => ?_) fun e T' G' H' m' c d q x w r => q G' H' m' c d σ x w r
  cases r1 with
  | nil => exact q.elim
  | cons r1 t =>
    cases t with
    | nil => exact q.elim
    | cons r2 t =>
      cases t with
      | cons _ _ => exact q.elim
      | nil => exact ⟨_, _, rfl, q G1 H1 m1 _ e1 w1 (((s.ext e1).setS r1 i).setS r2 j)⟩
theorem dps_par3 {fs : DA} {i j l : Nat} {x y z : Str} {px py pz pt : Pos} {kt k2 pt2} (ha : DPA X W [a, b, c] fs) (hc : X.calm = true) (hN : X.N.Nodup) (hi : X.N[i]? = some x) (hj : X.N[j]? = some y) (hl : X.N[l]? = some z) (hij : i ≠ j) (hil : i ≠ l) (hjl : j ≠ l)
    (hx : X.env.scope.names.lookup x = some .local) (hy : X.env.scope.names.lookup y = some .local) (hz : X.env.scope.names.lookup z = some .local)
    (hw : swappedStores [.Tuple [.Name x px, .Name y py, .Name z pz] kt pt] (.Tuple [a, b, c] k2 pt2) X.env = pure (some [x, y, z]))
    (hs : swapsWithSole [.Tuple [.Name x px, .Name y py, .Name z pz] kt pt] (.Tuple [a, b, c] k2 pt2) pos.line X.env = pure false) :
    DPS X W (.Assign [.Tuple [.Name x px, .Name y py, .Name z pz] kt pt] (.Tuple [a, b, c] k2 pt2) pos) (parF [i, j, l] fs) := by
  refine ⟨par_mono ha.mono, PS.imp (ps_par3 hc hN hi hj hl hij hil hjl hx hy hz ha.pa hw hs) fun D σ H q => ?_⟩
  obtain ⟨G, m, sl, T, s, w, q⟩ := q
  refine LAr.intro ha.mono s w q (fun vs T1 G1 H1 m1 xs q e1 w1 r1 => ?_) fun e T' G' H' m' c d q x w r => q G' H' m' c d σ x w r
  cases r1 with
  | nil => exact q.elim
  | cons r1 t =>
    cases t with
    | nil => exact q.elim
    | cons r2 t =>
      cases t with
      | nil => exact q.elim
      | cons r3 t =>
        cases t with
        | cons _ _ => exact q.elim
        | nil => exact ⟨_, _, _, rfl, q G1 H1 m1 _ e1 w1 ((((s.ext e1).setS r1 i).setS r2 j).setS r3 l)⟩
end
end DL
namespace DL
open PySem PySem.Spec PyProof.Rows L2
section
variable {X : Cx} {W : L2.WX} {a b c i o k d : Expr} {fa fb fc : DE} {pos : Pos} {es : List Expr} {fs : DA}
/-! ### dicts -/
abbrev KVs (K : PySem.W.Frag) (G : Hp) (m : Fp) : List (Key × Val) → List (Key × V) → Prop := Paired (fun p q => p.1 = q.1 ∧ VRel K G m p.2 q.2)
theorem keyV_ok {K : PySem.W.Frag} {G : Hp} {m : Fp} {v : Val} {x : V} {k : Key} (r : VRel K G m v x) (e : keyV v = some k) : x = kV k := by
  unfold keyV at e
  split at e
  · cases e; simp [VRel, Rp] at r; exact r
  · cases e; simp [VRel, Rp] at r; exact r
  · cases e
theorem kvG_ok {K : PySem.W.Frag} {G : Hp} {m : Fp} {j : Key} : ∀ {kvs : List (Key × Val)} {ks : List (Key × V)}, KVs K G m kvs ks → match kvG kvs j with
    | some v => ∃ x, valV ks j = some x ∧ VRel K G m v x
    | none => valV ks j = none
  | _, _, .nil => by simp [kvG, valV_nil]
  | (k, v) :: r, (k', x) :: s, .cons h t => by
    obtain ⟨rfl, h2⟩ := h
    have ih := kvG_ok (j := j) t
    simp only [kvG]
    by_cases e : k = j
    · subst e
      rw [if_pos rfl, valV_pos rfl]
      exact ⟨x, rfl, h2⟩
    · rw [if_neg e, valV_neg e]
      exact ih
theorem kv_any {K : PySem.W.Frag} {G : Hp} {m : Fp} {j : Key} : ∀ {kvs : List (Key × Val)} {ks : List (Key × V)}, KVs K G m kvs ks → (kvs.any fun kv => decide (kv.1 = j)) = (ks.any fun kv => decide (kv.1 = j))
  | _, _, .nil => rfl
  | (k, v) :: r, (k', x) :: s, .cons h t => by
    obtain ⟨rfl, h2⟩ := h
    simp only [List.any_cons, kv_any t]
theorem kv_map {K : PySem.W.Frag} {G : Hp} {m : Fp} {j : Key} {v : Val} {x : V} (r : VRel K G m v x) : ∀ {kvs : List (Key × Val)} {ks : List (Key × V)}, KVs K G m kvs ks →
    KVs K G m (kvs.map (fun kv => if kv.1 = j then (kv.1, v) else kv)) (ks.map (fun kv => if kv.1 = j then (kv.1, x) else kv))
  | _, _, .nil => .nil
  | (k, v') :: q, (k', x') :: s, .cons h t => by
    obtain ⟨rfl, h2⟩ := h
    have ih := kv_map (j := j) r t
    simp only [List.map_cons]
    refine .cons ?_ ih
    by_cases e : k = j
    · rw [if_pos e, if_pos e]; exact ⟨rfl, r⟩
    · rw [if_neg e, if_neg e]; exact ⟨rfl, h2⟩
theorem kv_app {K : PySem.W.Frag} {G : Hp} {m : Fp} : ∀ {kvs qs : List (Key × Val)} {ks js : List (Key × V)}, KVs K G m kvs ks → KVs K G m qs js → KVs K G m (kvs ++ qs) (ks ++ js)
  | _, _, _, _, .nil, q => q
  | _, _, _, _, .cons r t, q => .cons r (kv_app t q)
theorem kvP_ok {K : PySem.W.Frag} {G : Hp} {m : Fp} {j : Key} {v : Val} {x : V} {kvs : List (Key × Val)} {ks : List (Key × V)} (h : KVs K G m kvs ks) (r : VRel K G m v x) : KVs K G m (kvP kvs j v) (putK ks j x) := by
  unfold kvP putK
  rw [kv_any h]
  split
  · exact kv_map r h
  · exact kv_app h (.cons ⟨rfl, r⟩ .nil)
theorem kvs_mono {K : PySem.W.Frag} {G G' : Hp} {m m' : Fp} (h : Sub G G') (hm : MSub m m') {kvs : List (Key × Val)} {ks : List (Key × V)} (r : KVs K G m kvs ks) : KVs K G' m' kvs ks :=
  Paired.imp (fun _ _ q => ⟨q.1, q.2.mono h hm⟩) r
theorem dicAt_ok {K : PySem.W.Frag} {G H : Hp} {m : Fp} {T : Tab} {v : Val} {x : V} {q : Nat → List (Key × Val) → Prop} (w : WRel K G H m T) (r : VRel K G m v x) (h : dicAt T v q) :
    ∃ n kvs a ks, v = .ob n ∧ getT T n = some (.dic kvs) ∧ x = .ref a ∧ m[n]? = some [a] ∧ G a = none ∧ H a = some (.dK ks) ∧ KVs K G m kvs ks ∧ q n kvs := by
  unfold dicAt at h
  split at h
  · rename_i n
    split at h
    · rename_i kvs e0
      obtain ⟨fp, hm, a, ks, hf, hG, hH, hv⟩ := w.ob n (.dic kvs) (by rw [← getT_eq]; exact e0)
      obtain ⟨b, s, hm', rfl⟩ := r
      rw [hm] at hm'; subst hf; cases hm'
      exact ⟨n, kvs, a, ks, rfl, e0, rfl, hm, hG, hH, hv, h⟩
    · exact h.elim
  · exact h.elim
theorem dicAt_mono {T : Tab} {v : Val} {q q' : Nat → List (Key × Val) → Prop} (f : ∀ n kvs, q n kvs → q' n kvs) (h : dicAt T v q) : dicAt T v q' := by
  unfold dicAt at h ⊢
  split at h
  · split at h
    · exact f _ _ h
    · exact h
  · exact h
def dgtW (v u : Val) (T : Tab) (Q : VC) : Prop := dicAt T v fun _ kvs => match keyV u with
    | some k => match kvG kvs k with
      | some x => Q x T
      | none => False
    | none => False
theorem dgtW_mono {v u : Val} {T : Tab} {Q Q' : VC} (h : ∀ v T, Q v T → Q' v T) (q : dgtW v u T Q) : dgtW v u T Q' := dicAt_mono (fun n kvs q => by
  revert q
  cases keyV u with
  | none => exact fun q => q
  | some k =>
    simp only
    cases kvG kvs k with
    | none => exact fun q => q
    | some x => exact fun q => h _ _ q) q
theorem dpe_dgt (hu : X.A.units + 1 < cLine) (ha : DPE X W a fa) (hi : DPE X W i fb) (hs : NoSl i) : DPE X W (.Subscript a i pos) (fun sl T Q X => fa sl T (fun v T1 => fb sl T1 (fun u T2 => dgtW v u T2 Q) X) X) := by
  refine ⟨fun sl T Q Q' X X' hq hx q => ha.mono _ _ _ _ _ _ (fun v T1 q => hi.mono _ _ _ _ _ _ (fun u T2 q => dgtW_mono hq q) hx q) hx q, PE.imp (pe_dget hu ha.pe hi.pe hs) fun σ H Q q => ?_⟩
  obtain ⟨G, m, sl, T, s, w, q⟩ := q
  refine LE.intro ha.mono s w q (fun v T1 G1 H1 m1 x q e1 w1 r1 => ?_) fun e T' G' H' m' c d q x w r => q G' H' m' c d x w r
  refine LE.intro hi.mono (s.ext e1) w1 q (fun u T2 G2 H2 m2 y q e2 w2 r2 => ?_) fun e T' G' H' m' c d q x w r => q G' H' m' c d (e1.trans x) w r
  obtain ⟨n, kvs, p, ks, rfl, _, rfl, hm, hG, hH, hv, q⟩ := dicAt_ok w2 (r1.mono e2.sub e2.ms) q
  cases ek : keyV u with
  | none => rw [ek] at q; exact q.elim
  | some j =>
    rw [ek] at q
    simp only at q
    have g := kvG_ok (j := j) hv
    cases eg : kvG kvs j with
    | none => rw [eg] at q; exact q.elim
    | some z =>
      rw [eg] at q g
      obtain ⟨z', g1, g2⟩ := g
      exact ⟨p, z', rfl, .inl ⟨ks, j, .inl hH, keyV_ok r2 ek, g1.symm⟩, q G2 H2 m2 z' (e1.trans e2) w2 g2⟩
def kinW (neg : Bool) (u v : Val) (T : Tab) (Q : VC) : Prop := dicAt T v fun _ kvs => match keyV u with
    | some k => Q (.d (.bool (neg ^^ (kvG kvs k).isSome))) T
    | none => False
theorem kinW_mono {neg : Bool} {v u : Val} {T : Tab} {Q Q' : VC} (h : ∀ v T, Q v T → Q' v T) (q : kinW neg u v T Q) : kinW neg u v T Q' := dicAt_mono (fun n kvs q => by
  revert q
  cases keyV u with
  | none => exact fun q => q
  | some k => exact fun q => h _ _ q) q
theorem kin_main {neg : Bool} {X : Cx} {σ : L2.St} {H : Hp} {Q : VK} (ha : DPE X W k fa) (hd : DPE X W d fb) (q : LE X.K W (fun sl T Q X => fa sl T (fun u T1 => fb sl T1 (fun v T2 => kinW neg u v T2 Q) X) X) σ H Q) :
    LE X.K W fa σ H fun y H1 => LE X.K W fb σ H1 fun x H2 => ∃ a o, x = .ref a ∧ DGet H2 a y o ∧ Q (.bl (neg ^^ o.isSome)) H2 := by
  obtain ⟨G, m, sl, T, s, w, q⟩ := q
  refine LE.intro ha.mono s w q (fun v T1 G1 H1 m1 x q e1 w1 r1 => ?_) fun e T' G' H' m' c d q x w r => q G' H' m' c d x w r
  refine LE.intro hd.mono (s.ext e1) w1 q (fun u T2 G2 H2 m2 y q e2 w2 r2 => ?_) fun e T' G' H' m' c d q x w r => q G' H' m' c d (e1.trans x) w r
  obtain ⟨n, kvs, p, ks, rfl, _, rfl, hm, hG, hH, hv, q⟩ := dicAt_ok w2 r2 q
  cases ek : keyV v with
  | none => rw [ek] at q; exact q.elim
  | some j =>
    rw [ek] at q
    simp only at q
    have g := kvG_ok (j := j) hv
    have eo : (kvG kvs j).isSome = (valV ks j).isSome := by
      cases eg : kvG kvs j with
      | none => rw [eg] at g; simp only at g; rw [g]; rfl
      | some z => rw [eg] at g; obtain ⟨z', g1, _⟩ := g; rw [g1]; rfl
    refine ⟨p, valV ks j, rfl, .inl ⟨ks, j, .inl hH, keyV_ok (r1.mono e2.sub e2.ms) ek, rfl⟩, ?_⟩
    rw [← eo]
    exact q G2 H2 m2 _ (e1.trans e2) w2 (vrel_bool _)
theorem dpe_kin {neg : Bool} {p : CmpOp} (hp : p = if neg = true then .NotIn else .In) (hu : X.A.units + 1 < cLine) (ha : DPE X W k fa) (hd : DPE X W d fb) (hm : behindInMarks p d = false) :
    DPE X W (.Compare k [p] [d] pos) (fun sl T Q X => fa sl T (fun u T1 => fb sl T1 (fun v T2 => kinW neg u v T2 Q) X) X) := by
  refine ⟨fun sl T Q Q' X X' hq hx q => ha.mono _ _ _ _ _ _ (fun v T1 q => hd.mono _ _ _ _ _ _ (fun u T2 q => kinW_mono hq q) hx q) hx q, ?_⟩
  cases neg with
  | false =>
    rw [if_neg (by simp)] at hp
    subst hp
    exact PE.imp (pe_cmp (pc_din hu ha.pe hd.pe) hm) fun σ H Q q => by
      have z := kin_main (neg := false) ha hd q
      simp only [Bool.false_xor] at z
      exact z
  | true =>
    rw [if_pos rfl] at hp
    subst hp
    exact PE.imp (pe_cmp (pc_dnotin hu ha.pe hd.pe) hm) fun σ H Q q => by
      have z := kin_main (neg := true) ha hd q
      simp only [Bool.true_xor] at z
      exact z
theorem kinW_bool {neg : Bool} {u v : Val} {T : Tab} {Q : VC} (q : kinW neg u v T Q) : kinW neg u v T (fun z T' => ∃ b, z = .d (.bool b) ∧ Q (.d (.bool b)) T') := dicAt_mono (fun n kvs q => by
  revert q
  cases keyV u with
  | none => exact fun q => q
  | some k => exact fun q => ⟨_, rfl, q⟩) q
theorem dpt_kin {neg : Bool} {p : CmpOp} (hp : p = if neg = true then .NotIn else .In) (hu : X.A.units + 1 < cLine) (ha : DPE X W k fa) (hd : DPE X W d fb) (hm : behindInMarks p d = false) :
    DPT X W (.Compare k [p] [d] pos) (fun sl T Q X => fa sl T (fun u T1 => fb sl T1 (fun v T2 => kinW neg u v T2 Q) X) X) := by
  have key : ∀ (σ : L2.St) (H : Hp) (Q : Bool → Hp → Prop), LT X.K W (fun sl T Q X => fa sl T (fun u T1 => fb sl T1 (fun v T2 => kinW neg u v T2 Q) X) X) σ H Q →
      LE X.K W fa σ H fun y H1 => LE X.K W fb σ H1 fun x H2 => ∃ a o, x = .ref a ∧ DGet H2 a y o ∧ ∃ c, V.bl (neg ^^ o.isSome) = .bl c ∧ Q c H2 := by
    intro σ H Q q
    refine kin_main (Q := fun x H1 => ∃ c, x = .bl c ∧ Q c H1) ha hd ?_
    obtain ⟨G, m, sl, T, s, w, q⟩ := q
    refine ⟨G, m, sl, T, s, w, ha.mono _ _ _ _ _ _ (fun u T1 q => hd.mono _ _ _ _ _ _ (fun v T2 q => kinW_mono (fun z T' q => ?_) (kinW_bool q)) (fun _ _ q => q) q) (fun _ _ q => q) q⟩
    obtain ⟨b, rfl, q⟩ := q
    intro G' H' m' x e w' r
    simp [VRel, Rp] at r
    exact ⟨b, r, q G' H' m' e w'⟩
  refine ⟨?_⟩
  cases neg with
  | false =>
    rw [if_neg (by simp)] at hp
    subst hp
    exact PT.imp (pt_cmp (pc_din hu ha.pe hd.pe) hm) fun σ H Q q => by
      have z := key σ H Q q
      simp only [Bool.false_xor] at z
      exact z
  | true =>
    rw [if_pos rfl] at hp
    subst hp
    exact PT.imp (pt_cmp (pc_dnotin hu ha.pe hd.pe) hm) fun σ H Q q => by
      have z := key σ H Q q
      simp only [Bool.true_xor] at z
      exact z
def get2W (v u w : Val) (T : Tab) (Q : VC) : Prop := dicAt T v fun _ kvs => match keyV u with
    | some k => match kvG kvs k with
      | some x => Q x T
      | none => Q w T
    | none => False
theorem get2W_mono {v u w : Val} {T : Tab} {Q Q' : VC} (h : ∀ v T, Q v T → Q' v T) (q : get2W v u w T Q) : get2W v u w T Q' := dicAt_mono (fun n kvs q => by
  revert q
  cases keyV u with
  | none => exact fun q => q
  | some k =>
    simp only
    cases kvG kvs k with
    | none => exact fun q => h _ _ q
    | some x => exact fun q => h _ _ q) q
theorem dpe_get2 {apos cpos : Pos} (hu : X.A.units + 1 < cLine) (ho : DPE X W o fa) (hk : DPE X W k fb) (hd : DPE X W d fc) (m : M2 X o "get" apos k d cpos) :
    DPE X W (.Call (.Attribute o "get" apos) [k, d] [] cpos) (fun sl T Q X => fa sl T (fun v T1 => dicAt T1 v fun _ _ => fb sl T1 (fun u T2 => fc sl T2 (fun w T3 => get2W v u w T3 Q) X) X) X) := by
  refine ⟨fun sl T Q Q' X X' hq hx q => ho.mono _ _ _ _ _ _ (fun v T1 q => dicAt_mono (fun _ _ q => hk.mono _ _ _ _ _ _ (fun u T2 q => hd.mono _ _ _ _ _ _ (fun w T3 q => get2W_mono hq q) hx q) hx q) q) hx q, PE.imp (pe_dget2 hu ho.pe hk.pe hd.pe m) fun σ H Q q => ?_⟩
  obtain ⟨G, m, sl, T, s, w, q⟩ := q
  refine LE.intro ho.mono s w q (fun v T1 G1 H1 m1 x q e1 w1 r1 => ?_) fun e T' G' H' m' c d q x w r => q G' H' m' c d x w r
  obtain ⟨n, kvs, p, ks, rfl, _, rfl, hm, hG, hH, hv, q⟩ := dicAt_ok w1 r1 q
  refine ⟨p, rfl, .inl ⟨ks, .inl hH⟩, ?_⟩
  refine LE.intro hk.mono (s.ext e1) w1 q (fun u T2 G2 H2 m2 y q e2 w2 r2 => ?_) fun e T' G' H' m' c d q x w r => q G' H' m' c d (e1.trans x) w r
  refine LE.intro hd.mono (s.ext (e1.trans e2)) w2 q (fun dv T3 G3 H3 m3 z q e3 w3 r3 => ?_) fun e T' G' H' m' c d q x w r => q G' H' m' c d ((e1.trans e2).trans x) w r
  obtain ⟨n', kvs, p', ks, en, _, ep, hm, hG, hH, hv, q⟩ := dicAt_ok w3 ((r1.mono e2.sub e2.ms).mono e3.sub e3.ms) q
  cases ep
  cases ek : keyV u with
  | none => rw [ek] at q; exact q.elim
  | some j =>
    rw [ek] at q
    simp only at q
    have g := kvG_ok (j := j) hv
    refine ⟨valV ks j, .inl ⟨ks, j, .inl hH, keyV_ok (r2.mono e3.sub e3.ms) ek, rfl⟩, ?_⟩
    cases eg : kvG kvs j with
    | none => rw [eg] at q g; simp only at g; rw [g]; exact q G3 H3 m3 z ((e1.trans e2).trans e3) w3 r3
    | some y' =>
      rw [eg] at q g
      obtain ⟨z', g1, g2⟩ := g
      rw [g1]
      exact q G3 H3 m3 z' ((e1.trans e2).trans e3) w3 g2
theorem dk_free (ks : List (Key × V)) : (∀ ps, HO.dK ks ≠ .tbl ps) ∧ ∀ c q, HO.dK ks ≠ LamX.CodeO c q := ⟨fun ps z => (by cases z), fun c q z => by unfold LamX.CodeO at z; cases z⟩
/-- d[k] = v -/
def dputF (fo fi fe : DE) : DS := fun D sl T => fe sl T (fun v T1 => fo sl T1 (fun x T2 => fi sl T2 (fun y T3 => dicAt T3 x fun n kvs => match keyV y with
    | some k => kvs.length < sizeLine ∧ D.nx sl (setT T3 n (.dic (kvP kvs k v)))
    | none => False) D.xc) D.xc) D.xc
theorem dps_dput {pos' : Pos} (hu : X.A.units + 1 < cLine) (ho : DPE X W o fa) (hi : DPE X W i fb) (he : DPE X W c fc) (hs : swapsWith c (some (.Subscript o i pos')) pos.line X.env = pure false) :
    DPS X W (.Assign [.Subscript o i pos'] c pos) (dputF fa fb fc) := by
  refine ⟨fun D D' sl T h q => he.mono _ _ _ _ _ _ (fun v T1 q => ho.mono _ _ _ _ _ _ (fun x T2 q => hi.mono _ _ _ _ _ _ (fun y T3 q => dicAt_mono (fun n kvs q => ?_) q) h.2.2.2.2 q) h.2.2.2.2 q) h.2.2.2.2 q, PS.imp (ps_dput hu ho.pe hi.pe he.pe hs) fun D σ H q => ?_⟩
  · cases ek : keyV y with
    | none => simp only [ek] at q
    | some k =>
      simp only [ek] at q ⊢
      exact ⟨q.1, h.1 _ _ q.2⟩
  obtain ⟨G, m, sl, T, s, w, q⟩ := q
  refine LE.intro he.mono s w q (fun v T1 G1 H1 m1 x q e1 w1 r1 => ?_) fun e T' G' H' m' c d q x w r => q G' H' m' c d σ x w r
  refine LE.intro ho.mono (s.ext e1) w1 q (fun u T2 G2 H2 m2 y q e2 w2 r2 => ?_) fun e T' G' H' m' c d q x w r => q G' H' m' c d σ (e1.trans x) w r
  refine LE.intro hi.mono (s.ext (e1.trans e2)) w2 q (fun z T3 G3 H3 m3 zz q e3 w3 r3 => ?_) fun e T' G' H' m' c d q x w r => q G' H' m' c d σ ((e1.trans e2).trans x) w r
  obtain ⟨n, kvs, p, ks, rfl, eT, rfl, hm, hG, hH, hv, q⟩ := dicAt_ok w3 (r2.mono e3.sub e3.ms) q
  cases ek : keyV z with
  | none => rw [ek] at q; exact q.elim
  | some j =>
    rw [ek] at q
    have ry := keyV_ok r3 ek
    subst ry
    have e4 := Ext.setO (o := .dK (putK ks j x)) w3 hm hH (dk_free _)
    refine ⟨p, _, rfl, DPut.k hH (by rw [← Paired.length hv]; exact q.1), ?_⟩
    have w4 := w3.setO (o := .dK (putK ks j x)) (ob := .dic (kvP kvs j v)) hm hG ⟨p, _, rfl, hG, upd_same, kvP_ok hv ((r1.mono e2.sub e2.ms).mono e3.sub e3.ms)⟩ (e4.tabs w3.tb)
    rw [← setT_eq] at w4
    have e5 := ((e1.trans e2).trans e3).trans e4
    exact q.2 G3 _ m3 σ e5 w4 (s.ext e5)
/-! ### displays -/
theorem dpe_dct0 : DPE X W (.Dict [] [] pos) (fun _ T Q _ => Q (.d (.dict [])) T) := by
  refine ⟨fun sl T Q Q' X X' hq hx q => hq _ _ q, PE.imp pe_dnewK fun σ H Q q p hp => ?_⟩
  obtain ⟨G, m, sl, T, s, w, q⟩ := q
  refine q _ _ m _ (Ext.laid w hp) (w.laid hp) ?_
  simp only [VRel, Rp]
  exact ⟨p, [], rfl, upd_same, by simp [RpK]⟩
theorem WRel.pushD {K : PySem.W.Frag} {G H : Hp} {m : Fp} {T : Tab} (w : WRel K G H m T) {p : Addr} (n : H p = none) : WRel K G (upd H p (.dK [])) (m ++ [[p]]) (T ++ [.dic []]) :=
  w.push n ⟨p, [], rfl, w.gnone n, upd_same, .nil⟩
theorem dpe_dicO0 : DPE X W (.Dict [] [] pos) (fun _ T Q _ => Q (.ob T.length) (T ++ [.dic []])) := by
  refine ⟨fun sl T Q Q' X X' hq hx q => hq _ _ q, PE.imp pe_dnewK fun σ H Q q p hp => ?_⟩
  obtain ⟨G, m, sl, T, s, w, q⟩ := q
  exact q _ _ (m ++ [[p]]) _ (Ext.push w hp) (w.pushD hp) (vrel_last w.len)
theorem scr_rel {K : PySem.W.Frag} {G : Hp} {m : Fp} : ∀ ns : List Int, VRels K G m (ns.map fun i => .d (.int i)) (ns.map V.int)
  | [] => .nil
  | i :: ns => .cons (by simp [VRel, Rp]) (scr_rel ns)
/-! ### list(x), live -/
def mklF (fa : DE) : DE := fun sl T Q X => fa sl T (fun v T1 => itemsW T1 v fun xs _ => isStrV v = false ∧ Q (.ob T1.length) (T1 ++ [.lst xs])) X
theorem dpe_mkl {p : Pos} (ha : DPE X W a fa) (hg : Gl X "list") (hm : X.mg "list" = none) (hv : bootBuiltins "list" = some (.type "list")) (hb : bare1 a = true) : DPE X W (.Call (.Name "list" p) [a] [] pos) (mklF fa) := by
  refine ⟨fun sl T Q Q' X X' hq hx q => ha.mono _ _ _ _ _ _ (fun v T1 q => itemsW_mono (fun a b q => ⟨q.1, hq _ _ q.2⟩) q) hx q,
    PE.imp (pe_callTy call_list_of hg hm hv (pa_cons ha.pe pa_nil (starEach_bare hb)) (he := starEach_bare hb) (hpl := rfl)) fun σ H Q q => ?_⟩
  obtain ⟨G, m, sl, T, s, w, q⟩ := q
  refine LE.intro ha.mono s w q (fun v T1 G1 H1 m1 x q e1 w1 r1 => ?_) fun e T' G' H' m' c d q x w r => q G' H' m' c d x w r
  have fin : ∀ (p : Addr) (xs : List Val) (vs : List V), x = .ref p → (SqL X.K H1 p vs ∨ SqT X.K H1 p vs) → VRels X.K G1 m1 xs vs → (∀ G' H' m' y, Ext X.K G H m G' H' m' → WRel X.K G' H' m' (T1 ++ [.lst xs]) → VRel X.K G' m' (.ob T1.length) y → Q y H') →
      ∃ p ys, [x] = [.ref p] ∧ (SqL X.K H1 p ys ∨ SqT X.K H1 p ys) ∧ ∀ l, H1 l = none → Q (.ref l) (upd H1 l (.lst ys)) := by
    intro p xs vs ex hs l q
    subst ex
    refine ⟨p, vs, rfl, hs, fun n hn => ?_⟩
    refine q _ _ (m1 ++ [[n]]) _ (e1.trans (Ext.push w1 hn)) (w1.push hn ⟨n, vs, rfl, w1.gnone hn, upd_same, l.mono (Sub.refl _) ⟨[[n]], rfl⟩⟩) (vrel_last w1.len)
  unfold itemsW at q
  split at q
  · simp only [VRel, Rp] at r1
    obtain ⟨p, vs, rfl, h, l⟩ := r1
    exact fin p _ vs rfl (.inl (.inl (.inl (w1.sub _ _ h)))) (dv_rel l) q.2
  · simp only [VRel, Rp] at r1
    obtain ⟨p, vs, rfl, h, l⟩ := r1
    exact fin p _ vs rfl (.inr (w1.sub.sqT h)) (dv_rel l) q.2
  · exact absurd q.1 (by simp [isStrV])
  · split at q
    · rename_i n xs e0
      obtain ⟨p, vs, rfl, hm, _, hH, l⟩ := w1.lst e0 r1
      exact fin p xs vs rfl (.inl (.inl (.inl hH))) l q.2
    · exact q.elim
  · rename_i ns
    obtain ⟨p, rfl, h⟩ := r1
    exact fin p _ _ rfl (.inl (w1.sub.sqL h)) (scr_rel ns) q.2
  · exact q.elim
end
end DL
namespace DL
open PySem PySem.Spec PyProof.Rows L2
section
variable {K : PySem.W.Frag} {G H : Hp} {m : Fp} {T : Tab}
theorem WRel.adoptO {D : Addr} {o : HO} {ob : Ob} (w : WRel K G H m T) (hD : H D = some o) (hG : G D = none) (hm : D ∉ m.flatten) (r : ORel K G H (m ++ [[D]]) [D] ob) (hd : ∀ ps, o ≠ .tbl ps := by intro _ z; cases z) : WRel K G H (m ++ [[D]]) (T ++ [ob]) where
  dat := w.dat
  tb := w.tb
  sub := w.sub
  len := by simp [w.len]
  nd := by
    rw [List.flatten_append, List.nodup_append]
    refine ⟨w.nd, by simp, fun a h b h' => ?_⟩
    simp at h'
    subst h'
    exact fun e => hm (e ▸ h)
  al := fun a h => by
    rw [List.flatten_append, List.mem_append] at h
    rcases h with h | h
    · exact w.al a h
    · simp at h; subst h; exact ⟨_, hD, hd⟩
  ob := fun k o' e => by
    by_cases hk : k < T.length
    · rw [List.getElem?_append_left hk] at e
      obtain ⟨fp, h1, q⟩ := w.ob k o' e
      exact ⟨fp, by rw [List.getElem?_append_left (by rw [w.len]; exact hk)]; exact h1, q.stay (Sub.refl G) ⟨[[D]], rfl⟩ (fun a h g => g) fun a h u e _ => e⟩
    · rw [List.getElem?_append_right (by omega)] at e
      have hk' : k = T.length := by
        have := (List.getElem?_eq_some_iff.mp e).1
        simp at this
        omega
      subst hk'
      simp at e
      subst e
      exact ⟨[D], by rw [List.getElem?_append_right (by rw [w.len]; exact Nat.le_refl _)]; simp [w.len], r⟩
abbrev FreeO (o : HO) : Prop := (∀ ps, o ≠ .tbl ps) ∧ ∀ c q, o ≠ LamX.CodeO c q
theorem tabs_updO {H : Hp} {D : Addr} {o u : HO} (hD : H D = some o) (f : FreeO o) (t : LamX.Tabs (tbOf K) H) : LamX.Tabs (tbOf K) (upd H D u) := fun p hp => by
  obtain ⟨ps, h1, h2, h3⟩ := t p hp
  refine ⟨ps, ?_, h2, fun pos cv hc => ?_⟩
  · rw [upd_ne (ne_of h1 hD (fun z => f.1 ps z.symm))]; exact h1
  · obtain ⟨c, e1, e2⟩ := h3 pos cv hc
    exact ⟨c, e1, by rw [upd_ne (ne_of e2 hD (fun z => f.2 _ _ z.symm))]; exact e2⟩
theorem Ext.apartO {G' H' : Hp} {m' : Fp} {D : Addr} {o u : HO} (e : Ext K G H m G' H' m') (n : H D = none) (hD : H' D = some o) (f : FreeO o) : Ext K G H m G' (upd H' D u) m' where
  sub := e.sub
  ms := e.ms
  keep := fun a o h g t => by rw [upd_ne (ne_of_none h n)]; exact e.keep a o h g t
  stay := fun a h => by
    have ne : a ≠ D := fun z => not_lv n (z ▸ h)
    exact (e.stay a h).upd ne
  keepG := e.keepG
  new := e.new
  tabs := fun t => tabs_updO hD f (e.tabs t)
/-- an object is made that nobody knows -/
theorem Ext.apart0 (w : WRel K G H m T) {p : Addr} {o : HO} (n : H p = none) : Ext K G H m G (upd H p o) m := by
  have k : ∀ a u, H a = some u → upd H p o a = some u := fun a u e => by rw [upd_ne (ne_of_none e n)]; exact e
  exact .of_new (Sub.refl _) (MSub.refl _) (fun a u e _ => k a u e) (fun a h => h.upd fun z => not_lv n (z ▸ h)) (fun a _ _ g => g) (fun a h g => absurd h g) fun a u e _ => k a u e
theorem apart_stepO {G' H' : Hp} {m' : Fp} {D : Addr} {o : HO} (e : Ext K G H m G' H' m') (hD : H D = some o) (hG : G D = none) (hm : D ∉ m.flatten) (f : FreeO o) : H' D = some o ∧ G' D = none ∧ D ∉ m'.flatten :=
  ⟨e.keep D _ hD hm f.1, e.keepG D ⟨_, hD, f.1⟩ hm hG, fun z => e.new D z hm ⟨_, hD, f.1⟩⟩
end
/-! ### values one behind another -/
def seqF : List DE → DA
  | [] => fun _ T Q _ => Q [] T
  | fe :: r => fun sl T Q X => fe sl T (fun v T1 => seqF r sl T1 (fun vs T2 => Q (v :: vs) T2) X) X
inductive DPs (X : Cx) (W : L2.WX) : List (Option Expr) → List Expr → List Str → List DE → Prop where
  | nil : DPs X W [] [] [] []
  | cons {k : Str} {j : Nat} {p : Pos} {v : Expr} {fe : DE} {keys : List (Option Expr)} {vals : List Expr} {ks : List Str} {fes : List DE} (h : DPE X W v fe) (r : DPs X W keys vals ks fes) : DPs X W (some (.Constant (.str k) j p) :: keys) (v :: vals) (k :: ks) (fe :: fes)
def trsOf (K : PySem.W.Frag) (W : L2.WX) : List Str → List DE → List (TE × TE)
  | k :: ks, fe :: fes => (tC (.str k), LE K W fe) :: trsOf K W ks fes
  | _, _ => []
theorem DPs.pps {X : Cx} {W : L2.WX} {pos : Pos} {keys : List (Option Expr)} {vals : List Expr} {ks : List Str} {fes : List DE} (h : DPs X W keys vals ks fes) : PPs X pos keys vals (trsOf X.K W ks fes) := by
  induction h with
  | nil => exact pps_nil
  | cons h r ih => exact pps_cons pe_str h.pe ih
theorem DPs.lens {X : Cx} {W : L2.WX} {keys : List (Option Expr)} {vals : List Expr} {ks : List Str} {fes : List DE} (h : DPs X W keys vals ks fes) : keys.length = vals.length ∧ keys.length = ks.length ∧ keys.all (·.isSome) = true ∧ ∀ f ∈ fes, Mono f := by
  induction h with
  | nil => simp
  | cons h r ih =>
    refine ⟨by simp [ih.1], by simp [ih.2.1], by simp [ih.2.2.1], fun f hf => ?_⟩
    rcases List.mem_cons.mp hf with e | hf
    · subst e; exact h.mono
    · exact ih.2.2.2 f hf
theorem seqF_mono : ∀ {fes : List DE}, (∀ f ∈ fes, Mono f) → MonoA (seqF fes)
  | [], _ => fun sl T Q Q' X X' hq hx q => hq _ _ q
  | fe :: r, h => fun sl T Q Q' X X' hq hx q => h fe (by simp) _ _ _ _ _ _ (fun v T1 q => seqF_mono (fun f hf => h f (by simp [hf])) _ _ _ _ _ _ (fun vs T2 q => hq _ _ q) hx q) hx q
def zipV : List Str → List V → List (Key × V)
  | k :: ks, v :: vs => (.inr k, v) :: zipV ks vs
  | _, _ => []
theorem zip_rel {K : PySem.W.Frag} {G : Hp} {m : Fp} : ∀ {ks : List Str} {vs : List Val} {xs : List V}, VRels K G m vs xs → KVs K G m (zipK ks vs) (zipV ks xs)
  | [], _, _, _ => .nil
  | k :: ks, _, _, .nil => .nil
  | k :: ks, _, _, .cons r t => .cons ⟨rfl, r⟩ (zip_rel t)
theorem merge_new : ∀ (kvs acc : List (Key × V)), ((acc ++ kvs).map (·.1)).Nodup → mergeK acc kvs = acc ++ kvs
  | [], acc, _ => by simp [mergeK]
  | (k, v) :: r, acc, h => by
    have hk : valV acc k = none := by
      cases e : valV acc k with
      | none => rfl
      | some z =>
        unfold valV at e
        obtain ⟨p, hp, _⟩ := Option.map_eq_some_iff.mp e
        have h1 := List.mem_of_find?_eq_some hp
        have h2 := List.find?_some hp
        simp only [decide_eq_true_eq] at h2
        rw [List.map_append, List.nodup_append] at h
        exact absurd h2 (h.2.2 p.1 (List.mem_map.mpr ⟨p, h1, rfl⟩) k (by simp))
    show mergeK (putK acc k v) r = _
    rw [putK_new v hk, merge_new r _ (by simpa using h)]
    simp
theorem zipV_keys : ∀ {ks : List Str} {xs : List V}, ks.Nodup → ((zipV ks xs).map (·.1)).Nodup
  | [], _, _ => by simp [zipV]
  | k :: ks, [], _ => by simp [zipV]
  | k :: ks, x :: xs, h => by
    have sub : ∀ (ks : List Str) (xs : List V) (j : Key), j ∈ (zipV ks xs).map (·.1) → ∃ s ∈ ks, j = .inr s := by
      intro ks
      induction ks with
      | nil => intro xs j hj; simp [zipV] at hj
      | cons k ks ih =>
        intro xs j hj
        cases xs with
        | nil => simp [zipV] at hj
        | cons x xs =>
          simp only [zipV, List.map_cons, List.mem_cons] at hj
          rcases hj with e | hj
          · exact ⟨k, by simp, e⟩
          · obtain ⟨s, hs, e⟩ := ih xs j hj
            exact ⟨s, by simp [hs], e⟩
    simp only [zipV, List.map_cons, List.nodup_cons] at h ⊢
    refine ⟨fun z => ?_, zipV_keys h.2⟩
    obtain ⟨s, hs, e⟩ := sub _ _ _ z
    cases e
    exact h.1 hs
theorem zipV_kV : ∀ {ks : List Str} {xs : List V}, ks.length = xs.length → (zipV ks xs).map (fun kv => (kV kv.1, kv.2)) = (ks.map V.str).zip xs
  | [], [], _ => rfl
  | k :: ks, x :: xs, h => by
    simp only [zipV, List.map_cons, List.zip_cons_cons, zipV_kV (ks := ks) (xs := xs) (by simpa using h)]
    rfl
theorem zipV_len : ∀ {ks : List Str} {xs : List V}, ks.length = xs.length → (zipV ks xs).length = ks.length
  | [], [], _ => rfl
  | k :: ks, x :: xs, h => by simp only [zipV, List.length_cons, zipV_len (ks := ks) (xs := xs) (by simpa using h)]
theorem pairs_run {K : PySem.W.Frag} {W : L2.WX} {σ : L2.St} {p : Addr} {sl : Slots} {X0 : XC} : ∀ {ks : List Str} {fes : List DE} {G1 H1 : Hp} {m1 : Fp} {T1 : Tab} {Qd : List Val → Tab → Prop} {Q : List (V × V) → Hp → Prop}, ks.length = fes.length → (∀ f ∈ fes, Mono f) →
    WRel K G1 H1 m1 T1 → SRel K G1 m1 sl σ → H1 p = some (.dK []) → G1 p = none → p ∉ m1.flatten → seqF fes sl T1 Qd X0 →
    (∀ e T' G' H' m' c d, X0 e T' → Ext K G1 H1 m1 G' H' m' → WRel K G' H' m' T' → XRel K G' e c d → W c d σ H') →
    (∀ vs T' G' H' m' xs, Qd vs T' → Ext K G1 H1 m1 G' H' m' → WRel K G' H' m' T' → VRels K G' m' vs xs → H' p = some (.dK []) → G' p = none → p ∉ m'.flatten → ks.length = xs.length → Q ((ks.map V.str).zip xs) H') → tPairs (trsOf K W ks fes) σ H1 Q
  | [], [], G1, H1, m1, T1, Qd, Q, _, _, w, s, h1, h2, h3, q, hx, hq => hq [] T1 G1 H1 m1 [] q (Ext.refl _ _ _) w .nil h1 h2 h3 rfl
  | k :: ks, fe :: fes, G1, H1, m1, T1, Qd, Q, hl, hm, w, s, h1, h2, h3, q, hx, hq => by
    show LE K W fe σ H1 _
    refine LE.intro (hm fe (by simp)) s w q (fun v T2 G2 H2 m2 x q e2 w2 r2 => ?_) fun ex T' G' H' m' c d q e' w' r => hx ex T' G' H' m' c d q e' w' r
    obtain ⟨k1, k2, k3⟩ := apart_stepO e2 h1 h2 h3 (dk_free _)
    refine pairs_run (by simpa using hl) (fun f hf => hm f (by simp [hf])) w2 (s.ext e2) k1 k2 k3 q (fun ex T' G' H' m' c d q e' w' r => hx ex T' G' H' m' c d q (e2.trans e') w' r) fun vs T' G' H' m' xs q e' w' r d1 d2 d3 dl => ?_
    exact hq (v :: vs) T' G' H' m' (x :: xs) q (e2.trans e') w' (.cons (r2.mono e'.sub e'.ms) r) d1 d2 d3 (by simp [dl])
def dicF (ks : List Str) (fs : DA) : DE := fun sl T Q X => fs sl T (fun vs T1 => Q (.ob T1.length) (T1 ++ [.dic (zipK ks vs)])) X
theorem dpe_dic {X : Cx} {W : L2.WX} {pos : Pos} {keys : List (Option Expr)} {vals : List Expr} {ks : List Str} {fes : List DE} (h : DPs X W keys vals ks fes) (hl : ks.length = fes.length) (hn : ks.Nodup) (h0 : keys ≠ []) (h15 : keys.length ≤ 15) :
    DPE X W (.Dict keys vals pos) (dicF ks (seqF fes)) := by
  obtain ⟨l1, l2, l3, l4⟩ := h.lens
  refine ⟨fun sl T Q Q' X X' hq hx q => seqF_mono l4 _ _ _ _ _ _ (fun vs T1 q => hq _ _ q) hx q, PE.imp (pe_disp (h.pps (pos := pos)) l3 l1 h0 h15) fun σ H Q q p hp => ?_⟩
  obtain ⟨G, m, sl, T, s, w, q⟩ := q
  have e0 := Ext.apart0 (o := .dK []) w hp
  have w0 := w.apart (o := .dK []) (w.gnone hp) (w.notin hp) (tabs_new hp w.tb)
  refine pairs_run hl l4 w0 s upd_same (w.gnone hp) (w.notin hp) q (fun ex T' G' H' m' c d q e' w' r => q G' H' m' c d (e0.trans e') w' r) fun vs T' G' H' m' xs q e' w' r d1 d2 d3 dl => ?_
  have mg : mergeK [] (zipV ks xs) = zipV ks xs := by
    have := merge_new (zipV ks xs) [] (by simpa using zipV_keys hn)
    simpa using this
  refine ⟨d1, zipV ks xs, (zipV_kV dl).symm, by rw [zipV_len dl, ← l2]; exact h15, ?_⟩
  rw [mg]
  have e2 := (e0.trans e').apartO (u := .dK (zipV ks xs)) hp d1 (dk_free _)
  have w2 := w'.apart (o := .dK (zipV ks xs)) d2 d3 (tabs_updO d1 (dk_free _) w'.tb)
  have w3 := w2.adoptO (ob := .dic (zipK ks vs)) upd_same d2 d3 ⟨p, _, rfl, d2, upd_same, zip_rel (VRels.mono (Sub.refl _) ⟨[[p]], rfl⟩ r)⟩
  exact q G' _ (m' ++ [[p]]) _ (e2.adopt hp) w3 (vrel_last w2.len)
/-! ### calls by keyword -/
section
variable {X : Cx} {W : L2.WX} {k : Nat} {f : Addr} {fd : FuncData} {ps ks : List Str} {sp : Sp} {x : Str} {p pos : Pos} {kws : List Keyword}
theorem prm_paired {α β : Type} {F : α → β → Prop} {pm : List Nat} {vs : List α} {us : List β} (h : Paired F vs us) : Paired F (prm pm vs) (prm pm us) := by
  have g : ∀ i : Nat, (vs[i]? = none ∧ us[i]? = none) ∨ ∃ v u, vs[i]? = some v ∧ us[i]? = some u ∧ F v u := by
    intro i
    induction h generalizing i with
    | nil => exact .inl ⟨by simp, by simp⟩
    | cons r t ih =>
      cases i with
      | zero => exact .inr ⟨_, _, by simp, by simp, r⟩
      | succ i => simpa using ih i
  have f : ∀ l : List Nat, Paired F (l.filterMap fun i => vs[i]?) (l.filterMap fun i => us[i]?) := by
    intro l
    induction l with
    | nil => exact .nil
    | cons i l ih =>
      rw [List.filterMap_cons, List.filterMap_cons]
      rcases g i with ⟨e1, e2⟩ | ⟨v, u, e1, e2, r⟩
      · rw [e1, e2]; exact ih
      · rw [e1, e2]; exact .cons r ih
  unfold prm
  split
  · exact h
  · exact f _
theorem prm_len {α : Type} {pm : List Nat} {ws : List α} {n : Nat} (h : ws.length = n) (hp : pm = [] ∨ (pm.length = n ∧ pm.all (· < n) = true)) : (prm pm ws).length = n := by
  unfold prm
  split
  · exact h
  · rename_i hne
    rcases hp with hp | ⟨h1, h2⟩
    · exact absurd hp (by simpa using hne)
    · have f : ∀ l : List Nat, l.all (· < n) = true → (l.filterMap fun i => ws[i]?).length = l.length := by
        intro l
        induction l with
        | nil => intro _; rfl
        | cons i l ih =>
          intro hl
          simp only [List.all_cons, Bool.and_eq_true, decide_eq_true_eq] at hl
          rw [List.filterMap_cons, List.getElem?_eq_getElem (by omega)]
          simp [ih hl.2]
      rw [f _ h2, h1]
/-- how a def takes its keywords ks behind n values -/
structure KB (K : PySem.W.Frag) (fd : FuncData) (ps : List Str) (n : Nat) (ks : List Str) (pm : List Nat) : Prop where
  perm : pm = [] ∨ (pm.length = ks.length ∧ pm.all (· < ks.length) = true)
  to : ∀ (s : Shared) (us ws : List Value), K.In s.heap → us.length = n → ws.length = ks.length → BindsTo s fd ⟨us, ks.zip ws⟩ (ps.zip (us ++ prm pm ws))
def tKw (n : Nat) (ks : List Str) (pm : List Nat) (sp : Sp) (E : L2.St → XK) (t tk : TA) : TE := fun σ H Q => t σ H fun vs H1 => vs.length = n ∧ tk σ H1 fun zs H2 => zs.length = ks.length ∧ sp (vs ++ prm pm zs) H2 Q (E σ)
variable {n : Nat} {pm : List Nat}
theorem run_kw {pins : List (Addr × Obj)} {σ : L2.St} {H : Hp} {s : Shared} {Q : VK} {us ws : List Value} {vs zs : List V} {E : L2.St → XK} (F : FnOk X.prog X.w X.K X.mg X.base (L2.CX X.prog X.w) k f fd ps sp) (hr : Room k X.A) (hb : KB X.K fd ps n ks pm) (hx : PassesAt (L2.CX X.prog X.w) X σ (E σ))
    (I : Inv X pins σ H s) (r : Vals vs us) (rz : Vals zs ws) (l1 : vs.length = n) (l2 : zs.length = ks.length) (h : sp (vs ++ prm pm zs) H Q (E σ)) : wpAny (model X.prog X.w) X.A (call (.ref f) us (ks.zip ws)) (EP X pins σ Q) X.xe s := by
  have r2 : Vals (vs ++ prm pm zs) (us ++ prm pm ws) := r.append (prm_paired rz)
  have run := F.run X.A X.stack s H ⟨us, ks.zip ws⟩ (us ++ prm pm ws) (vs ++ prm pm zs) Q (E σ) hr I.env0 (hb.to s us ws I.kIn (by rw [← r.length]; exact l1) (by rw [← rz.length]; exact l2)) r2 h
  refine wpAny_call (codeAny_mono run fun r s' hq => ?_)
  cases r with
  | ok fl =>
    cases fl with
    | ret u => exact I.after hq
    | _ => exact False.elim hq
  | error e => exact hx pins H s e s' I hq
theorem pe_kw {e : Expr} {es : List Expr} {t tk : TA} {E : L2.St → XK} (F : FnOk X.prog X.w X.K X.mg X.base (L2.CX X.prog X.w) k f fd ps sp) (hr : Room k X.A) (hg : Gl X x) (hm : X.mg x = some (.ref f)) (hk : PySem.W.keepIn X.K (.ref f) = true) (hb : KB X.K fd ps n ks pm) (hx : ∀ σ, PassesAt (L2.CX X.prog X.w) X σ (E σ))
    (ha : PA X (e :: es) t) (hkw : PK X kws tk) (hall : (backToKw pos (keywordEach kws X.env)).all (·.1.isSome) = true) (hks : (backToKw pos (keywordEach kws X.env)).filterMap (·.1) = ks)
    (hdb : (x == ("__debug__" : Str)) = false) (he : starEach (e :: es) X.env = (false, eval e X.env) :: starEach es X.env)
    (hpl : ((backTo pos (starEach (e :: es) X.env)).any (·.1) || (backToKw pos (keywordEach kws X.env)).any (·.1.isNone)) = false) : PE X (.Call (.Name x p) (e :: es) kws pos) (tKw n ks pm sp E t tk) := by
  refine ⟨fun pins s σ H Q I h => ?_⟩
  refine wpAny_Call_Name_kw (ld_glob I hg hm ?_ hdb)
  refine PySem.W.callWith_KW (h₀ := X.base) I.ok.mod.kin hk hall ?_ hpl he
  refine thn (ha.run pos pins s σ H _ I h) fun us s1 ⟨vs, H1, I1, r, l1, q⟩ => thn (hkw.run pos pins s1 σ H1 _ I1 q) fun ws s2 ⟨zs, H2, I2, rz, l2, q2⟩ => ⟨I2.kIn, ?_⟩
  rw [hks]
  exact run_kw F hr hb (hx σ) I2 r rz l1 l2 q2
theorem pe_kw0 {tk : TA} {E : L2.St → XK} (F : FnOk X.prog X.w X.K X.mg X.base (L2.CX X.prog X.w) k f fd ps sp) (hr : Room k X.A) (hg : Gl X x) (hm : X.mg x = some (.ref f)) (hk : PySem.W.keepIn X.K (.ref f) = true) (hb : KB X.K fd ps 0 ks pm) (hx : ∀ σ, PassesAt (L2.CX X.prog X.w) X σ (E σ))
    (hkw : PK X kws tk) (hall : (backToKw pos (keywordEach kws X.env)).all (·.1.isSome) = true) (hks : (backToKw pos (keywordEach kws X.env)).filterMap (·.1) = ks)
    (hdb : (x == ("__debug__" : Str)) = false) (hpl : ((backTo pos (starEach [] X.env)).any (·.1) || (backToKw pos (keywordEach kws X.env)).any (·.1.isNone)) = false) : PE X (.Call (.Name x p) [] kws pos) (tKw 0 ks pm sp E tNil tk) := by
  refine ⟨fun pins s σ H Q I h => ?_⟩
  refine wpAny_Call_Name_kw (ld_glob I hg hm ?_ hdb)
  refine PySem.W.callWith_KW0 (h₀ := X.base) I.ok.mod.kin hk hall ?_ hpl
  refine thn (hkw.run pos pins s σ H _ I h.2) fun ws s2 ⟨zs, H2, I2, rz, l2, q2⟩ => ⟨I2.kIn, ?_⟩
  rw [hks]
  exact run_kw (us := []) (vs := []) F hr hb (hx σ) I2 .nil rz rfl l2 q2
/-- keywords and their values -/
structure DPK (X : Cx) (W : L2.WX) (kws : List Keyword) (ks : List Str) (fs : DA) : Prop where
  mono : MonoA fs
  pk : PK X kws (LAr X.K W fs)
  names : kws.map (·.arg) = ks.map some
end
end DL
namespace DL
open PySem PySem.Spec PyProof.Rows L2
section
variable {X : Cx} {W : L2.WX}
theorem PK.imp {X : Cx} {e : List Keyword} {t t' : TA} (h : PK X e t) (i : ∀ σ H Q, t' σ H Q → t σ H Q) : PK X e t' := ⟨fun pos pins s σ H Q I q => h.run pos pins s σ H Q I (i σ H Q q)⟩
theorem dpk_nil : DPK X W [] [] (fun _ T Q _ => Q [] T) := by
  refine ⟨fun sl T Q Q' X X' hq hx q => hq _ _ q, PK.imp pk_nil fun σ H Q q => ?_, rfl⟩
  obtain ⟨G, m, sl, T, s, w, q⟩ := q
  exact q G H m [] (Ext.refl _ _ _) w .nil
theorem dpk_cons {k : Str} {e : Expr} {fe : DE} {kp : Pos} {kws : List Keyword} {ks : List Str} {fs : DA} (ha : DPE X W e fe) (hr : DPK X W kws ks fs) : DPK X W (⟨some k, e, kp⟩ :: kws) (k :: ks) (fun sl T Q X => fe sl T (fun v T1 => fs sl T1 (fun vs T2 => Q (v :: vs) T2) X) X) := by
  refine ⟨fun sl T Q Q' X X' hq hx q => ha.mono _ _ _ _ _ _ (fun v T1 q => hr.mono _ _ _ _ _ _ (fun vs T2 q => hq _ _ q) hx q) hx q, PK.imp (pk_cons ha.pe hr.pk) fun σ H Q q => ?_, by simp [hr.names]⟩
  obtain ⟨G, m, sl, T, s, w, q⟩ := q
  refine LE.intro ha.mono s w q (fun v T1 G1 H1 m1 x q e1 w1 r1 => ?_) fun e T' G' H' m' c d q x w r => q G' H' m' c d x w r
  refine LAr.intro hr.mono (s.ext e1) w1 q (fun vs T2 G2 H2 m2 xs q e2 w2 r2 => ?_) fun e T' G' H' m' c d q x w r => q G' H' m' c d (e1.trans x) w r
  exact q G2 H2 m2 _ (e1.trans e2) w2 (.cons (r1.mono e2.sub e2.ms) r2)
theorem kw_facts {kws : List Keyword} {ks : List Str} {pos : Pos} {env : PySem.Env} : kws.map (·.arg) = ks.map some → (backToKw pos (keywordEach kws env)).all (·.1.isSome) = true ∧ (backToKw pos (keywordEach kws env)).filterMap (·.1) = ks ∧ (backToKw pos (keywordEach kws env)).any (·.1.isNone) = false := by
  intro h
  induction kws generalizing ks with
  | nil =>
    cases ks with
    | nil => exact ⟨rfl, rfl, rfl⟩
    | cons _ _ => simp at h
  | cons kw kws ih =>
    cases ks with
    | nil => simp at h
    | cons k ks =>
      simp only [List.map_cons, List.cons.injEq] at h
      obtain ⟨h1, h2⟩ := h
      obtain ⟨a, v, p⟩ := kw
      simp only at h1
      subst h1
      obtain ⟨i1, i2, i3⟩ := ih h2
      unfold backToKw at i1 i2 i3 ⊢
      simp only [keywordEach, List.map_cons, List.all_cons, List.any_cons, List.filterMap_cons]
      refine ⟨by simpa using i1, by simpa using i2, by simpa using i3⟩
structure KCallee (X : Cx) (x : Str) (n : Nat) (ks : List Str) (pm : List Nat) (dsp : DSp) (k : Nat) (f : Addr) (fd : FuncData) (ps : List Str) : Prop where
  ok : FnOk X.prog X.w X.K X.mg X.base (L2.CX X.prog X.w) k f fd ps (spOf X.K (n + ks.length) dsp)
  mono : MonoS dsp
  room : Room k X.A
  mg : X.mg x = some (.ref f)
  keep : PySem.W.keepIn X.K (.ref f) = true
  binds : KB X.K fd ps n ks pm
theorem kw_lift {n : Nat} {ks : List Str} {pm : List Nat} {dsp : DSp} {fs gs : DA} {σ : L2.St} {H : Hp} {Q : VK} (hp : pm = [] ∨ (pm.length = ks.length ∧ pm.all (· < ks.length) = true)) (mono : MonoS dsp) (h1 : MonoA fs) (h2 : MonoA gs) (hl : ∀ sl T Q X, fs sl T Q X → fs sl T (fun vs T => vs.length = n ∧ Q vs T) X) (hl2 : ∀ sl T Q X, gs sl T Q X → gs sl T (fun vs T => vs.length = ks.length ∧ Q vs T) X)
    (q : LE X.K W (fun sl T Q X => fs sl T (fun vs T1 => gs sl T1 (fun ws T2 => callW dsp (vs ++ prm pm ws) T2 Q X) X) X) σ H Q) : tKw n ks pm (spOf X.K (n + ks.length) dsp) (WE W) (LAr X.K W fs) (LAr X.K W gs) σ H Q := by
  obtain ⟨G, m, sl, T, s, w, q⟩ := q
  refine LAr.intro h1 s w (hl _ _ _ _ q) (fun vs T1 G1 H1 m1 x q e1 w1 r1 => ?_) fun e T' G' H' m' c d q x w r => q G' H' m' c d x w r
  obtain ⟨l1, q⟩ := q
  refine ⟨by rw [← Paired.length r1]; exact l1, LAr.intro h2 (s.ext e1) w1 (hl2 _ _ _ _ q) (fun ws T2 G2 H2 m2 y q e2 w2 r2 => ?_) fun e T' G' H' m' c d q x w r => q G' H' m' c d (e1.trans x) w r⟩
  obtain ⟨l2, q⟩ := q
  refine ⟨by rw [← Paired.length r2]; exact l2, ?_⟩
  have ll : (vs ++ prm pm ws).length = n + ks.length := by rw [List.length_append, l1, prm_len l2 hp]
  rw [← ll]
  exact call_ok mono w2 (VRels.app (r1.mono e2.sub e2.ms) (prm_paired r2)) q (fun v T' G' H' m' x z e w r => z G' H' m' x ((e1.trans e2).trans e) w r) fun e T' G' H' m' c d z x w r => z G' H' m' c d ((e1.trans e2).trans x) w r
theorem dpe_kw {n : Nat} {dsp : DSp} {k : Nat} {f : Addr} {fd : FuncData} {ps ks : List Str} {pm : List Nat} {x : Str} {p pos : Pos} {as : List Expr} {kws : List Keyword} {fs gs : DA} (F : KCallee X x n ks pm dsp k f fd ps) (tk : L2.Takes X W) (hg : Gl X x) (hd : (x == ("__debug__" : Str)) = false)
    (h1 : DPA X W as fs) (h2 : DPK X W kws ks gs) (hs : as.all bare1 = true) (hn : as = [] → n = 0 ∧ fs = fun _ T Q _ => Q [] T)
    (hl : ∀ sl T Q X, fs sl T Q X → fs sl T (fun vs T => vs.length = n ∧ Q vs T) X) (hl2 : ∀ sl T Q X, gs sl T Q X → gs sl T (fun vs T => vs.length = ks.length ∧ Q vs T) X) :
    DPE X W (.Call (.Name x p) as kws pos) (fun sl T Q X => fs sl T (fun vs T1 => gs sl T1 (fun ws T2 => callW dsp (vs ++ prm pm ws) T2 Q X) X) X) := by
  obtain ⟨k1, k2, k3⟩ := kw_facts (pos := pos) (env := X.env) h2.names
  refine ⟨fun sl T Q Q' X X' hq hx q => h1.mono _ _ _ _ _ _ (fun vs T1 q => h2.mono _ _ _ _ _ _ (fun ws T2 q => callW_mono F.mono hq hx q) hx q) hx q, ?_⟩
  cases as with
  | nil =>
    obtain ⟨rfl, rfl⟩ := hn rfl
    refine PE.imp (pe_kw0 F.ok F.room hg F.mg F.keep F.binds (fun σ => passAt tk σ) h2.pk k1 k2 hd (by rw [k3]; rfl)) fun σ H Q q => ?_
    obtain ⟨G, m, sl, T, s, w, q⟩ := q
    refine ⟨rfl, LAr.intro h2.mono s w (hl2 _ _ _ _ q) (fun ws T2 G2 H2 m2 y q e2 w2 r2 => ?_) fun e T' G' H' m' c d q x w r => q G' H' m' c d x w r⟩
    obtain ⟨l2, q⟩ := q
    refine ⟨by rw [← Paired.length r2]; exact l2, ?_⟩
    have ll : ([] ++ prm pm ws : List Val).length = 0 + ks.length := by simp [prm_len l2 F.binds.perm]
    show spOf X.K (0 + ks.length) dsp ([] ++ prm pm y) H2 Q _
    rw [← ll]
    exact call_ok F.mono w2 (prm_paired r2) q (fun v T' G' H' m' x z e w r => z G' H' m' x (e2.trans e) w r) fun e T' G' H' m' c d z x w r => z G' H' m' c d (e2.trans x) w r
  | cons a as =>
    have hb1 : bare1 a = true := by simp only [List.all_cons, Bool.and_eq_true] at hs; exact hs.1
    have hb2 : as.all bare1 = true := by simp only [List.all_cons, Bool.and_eq_true] at hs; exact hs.2
    have hp : (backTo pos (starEach (a :: as) X.env)).any (·.1) = false := starEach_any (by simp [hb1, hb2])
    exact PE.imp (pe_kw F.ok F.room hg F.mg F.keep F.binds (fun σ => passAt tk σ) h1.pa h2.pk k1 k2 hd (starEach_bare hb1) (by rw [hp, k3]; rfl)) fun σ H Q q => kw_lift F.binds.perm F.mono h1.mono h2.mono hl hl2 q
end
end DL
namespace DL
open PySem PySem.Spec PyProof.Rows L2
section
variable {X : Cx} {pins : List (Addr × Obj)} {σ : L2.St} {H : Hp} {s : Shared}
theorem exC_ok {P : Program} {w : World} {K : PySem.W.Frag} {H : Hp} {h : Heap} {a : Addr} {c : Str} {oe : Obj} {vs : Array Value} (e : h.get? a = some oe) {dx : Option Addr} (z : Zc (.ref (He.ga K c)) dx oe) (d : oe.data = .fields vs) : ObjOk P w H h a (ExC K c dx a) :=
  ⟨⟨oe, vs, e, z, d⟩, ⟨oe, e⟩, fun _ _ ⟨o, v, q, r⟩ k => ⟨o, v, k o q, r⟩⟩
/-- an object that was not there at the entry is known from now on -/
theorem Inv.track {a : Addr} {o : HO} (I : Inv X pins σ H s) (n0 : X.s_0.heap.get? a = none) (hn : H a = none) (hL : a ≠ X.env.locals) (hc : ∀ x c, X.env.cells.lookup x = some c → c ≠ a) (hp : ∀ p ∈ X.pn ++ pins, p.1 ≠ a)
    (new : ObjOk X.prog X.w (upd H a o) s.heap a o) (hx : ∀ ps, o ≠ .tbl ps) : Inv X pins σ (upd H a o) s := by
  have other : ∀ {b : Addr}, b ≠ a → upd H a o b = H b := fun h => upd_ne h
  refine { I with base := ?_, free := by rw [other (Ne.symm hL)]; exact I.free, freeC := fun x c e => by rw [other (hc x c e)]; exact I.freeC x c e, pin := fun p q => ?_, hok := ?_ }
  · have B := I.base
    exact {
      keep := B.keep
      slot := B.slot
      free := fun b u q n x => by
        have ne : b ≠ a := fun z => by subst z; rw [n0] at q; cases q
        rw [other ne]; exact B.free b u q n x
      there := B.there
      tups := fun b xs q => by
        have z := B.tups b xs q
        rw [other (fun y => by subst y; rw [hn] at z; cases z)]; exact z
      frzs := fun b u xs q => by
        have z := B.frzs b u xs q
        rw [other (fun y => by subst y; rw [hn] at z; cases z)]; exact z
      tbls := fun b ps q => by
        obtain ⟨more, z⟩ := B.tbls b ps q
        exact ⟨more, by rw [other (fun y => by subst y; rw [hn] at z; cases z)]; exact z⟩ }
  · obtain ⟨q1, q2, q3⟩ := I.pin p q
    exact ⟨q1, by rw [other (hp p q)]; exact q2, q3⟩
  · intro b u e
    by_cases z : b = a
    · subst z
      rw [upd_same] at e
      cases e
      exact new
    · rw [other z] at e
      refine (I.hok b u e).stay (fun c v _ q => q) (fun c q => ?_) fun c xs q => ?_
      · rw [other (fun y => by subst y; rw [hn] at q; cases q)]; exact q
      · rw [other (fun y => by subst y; rw [hn] at q; cases q)]; exact q
/-- what is wished of an exception that the clause 'except x as n: y = n' keeps: slots i of n, j of y -/
def wKeep (K : PySem.W.Frag) (c : Value) (i j len : Nat) (D : Ends) : WX := fun cls d σ H => PySem.W.exmOne K cls c = some true ∧ ∃ k : Str, cls = .ref (He.ga K k) ∧ ∀ a, H a = none → σ.length = len → D.nx ((σ.set j (some (.ref a))).set i none) (upd H a (ExC K k d a))
end
end DL
namespace DL
open PySem PySem.Spec PyProof.Rows L2
section
variable {X : Cx} {x n y : Str} {c : Value} {i j : Nat} {body : List Stmt} {np p3 p4 p5 pos pos' : Pos} {tb : L2.WX → TS}
theorem keep_suite (hN : X.N.Nodup) (hi : X.N[i]? = some n) (hj : X.N[j]? = some y) (hn : X.env.kindOf n = some .local) (hy : X.env.kindOf y = some .local) (dn : (n == ("__debug__" : Str)) = false) (cn : (n == ("__classdict__" : Str)) = false) (a : Addr) (oe : Obj) (pn : List (Addr × Obj)) :
    PSs (X.suite a ((a, oe) :: pn)) [.Assign [.Name y p3] (.Name n p4) p5] (tAsg (tVar i) (gName j)) :=
  pss_one (ps_set (X := X.suite a ((a, oe) :: pn)) hN hj (.inl hy) (pe_var (X := X.suite a ((a, oe) :: pn)) hi (.inl hn) dn cn) rfl (.inr hy))
/-- try: body / except x as n: y = n -/
theorem ps_try_keep (hs : X.stack = X.env :: X.outer) (hf : X.env.frame = some X.env.locals) (hex : X.ex = []) (hN : X.N.Nodup) (hi : X.N[i]? = some n) (hj : X.N[j]? = some y) (hij : i ≠ j) (hln : X.env.kindOf n = some .local) (hly : X.env.kindOf y = some .local)
    (dn : (n == ("__debug__" : Str)) = false) (cn : (n == ("__classdict__" : Str)) = false) (hc : Names X x c)
    (hb : ∀ (W : WX) (pn : List (Addr × Obj)) (xe : Value → Shared → Prop), Takes (X.tr pn xe) W → PassesOwn (model X.prog X.w) X.A X.env xe → PSs (X.tr pn xe) body (tb W)) :
    PS X (.Try body [.ExceptHandler (some (.Name x np)) (some n) [.Assign [.Name y p3] (.Name n p4) p5] pos'] [] [] pos) (fun D σ H => tb (wKeep X.K c i j X.N.length D) D σ H) := by
  constructor
  intro pins s σ H D I h
  have okX := I.ok
  have frX : X.A.frames = some (X.env :: X.outer) := okX.frames.trans (congrArg some hs)
  refine wpAny_Try_except ?_
  have run := (hb (wKeep X.K c i j X.N.length D) (X.pn ++ pins) (fun e s1 => wpAny (model X.prog X.w) X.A (noteFrame e X.env) (fun _ s2 => wpAny (model X.prog X.w) X.A (setFlight e none) (fun _ s3 =>
    wpAny (model X.prog X.w) X.A (handleBy e X.env [.ExceptHandler (some (.Name x np)) (some n) [.Assign [.Name y p3] (.Name n p4) p5] pos']) (SP X pins D) X.xe s3) X.xe s2) X.xe s1)
    (by
      intro u s' air
      obtain ⟨a, B, sI, qins, τ, J, cls, dd, eu, IJ, grd, ups, sky, aJ, osE, bareE, wish⟩ := air
      subst eu
      obtain ⟨match_, k, ecls, after⟩ := wish
      have IX : Inv X pins τ J sI := IJ.ofTry okX
      rw [show frs (X.tr (X.pn ++ pins) _).stack = frs (X.env :: X.outer) from congrArg frs hs] at grd
      refine Sky.land Zc.steady frX hf (by rw [← hs]; exact sky) ?_
      intro g3 fly3 up3
      have I3 : Inv X pins τ J { s' with heap := g3 } := IX.landed (by rw [hs]; exact grd) fly3.1 (ups.trans up3) osE bareE
      obtain ⟨o3, v3, at3, z3, f3⟩ := fly3.there
      have outF : a ∉ frs (X.env :: X.outer) := by
        intro hm
        obtain ⟨_, o', e', hnf⟩ := fly3.2.2.1.mem hm
        rw [at3] at e'
        cases e'
        exact hnf _ f3
      have aL : a ≠ X.env.locals := by
        intro z
        exact outF (List.mem_filterMap.mpr ⟨X.env, List.mem_cons_self, by rw [hf, z]⟩)
      have aF : a ∉ X.fs := by
        intro hm
        obtain ⟨e, he, q⟩ := List.mem_filterMap.mp hm
        exact outF (List.mem_filterMap.mpr ⟨e, List.mem_cons_of_mem _ he, q⟩)
      have aB : B.get? a = none := fly3.2.1
      have notOld : ∀ b o, sI.heap.get? b = some o → b ∉ frs (X.env :: X.outer) → b ≠ a := by
        intro b o e1 e2 e3
        subst e3
        have := grd _ _ e1 e2
        rw [aB] at this
        cases this
      have entry : X.s_0.heap.get? a = none := by
        cases e : X.s_0.heap.get? a with
        | none => rfl
        | some o =>
          obtain ⟨o', e2⟩ := IX.base.there a o e (by rw [hex]; simp)
          exact absurd rfl (notOld a o' e2 outF)
      have S3 := I3.suite at3 f3 aJ aL aF
      refine wpAny_handleBy_cons (codeAny_handlers_test ?_) (by intro q; cases q)
      have LT : PySem.W.Looks (model X.prog X.w) g3 (typeOf (.ref a)) cls := by
        intro A Q E s k q
        exact wpAny_typeOf_ref (k _ _ at3) (by rw [z3.1]; exact q)
      have LM := PySem.W.exm_one (M := model X.prog X.w) I3.kIn LT match_
      have test : ∀ {Q : Value → Shared → Prop} {E : Value → Shared → Prop}, Q c { s' with heap := g3 } → wpAny (model X.prog X.w) (X.A.mark (some (.ref a))) (eval (.Name x np) X.env) Q E { s' with heap := g3 } := by
        intro Q E q
        obtain ⟨gl, dbg, way⟩ := hc
        rcases way with m1 | ⟨m1, m2, m3⟩
        · exact ld_glob (X := X.suite a ((a, o3) :: (X.pn ++ pins))) S3 gl m1 q dbg
        · exact ld_blt (X := X.suite a ((a, o3) :: (X.pn ++ pins))) S3 gl m1 m2 q m3 dbg
      refine test (LM.here ?_)
      refine codeAny_handlers_suite_as ?_
      refine HandSPX.lands_againZ fly3 ?_
      intro g4 fly4 up4
      have I4 : Inv X pins τ J { s' with heap := g4 } := IX.landed (by rw [hs]; exact grd) fly4.1 ((ups.trans up3).trans up4) osE bareE
      obtain ⟨o4, v4, at4, z4, f4⟩ := fly4.there
      have S4 := I4.suite at4 f4 aJ aL aF
      refine store_ok (X := X.suite a ((a, o4) :: (X.pn ++ pins))) (v := .ref a) S4 hN hi (.inl hln) rfl ?_ (.inr hln)
      intro s5 S5
      have lenτ : i < τ.length := by
        rw [IX.len]
        exact (List.getElem?_eq_some_iff.mp hi).1
      have red : tAsg (tVar i) (gName j) { nx := fun σ' H' => σ' = (τ.set i (some (V.ref a))).set j (some (.ref a)) ∧ H' = J, rt := fun _ _ => False } (τ.set i (some (V.ref a))) J :=
        ⟨.ref a, by rw [List.getElem?_set_self lenτ], rfl, rfl⟩
      refine wpAny_mono ((keep_suite hN hi hj hln hly dn cn a o4 (X.pn ++ pins)).run [] s5 _ J _ S5 red) (fun f s6 fin => ?_) (fun _ _ z => False.elim z)
      cases f with
      | next =>
        obtain ⟨τ6, J6, S6, e6, e7⟩ := fin
        rw [e6, e7] at S6
        have I6 : Inv X ((a, o4) :: pins) ((τ.set i (some (V.ref a))).set j (some (.ref a))) J s6 :=
          ⟨okX, S6.os, S6.bare, S6.base, S6.loc, S6.cell, S6.free, S6.freeC, fun p hp => S6.pin p (by
            rw [List.append_nil]
            rcases List.mem_append.mp hp with h1 | h1
            · exact List.mem_cons_of_mem _ (List.mem_append_left _ h1)
            · rcases List.mem_cons.mp h1 with h2 | h2
              · rw [h2]; exact List.mem_cons_self
              · exact List.mem_cons_of_mem _ (List.mem_append_right _ h2)), S6.hok, S6.len⟩
        refine gone_ok I6 hN hi hln ?_
        intro s7 I7
        obtain ⟨at7, _⟩ := I7.pin (a, o4) (List.mem_append_right _ List.mem_cons_self)
        have I8 : Inv X pins (((τ.set i (some (V.ref a))).set j (some (.ref a))).set i none) J s7 :=
          ⟨okX, I7.os, I7.bare, I7.base, I7.loc, I7.cell, I7.free, I7.freeC, fun p hp => I7.pin p (by
            rcases List.mem_append.mp hp with h1 | h1
            · exact List.mem_append_left _ h1
            · exact List.mem_append_right _ (List.mem_cons_of_mem _ h1)), I7.hok, I7.len⟩
        have I9 := DL.Inv.track (o := ExC X.K k dd a) I8 entry aJ aL (fun x' c' e z => by
          subst z
          obtain ⟨v, o, e1, e2⟩ := I8.cell x' _ e
          rw [at7] at e1
          cases e1
          rw [f4] at e2
          cases e2) (fun p hp z => by
          obtain ⟨q1, q2, q3, q4, _⟩ := IX.pin p hp
          refine notOld p.1 p.2 q1 (fun hm => ?_) z
          obtain ⟨e, he, q⟩ := List.mem_filterMap.mp hm
          rcases List.mem_cons.mp he with h1 | h1
          · subst h1
            rw [hf] at q
            exact q3 (Option.some.inj q).symm
          · exact q4 (List.mem_filterMap.mpr ⟨e, h1, q⟩)) (exC_ok at7 (by rw [← ecls]; exact z4) f4) (fun ps z => by cases z)
        refine ⟨_, _, I9, ?_⟩
        have e8 : ((τ.set i (some (V.ref a))).set j (some (.ref a))).set i none = (τ.set j (some (.ref a))).set i none := by
          rw [List.set_comm _ _ hij, List.set_set]
        rw [e8]
        exact after a aJ IX.len
      | brk => obtain ⟨_, _, _, z⟩ := fin; exact z.elim
      | cont => obtain ⟨_, _, _, z⟩ := fin; exact z.elim
      | ret u => obtain ⟨_, _, _, _, _, z⟩ := fin; exact z.elim) PassesOwn.looking).run [] s σ H D (I.toTry _) h
  refine wpAny_mono run (fun f s1 q => ?_) fun e s1 q => q
  cases f with
  | next => obtain ⟨σ', H', J', q⟩ := q; exact wpAny_execs_nil ⟨σ', H', J'.ofTry okX, q⟩
  | brk => obtain ⟨σ', H', J', q⟩ := q; exact ⟨σ', H', J'.ofTry okX, q⟩
  | cont => obtain ⟨σ', H', J', q⟩ := q; exact ⟨σ', H', J'.ofTry okX, q⟩
  | ret u => obtain ⟨v, σ', H', J', r, q⟩ := q; exact ⟨v, σ', H', J'.ofTry okX, r, q⟩
/-! ### f(lambda: e), f a def that calls it in a try and hands the error out -/
/-- the reading of such a def, tl the lambda's -/
def TTc (K : PySem.W.Frag) (c : Value) : (XK → Hp → VK → Prop) → Hp → VK → Prop := fun tl H Q =>
  tl (fun cls d H' => PySem.W.exmOne K cls c = some true ∧ ∃ k : Str, cls = .ref (He.ga K k) ∧ ∀ a, H' a = none → Q (.ref a) (upd H' a (ExC K k d a))) H (fun _ H' => ∃ v : V, (some (some V.non) : Option (Option V)) = some (some v) ∧ Q v H')
theorem caught_gives {x a y n e q : Str} {sg : Scope} {g CS : Addr} {cdg : Value} {j : Nat} {q1 q2 q3 p1 p2 p3 np p4 p5 p6 pos pos' q4 q5 : Pos} (nd : [a, y, n].Nodup) (hge : sg.names.lookup e = some .globalImplicit) (hme : X.mg e = some (.ref CS)) (hde : (e == ("__debug__" : Str)) = false)
    (la : sg.names.lookup a = some .local) (ly : sg.names.lookup y = some .local) (ln : sg.names.lookup n = some .local) (dn : (n == ("__debug__" : Str)) = false) (cn : (n == ("__classdict__" : Str)) = false) (dy : (y == ("__debug__" : Str)) = false) (cy : (y == ("__classdict__" : Str)) = false) :
    LamX.GivesTo X [a, y, n] x sg g cdg [.Assign [.Name y q1] (.Constant .none j q2) q3, .Try [.Expr (.Call (.Name a p1) [] [] p2) p3] [.ExceptHandler (some (.Name e np)) (some n) [.Assign [.Name y p4] (.Name n p5) p6] pos'] [] [] pos, .Return (some (.Name y q4)) q5] a q (TTc X.K (.ref CS)) := by
  intro f c' s H Q tl act hcode h
  have gl : Gl (cxOf C8.CX0 X.prog X.w X.K X.mg X.base [a, y, n] x sg g cdg X.A X.stack s H C8.E0).nox e := hge
  have ly' : (cxOf C8.CX0 X.prog X.w X.K X.mg X.base [a, y, n] x sg g cdg X.A X.stack s H C8.E0).nox.env.scope.names.lookup y = some .local := ly
  have st1 : PS (cxOf C8.CX0 X.prog X.w X.K X.mg X.base [a, y, n] x sg g cdg X.A X.stack s H C8.E0).nox (.Assign [.Name y q1] (.Constant .none j q2) q3) (tAsg (tC .non) (gName 1)) := ps_set nd rfl (.inl ly') pe_non rfl (.inr ly')
  have st2 := ps_try_keep (X := (cxOf C8.CX0 X.prog X.w X.K X.mg X.base [a, y, n] x sg g cdg X.A X.stack s H C8.E0).nox) (c := .ref CS) (i := 2) (j := 1) (np := np) (p3 := p4) (p4 := p5) (p5 := p6) (pos := pos) (pos' := pos') (body := [.Expr (.Call (.Name a p1) [] [] p2) p3])
    (tb := fun W D σ H => ∃ Ech : XK, (∀ cls d σ' H', Ech cls d H' → W cls d σ' H') ∧ σ[0]? = some (some (.ref f)) ∧ H c' = some (LamX.CodeO c' q) ∧ tl Ech H fun _ H' => D.nx σ H')
    rfl rfl rfl nd rfl rfl (by decide) ln ly dn cn ⟨gl, hde, .inl hme⟩ (fun W pn xe tk _ => by
      refine ⟨fun pins s' σ H' D I h' => ?_⟩
      obtain ⟨Ech, hW, h1, h2, h3⟩ := h'
      have hp := act W pn xe Ech p1 p2 tk hW
      exact (pss_one (ps_expr (pos := p3) hp)).run pins s' σ H' D I ⟨h1, h2, h3⟩)
  have st3 : PS (cxOf C8.CX0 X.prog X.w X.K X.mg X.base [a, y, n] x sg g cdg X.A X.stack s H C8.E0).nox (.Return (some (.Name y q4)) q5) (tRet (tVar 1)) := ps_ret (pe_var rfl (.inl ly') dy cy)
  refine ⟨_, pss_cons st1 (pss_cons st2 (pss_one st3)), ?_⟩
  refine ⟨fun cls d H' => PySem.W.exmOne X.K cls (.ref CS) = some true ∧ ∃ k : Str, cls = .ref (He.ga X.K k) ∧ ∀ a, H' a = none → Q (.ref a) (upd H' a (ExC X.K k d a)), ?_, rfl, hcode, h⟩
  rintro cls d σ' H' ⟨h1, k, h2, h4⟩
  refine ⟨h1, k, h2, fun b hb hl => ⟨.ref b, ?_, h4 b hb⟩⟩
  rw [List.getElem?_set_ne (by decide), List.getElem?_set_self (by rw [hl]; show 1 < 3; decide)]
end
end DL
namespace DL
open PySem PySem.Spec PyProof.Rows L2
section
variable {X : Cx} {W : L2.WX} {a b c : Expr} {fa fb fc : DE} {pos : Pos} {es : List Expr} {fs : DA}
/-! ### raise C('..') -/
structure RaiseOk (X : Cx) (x : Str) : Prop where
  mg : X.mg x = some (.ref (He.ga X.K x))
  fact : (He.Fa.exc x).ok X.K = true
theorem dps_raise {x m : Str} {j : Nat} {p p2 p3 : Pos} (hc : X.calm = true) (tk : L2.Takes X W) (R : RaiseOk X x) (hg : Gl X x) (hd : (x == ("__debug__" : Str)) = false) :
    DPS X W (.Raise (some (.Call (.Name x p) [.Constant (.str m) j p2] [] p3)) none pos) (fun D _ T => D.xc ⟨x, []⟩ T) := by
  obtain ⟨f1, f2, f3, f4⟩ := He.exc_ok R.fact
  refine ⟨fun D D' sl T h q => h.2.2.2.2 _ _ q, PS.imp (ps_raise hc tk (pmk_own PySem.F.excBase_ValueError f1 R.mg f2 (raises_own f3 f4) hg hd)) fun D σ H q => ?_⟩
  obtain ⟨G, m, sl, T, s, w, q⟩ := q
  exact q G H m _ _ σ (Ext.refl _ _ _) w ⟨rfl, .inl ⟨rfl, rfl⟩⟩
/-! ### isinstance of an own class -/
/-- what is known of the classes' relations -/
structure SubOk (K : PySem.W.Frag) (sub : Str → Str → Option Bool) (c : Str) : Prop where
  own : ∀ x b, sub x c = some b → PySem.W.kitOne K (.ref (He.ga K x)) (.ref (He.ga K c)) = some b
  exc : ∀ x b, sub x c = some b → ExcC K (He.ga K x)
  base : ∀ t, tyOk t = true → PySem.W.kitOne K (.type t) (.ref (He.ga K c)) = some false
theorem isxW_mono {sub : Str → Str → Option Bool} {c : Str} {T : Tab} {v : Val} {k k' : Bool → Prop} (h : ∀ b, k b → k' b) (q : isxW sub c T v k) : isxW sub c T v k' := by
  unfold isxW at q ⊢
  split at q
  · split at q
    · exact h _ q
    · exact q
  · split at q
    · exact h _ q
    · exact q
def rIsx (K : PySem.W.Frag) (sub : Str → Str → Option Bool) (c : Str) : List V → Hp → VK → Prop := fun xs H Q => ∃ (x : V), xs = [x, .ref (He.ga K c)] ∧
  ((∃ (t : String), tyOk t = true ∧ TyX K H x (.type t) ∧ Q (.bl false) H) ∨ ∃ (a : Addr) (y : Str) (d : Option Addr) (b : Bool), x = .ref a ∧ H a = some (ExC K y d a) ∧ (∀ dd, d = some dd → ∃ fv, H dd = some (.xd fv)) ∧ sub y c = some b ∧ Q (.bl b) H)
theorem call_isx {sub : Str → Str → Option Bool} {c : Str} (S : SubOk X.K sub c) : CallR X (.builtin "isinstance") (rIsx X.K sub c) := by
  intro pins s σ H xs us Q I r h
  obtain ⟨x, rfl, h⟩ := h
  rcases h with ⟨t, ht, ty, q⟩ | ⟨p, y, d, b, rfl, hp, hd, hs, q⟩
  · exact call_isi pins s σ H _ us Q I r ⟨x, .ref (He.ga X.K c), .type t, .ref (He.ga X.K c), false, rfl, .own _, ty, S.base t ht, q⟩
  · obtain ⟨u1, u2, rfl, r1, r2⟩ := vals2 r
    cases r1
    cases (show u2 = Value.ref (He.ga X.K c) from r2)
    obtain ⟨⟨oe, vs, e1, e2, e3⟩, _, _⟩ := I.hok p _ hp
    have C := S.exc y b hs
    have J : ∃ od, PySem.W.InstAt s.heap p oe (He.ga X.K y) od := by
      obtain ⟨oc, od, oda, osl⟩ := oe
      obtain ⟨h1, h2⟩ := e2
      dsimp only at h1 h2 e3
      subst h1 h2 e3
      cases od with
      | none => exact ⟨none, e1, rfl, rfl, trivial⟩
      | some dd =>
        obtain ⟨fv, hf⟩ := hd dd rfl
        have hx : ObjOk X.prog X.w H s.heap dd (.xd fv) := I.hok dd _ hf
        obtain ⟨mA, ⟨o, _, _, ho, _⟩, _⟩ := hx
        exact ⟨some o, e1, rfl, rfl, ho⟩
    obtain ⟨od, J⟩ := J
    have hcl : (PySem.W.clsIn X.K (He.ga X.K y)).isSome = true := by
      obtain ⟨cdD, hcD, _⟩ := PySem.W.any_some C.hd
      rw [hcD]; rfl
    exact PySem.W.kia_one (PySem.W.kitx_exc hcl C.hg C.hk C.hs C.ha C.hn C.ht C.hm) I.kIn J (S.own y b hs) (fun z => nomatch z) fun tk => ⟨.bl b, H, I.kept (t' := tk) fun _ _ z => z, rfl, q⟩
def isxF (sub : Str → Str → Option Bool) (c : Str) (fa : DE) : DE := fun sl T Q X => fa sl T (fun v T1 => isxW sub c T1 v fun b => Q (.d (.bool b)) T1) X
theorem dpe_isx {sub : Str → Str → Option Bool} {x : Str} {p p2 p3 : Pos} (S : SubOk X.K sub x) (ha : DPE X W a fa) (hi : Gl X "isinstance") (mi : X.mg "isinstance" = none) (hx : Gl X x) (mx : X.mg x = some (.ref (He.ga X.K x))) (hd : (x == ("__debug__" : Str)) = false) (hb : bare1 a = true) :
    DPE X W (.Call (.Name "isinstance" p) [a, .Name x p2] [] p3) (isxF sub x fa) := by
  refine ⟨fun sl T Q Q' X X' hq hx q => ha.mono _ _ _ _ _ _ (fun v T1 q => isxW_mono (fun b q => hq _ _ q) q) hx q,
    PE.imp (pe_callB (call_isx S) hi mi (by decide +kernel) (pa_cons ha.pe (pa_cons (pe_glob (v := .ref (He.ga X.K x)) hx mx rfl hd) pa_nil) (starEach_bare hb)) (he := starEach_bare hb) (hpl := rfl)) fun σ H Q q => ?_⟩
  obtain ⟨G, m, sl, T, s, w, q⟩ := q
  refine LE.intro ha.mono s w q (fun v T1 G1 H1 m1 x q e1 w1 r1 => ?_) fun e T' G' H' m' c d q x w r => q G' H' m' c d x w r
  refine ⟨x, rfl, ?_⟩
  have gen : ∀ t, tyName T1 v = some t → (∀ G' H' m' x, Ext X.K G H m G' H' m' → WRel X.K G' H' m' T1 → VRel X.K G' m' (.d (.bool false)) x → Q x H') → ∃ t, tyOk t = true ∧ TyX X.K H1 x (.type t) ∧ Q (.bl false) H1 :=
    fun t e q => ⟨t, tyName_ok e, tyX_of w1 r1 e, q G1 H1 m1 _ e1 w1 (vrel_bool _)⟩
  unfold isxW at q
  split at q
  · rename_i y
    obtain ⟨p, d, rfl, h, fr⟩ := r1
    split at q
    · rename_i bb e
      exact .inr ⟨p, y.cls, d, bb, rfl, w1.sub _ _ h, (fun dd z => by
        rcases fr with ⟨_, z2⟩ | ⟨d2, fv, z2, z3, _⟩
        · rw [z2] at z; cases z
        · rw [z2] at z; cases z; exact ⟨fv, w1.sub _ _ z3⟩), e, q G1 H1 m1 _ e1 w1 (vrel_bool _)⟩
    · exact q.elim
  · split at q
    · rename_i t e
      exact .inl (gen t e q)
    · exact q.elim
/-! ### what a lambda raises, caught -/
def caughtF (sub : Str → Str → Option Bool) (cc : Str) (fe : DE) : DE := fun sl T Q _ => fe sl T (fun _ T1 => Q (.d .none) T1) (fun x T1 => sub x.cls cc = some true ∧ Q (.ex x) T1)
/-- all that x(lambda: ..) asks -/
structure CatchOk (X : Cx) (lv : Nat) (x ce : Str) : Prop where
  room : Room (lv + 2) X.A
  sub : ∀ (sub : Str → Str → Option Bool) (fe : DE) (t : XK → TE) (params : Arguments) (body : Expr) (scope : Scope) (p lpos pos : Pos), Gl X x → (x == ("__debug__" : Str)) = false → LamX.LamS X.env.scope scope → defaultsOf params X.env = ([], []) →
    (∀ (q : Str) (cl : List (Str × Addr)) (pm cv ctv : Value), bindArgs (PySem.W.kla_fn "<lambda>" q params body scope cl pm cv ctv) ⟨[], []⟩ = pure []) →
    (∀ (A : Around) (outer : List PySem.Env) (s : Shared) (H : Hp) (E : XK) (f c' : Addr), Room lv (A.deeper (LamX.lamEnv X scope s.heap.objs.size f c')) → PE (LamX.lamCx X A outer s H E scope f c') body (t E)) →
    PE X (.Call (.Name x p) [.Lambda params body scope lpos] [] pos) (LamX.tLam (tbOf X.K) (TTc X.K (.ref (He.ga X.K ce))) t)
theorem ext_n {K : PySem.W.Frag} {G H H1 : Hp} {m : Fp} {T : Tab} (w : WRel K G H m T) (e : LamX.ExtN H H1) (t : LamX.Tabs (tbOf K) H1) : Ext K G H m G H1 m ∧ WRel K G H1 m T := by
  have lv : ∀ a, Lv H a → Lv H1 a := fun a ⟨o, h, nt⟩ => ⟨o, e a o h nt, nt⟩
  refine ⟨⟨Sub.refl _, MSub.refl _, fun a o h _ nt => e a o h nt, lv, fun _ _ _ g => g, fun a h g => absurd h g, fun _ => t⟩, ?_⟩
  exact {
    sub := fun a o g => e a o (w.sub a o g) fun ps z => w.dat a ps (z ▸ g)
    len := w.len
    nd := w.nd
    al := fun a h => lv a (w.al a h)
    ob := fun k o h => by
      obtain ⟨fp, h1, h2⟩ := w.ob k o h
      exact ⟨fp, h1, h2.stay (Sub.refl _) (MSub.refl _) (fun _ _ g => g) fun a _ u q nt => e a u q nt⟩
    dat := w.dat
    tb := t }
theorem dpe_caught {sub : Str → Str → Option Bool} {lv : Nat} {x cc : Str} {params : Arguments} {body : Expr} {scope : Scope} {p lpos pos : Pos} {fe : DE} (C : CatchOk X lv x cc) (hsub : ∀ y, sub y cc = some true → PySem.W.exmOne X.K (.ref (He.ga X.K y)) (.ref (He.ga X.K cc)) = some true) (hg : Gl X x) (hd : (x == ("__debug__" : Str)) = false)
    (L : LamX.LamS X.env.scope scope) (hdef : defaultsOf params X.env = ([], [])) (hbind : ∀ (q : Str) (cl : List (Str × Addr)) (pm cv ctv : Value), bindArgs (PySem.W.kla_fn "<lambda>" q params body scope cl pm cv ctv) ⟨[], []⟩ = pure []) (me : Mono fe)
    (hbody : ∀ (A : Around) (outer : List PySem.Env) (s : Shared) (H : Hp) (E : XK) (f c' : Addr), Room lv (A.deeper (LamX.lamEnv X scope s.heap.objs.size f c')) → PE (LamX.lamCx X A outer s H E scope f c') body (LE X.K (fun cls d _ H => E cls d H) fe)) :
    DPE X W (.Call (.Name x p) [.Lambda params body scope lpos] [] pos) (caughtF sub cc fe) := by
  refine ⟨fun sl T Q Q' X X' hq hx q => me _ _ _ _ _ _ (fun v T1 q => hq _ _ q) (fun e T1 q => ⟨q.1, hq _ _ q.2⟩) q, PE.imp (C.sub sub fe (fun E => LE X.K (fun cls d _ H => E cls d H) fe) params body scope p lpos pos hg hd L hdef hbind hbody) fun σ H Q q => ?_⟩
  obtain ⟨G, m, sl, T, s, w, q⟩ := q
  refine ⟨w.tb, fun H1 en t1 => ?_⟩
  obtain ⟨e1, w1⟩ := ext_n w en t1
  show LE X.K (fun cls d _ H' => PySem.W.exmOne X.K cls (.ref (He.ga X.K cc)) = some true ∧ ∃ k : Str, cls = .ref (He.ga X.K k) ∧ ∀ a, H' a = none → Q (.ref a) (upd H' a (ExC X.K k d a))) fe σ H1 (fun _ H' => ∃ v : V, (some (some V.non) : Option (Option V)) = some (some v) ∧ Q v H')
  refine LE.intro me (s.ext e1) w1 q (fun v T1 G2 H2 m2 x q e2 w2 r2 => ⟨.non, rfl, q G2 H2 m2 .non (e1.trans e2) w2 vrel_none⟩) fun ex T1 G2 H2 m2 cls d q e2 w2 r2 => ?_
  obtain ⟨rc, rf⟩ := r2
  obtain ⟨q1, q⟩ := q
  refine ⟨by rw [rc]; exact hsub _ q1, ex.cls, rc, fun b hb => ?_⟩
  refine q _ _ m2 _ ((e1.trans e2).trans (Ext.laid w2 hb)) (w2.laid (o := ExC X.K ex.cls d b) hb (fun ps z => by cases z)) ?_
  exact ⟨b, d, rfl, upd_same, rf.mono (sub_upd (w2.gnone hb))⟩
end
end DL
namespace DL
open PySem PySem.Spec PyProof.Rows L2
/-- C's __init__ stands as DX asks -/
def IniAt (P : Program) (K : PySem.W.Frag) (x : Str) (ps : List Str) : Prop := ∃ f fd, DX.IniOk P K (He.ga K x) f ps fd
structure RaiseOkF (X : Cx) (x : Str) (ps : List Str) : Prop where
  mg : X.mg x = some (.ref (He.ga X.K x))
  fact : PySem.W.subIn X.K (.ref (He.ga X.K x)) (.type "BaseException") = some true
  ini : IniAt X.prog X.K x ps
  room : Room 2 X.A
theorem Paired.app {α β : Type} {F : α → β → Prop} : ∀ {xs us : List α} {ys vs : List β}, Paired F xs ys → Paired F us vs → Paired F (xs ++ us) (ys ++ vs)
  | _, _, _, _, .nil, r => r
  | _, _, _, _, .cons r t, q => .cons r (Paired.app t q)
theorem Paired.rev {α β : Type} {F : α → β → Prop} : ∀ {xs : List α} {ys : List β}, Paired F xs ys → Paired F xs.reverse ys.reverse
  | _, _, .nil => .nil
  | x :: xs, y :: ys, .cons r t => by
    rw [List.reverse_cons, List.reverse_cons]
    exact Paired.app (Paired.rev t) (.cons r .nil)
theorem zip_paired {K : PySem.W.Frag} {G : Hp} : ∀ {ps : List Str} {ds : List PyData} {vs : List V}, RpL K G ds vs → Paired (fun (p : Str × PyData) (q : Str × V) => p.1 = q.1 ∧ Rp K G p.2 q.2) (ps.zip ds) (ps.zip vs)
  | [], _, _, _ => .nil
  | p :: ps, [], vs, r => by
    simp only [RpL] at r
    subst r
    exact .nil
  | p :: ps, d :: ds, vs, r => by
    simp only [RpL] at r
    obtain ⟨v, s, rfl, q, l⟩ := r
    exact .cons ⟨rfl, q⟩ (zip_paired l)
theorem lookup_paired {F : PyData → V → Prop} {f : Str} {y : PyData} : ∀ {fs : List (Str × PyData)} {fv : List (Str × V)}, Paired (fun (p : Str × PyData) (q : Str × V) => p.1 = q.1 ∧ F p.2 q.2) fs fv → fs.lookup f = some y → ∃ v, fv.lookup f = some v ∧ F y v
  | _, _, .nil, h => by cases h
  | (k, x) :: fs, (k', v) :: fv, .cons r t, h => by
    obtain ⟨e, q⟩ := r
    simp only at e q
    subst e
    rw [lookup_put] at h ⊢
    split at h
    · rename_i hk
      cases h
      exact ⟨v, by rw [if_pos hk], q⟩
    · rename_i hk
      rw [if_neg hk]
      exact lookup_paired t h
where lookup_put {α : Type} {f g : Str} {y : α} {fs : List (Str × α)} : ((f, y) :: fs).lookup g = if g = f then some y else fs.lookup g := by
        by_cases h : g = f
        · subst h; simp [List.lookup]
        · have e : (g == f) = false := by simpa using h
          rw [if_neg h]; simp [List.lookup, e]
section
variable {X : Cx} {W : L2.WX} {a b c : Expr} {fa fb fc : DE} {pos : Pos} {es : List Expr} {fs : DA}
theorem dps_raiseF {x : Str} {ps : List Str} {p p3 : Pos} (hc : X.calm = true) (tk : L2.Takes X W) (R : RaiseOkF X x ps) (hg : Gl X x) (hd : (x == ("__debug__" : Str)) = false) (ha : DPA X W (a :: es) fs) (hs : (a :: es).all bare1 = true) :
    DPS X W (.Raise (some (.Call (.Name x p) (a :: es) [] p3)) none pos) (fun D sl T => fs sl T (fun vs T1 => raiseWF x ps vs T1 D.xc) D.xc) := by
  obtain ⟨f, fd, I⟩ := R.ini
  have hb1 : bare1 a = true := by simp only [List.all_cons, Bool.and_eq_true] at hs; exact hs.1
  have hb2 : es.all bare1 = true := by simp only [List.all_cons, Bool.and_eq_true] at hs; exact hs.2
  have hbind : Binds X.K fd (("self" : Str) :: ps) [] := by
    refine Binds.all fun us hl => ?_
    obtain ⟨_, _, _, _, _, _, _, _, _, _, _, _, _, _, _, _, _, _, _, _, _, _, _, _, _, _, _, _, _, _, hbind⟩ := I.fn
    exact hbind.2 us (by simpa using hl)
  refine ⟨fun D D' sl T h q => ha.mono _ _ _ _ _ _ (fun vs T1 q => ?_) h.2.2.2.2 q, PS.imp (ps_raise hc tk (pmk_oex (CX := L2.CX X.prog X.w) (k := 1) (ds := []) (dvs := []) I.oex I.ii I.it (DX.ini_run (k := 0) I) R.room hbind .nil (passes_call (E := fun _ _ _ => False) tk fun _ _ _ _ z => z.elim) hg R.mg ha.pa hd (starEach_bare hb1) (starEach_any hb2))) fun D σ H q => ?_⟩
  · unfold raiseWF at q ⊢
    split at q
    · exact ⟨q.1, h.2.2.2.2 _ _ q.2⟩
    · exact q
  · obtain ⟨G, m, sl, T, s, w, q⟩ := q
    refine LAr.intro ha.mono s w q (fun vs T1 G1 H1 m1 xs q e1 w1 r1 => ?_) fun e T' G' H' m' c d q x w r => q G' H' m' c d σ x w r
    unfold raiseWF at q
    split at q
    · rename_i ds hds
      obtain ⟨hl, q⟩ := q
      have rl := dats_rel hds r1
      have hlx : xs.length = ps.length := by rw [← rl.length, hl]
      refine ⟨by rw [hlx]; have := I.few; omega, fun n hn => ⟨n, xs, by rw [List.append_nil], hlx, upd_same, fun dx H2 h1 h2 h3 h4 h5 => ⟨rfl, dx, _, h3, h4, ?_, ?_⟩⟩⟩
      · rw [upd_ne h2] at h1
        exact h1
      · have hdx : H1 dx = none := by
          rw [upd_ne h2] at h1
          exact h1
        have eH : upd (del H2 n) dx (.xd (ps.zip xs).reverse) = upd H1 dx (.xd (ps.zip xs).reverse) := by
          funext b
          by_cases z1 : b = dx
          · rw [z1, upd_same, upd_same]
          · rw [upd_ne z1, upd_ne z1]
            by_cases z2 : b = n
            · rw [z2, del_same, hn]
            · rw [del_ne z2, h5 b z2 z1, upd_ne z2]
        rw [eH]
        refine q _ _ m1 _ _ σ (e1.trans (Ext.laid w1 hdx)) (w1.laid (o := .xd (ps.zip xs).reverse) hdx (fun ps z => by cases z)) ⟨rfl, .inr ⟨dx, _, rfl, upd_same, ?_⟩⟩
        exact Paired.rev (zip_paired (rl.upd (w1.gnone hdx)))
    · exact q.elim
/-! ### e.f, e a caught error -/
structure FldOk (K : PySem.W.Frag) (c f : Str) : Prop where
  exc : ExcC K (He.ga K c)
  no : PySem.W.findIn K (.ref (He.ga K c)) f = some none
def tFld (K : PySem.W.Frag) (c f : Str) (te : TE) : TE := fun σ H Q => te σ H fun x H1 => ∃ (a dd : Addr) (fs : List (Str × V)) (v : V), x = .ref a ∧ H1 a = some (ExC K c (some dd) a) ∧ H1 dd = some (.xd fs) ∧ fs.lookup f = some v ∧ Q v H1
theorem pe_fld {e : Expr} {te : TE} {c f : Str} (S : FldOk X.K c f) (he : PE X e te) (hb : attributeBase e f X.env (eval e X.env) = eval e X.env) : PE X (.Attribute e f pos) (tFld X.K c f te) := by
  refine ⟨fun pins s σ H Q I h => ?_⟩
  refine attr_of hb (thn (he.run pins s σ H _ I h) fun u s1 hh => ?_)
  obtain ⟨x, H1, I1, rx, a, dd, fs, v, ex, ha, ea, l, q⟩ := hh
  subst ex
  obtain rfl : u = Value.ref a := rx
  have hA : ObjOk X.prog X.w H1 s1.heap a (ExC X.K c (some dd) a) := I1.hok a _ ha
  obtain ⟨⟨oe, vs, g1, hz, hd⟩, _, _⟩ := hA
  have hx : ObjOk X.prog X.w H1 s1.heap dd (.xd fs) := I1.hok dd _ ea
  obtain ⟨mA, hns, hr⟩ := hx
  obtain ⟨od, ho, hl⟩ := lookIn_ns hns
  obtain ⟨u, hu, ru⟩ := RelO.some_of (v := v) (o := mA f) (by rw [← l]; exact hr f)
  have J : PySem.W.InstAt s1.heap a oe (He.ga X.K c) (some od) := ⟨g1, hz.1, by unfold PySem.W.notCls; rw [hd] <;> rfl, by rw [hz.2]; exact ho⟩
  exact PySem.HandSPX.exc_get I1.kIn J S.exc.hg S.exc.hk S.exc.hs (PySem.W.findObj_own S.exc.hd S.no rfl (by rw [hl, hu])) (handed_of ru) ⟨v, H1, I1.tok _, ru, q⟩
def fldF (c f : Str) (fa : DE) : DE := fun sl T Q X => fa sl T (fun v T1 => match fldV c f v with
  | some y => Q (.d y) T1
  | none => False) X
theorem dpe_fld {c f : Str} (S : FldOk X.K c f) (ha : DPE X W a fa) (hb : attributeBase a f X.env (eval a X.env) = eval a X.env) : DPE X W (.Attribute a f pos) (fldF c f fa) := by
  refine ⟨fun sl T Q Q' X X' hq hx q => ha.mono _ _ _ _ _ _ (fun v T1 q => ?_) hx q, PE.imp (pe_fld S ha.pe hb) fun σ H Q q => ?_⟩
  · split at q
    · exact hq _ _ q
    · exact q
  · obtain ⟨G, m, sl, T, s, w, q⟩ := q
    unfold fldF at q
    refine LE.intro ha.mono s w q (fun v T1 G1 H1 m1 x qv e1 w1 r1 => ?_) fun e T' G' H' m' c d q x w r => q G' H' m' c d x w r
    split at qv
    · rename_i y hy
      cases v with
      | ex x0 =>
        obtain ⟨p, d, rfl, h, fr⟩ := r1
        simp only [fldV] at hy
        split at hy
        · rename_i hc
          subst hc
          rcases fr with ⟨z, _⟩ | ⟨dd, fv, rfl, z3, z4⟩
          · rw [z] at hy; cases hy
          · obtain ⟨v, hv, rv⟩ := lookup_paired z4 hy
            exact ⟨p, dd, fv, v, rfl, w1.sub _ _ h, w1.sub _ _ z3, hv, qv G1 H1 m1 _ e1 w1 rv⟩
        · cases hy
      | _ => simp [fldV] at hy
    · exact qv.elim
end
end DL
namespace DL
open PySem PySem.Spec PyProof.Rows L2
/-! ### (a, *b) -/
section
variable {X : Cx} {W : L2.WX} {a b : Expr} {fa fb : DE} {pos sp : Pos}
theorem dpe_tupS {k : Nat} (ha : DPE X W a fa) (hb : DPE X W b fb) (h1 : bare1 a = true) : DPE X W (.Tuple [a, .Starred b sp] k pos) (fun sl T Q X => fa sl T (fun v T1 => fb sl T1 (fun u T2 => match v, u with
    | .d x, .d (.tuple xs) => xs.length < sizeLine ∧ Q (.d (.tuple (x :: xs))) T2
    | .d x, .d (.list xs) => xs.length < sizeLine ∧ Q (.d (.tuple (x :: xs))) T2
    | _, _ => False) X) X) := by
  refine ⟨fun sl T Q Q' X X' hq hx q => ha.mono _ _ _ _ _ _ (fun v T1 q => hb.mono _ _ _ _ _ _ (fun u T2 q => ?_) hx q) hx q, PE.imp (pe_tup (pa_cons ha.pe (StX.pa_star hb.pe pa_nil rfl) (starEach_bare h1))) fun σ H Q q => ?_⟩
  · split at q
    · exact ⟨q.1, hq _ _ q.2⟩
    · exact ⟨q.1, hq _ _ q.2⟩
    · exact q
  · obtain ⟨G, m, sl, T, s, w, q⟩ := q
    refine LE.intro ha.mono s w q (fun v T1 G1 H1 m1 x q e1 w1 r1 => ?_) fun e T' G' H' m' c d q x w r => q G' H' m' c d x w r
    refine LE.intro hb.mono (s.ext e1) w1 q (fun u T2 G2 H2 m2 y q e2 w2 r2 => ?_) fun e T' G' H' m' c d q x w r => q G' H' m' c d (e1.trans x) w r
    split at q
    · rename_i xd xs _
      have r2' : Rp X.K G2 (.tuple xs) y := r2
      simp only [Rp] at r2'
      obtain ⟨p, vs, rfl, h, l⟩ := r2'
      refine ⟨p, vs, rfl, .inl (w2.sub.sqT h), ?_⟩
      refine ⟨by simp; have := l.length; omega, fun p' hp => ?_⟩
      refine q.2 _ _ m2 _ ((e1.trans e2).trans (Ext.laid w2 hp)) (w2.laid hp) (rp_tup (.inl (.inl upd_same)) ?_)
      have l2 : RpL X.K G2 (xd :: xs) (x :: vs) := by simp only [RpL]; exact ⟨x, vs, rfl, Rp.mono e2.sub _ _ r1, l⟩
      simpa using l2.upd (w2.gnone hp)
    · rename_i xd xs _
      have r2' : Rp X.K G2 (.list xs) y := r2
      simp only [Rp] at r2'
      obtain ⟨p, vs, rfl, h, l⟩ := r2'
      refine ⟨p, vs, rfl, .inr (.inl (.inl (w2.sub _ _ h))), ?_⟩
      refine ⟨by simp; have := l.length; omega, fun p' hp => ?_⟩
      refine q.2 _ _ m2 _ ((e1.trans e2).trans (Ext.laid w2 hp)) (w2.laid hp) (rp_tup (.inl (.inl upd_same)) ?_)
      have l2 : RpL X.K G2 (xd :: xs) (x :: vs) := by simp only [RpL]; exact ⟨x, vs, rfl, Rp.mono e2.sub _ _ r1, l⟩
      simpa using l2.upd (w2.gnone hp)
    · exact q.elim
end
/-! ### a def as a value, and its call -/
section
variable {X : Cx} {W : L2.WX} {a : Expr} {es : List Expr} {fs : DA} {pos : Pos}
structure FvOk (X : Cx) (n : Nat) (x : Str) (dsp : DSp) (k : Nat) (fd : FuncData) (ps : List Str) : Prop where
  ok : FnOk X.prog X.w X.K X.mg X.base (L2.CX X.prog X.w) k (He.ga X.K x) fd ps (spOf X.K n dsp)
  mono : MonoS dsp
  room : Room k X.A
  mg : X.mg x = some (.ref (He.ga X.K x))
  keep : PySem.W.keepIn X.K (.ref (He.ga X.K x)) = true
  binds : Binds X.K fd ps []
theorem dpe_fnv {x : Str} {p : Pos} (hg : Gl X x) (hd : (x == ("__debug__" : Str)) = false) (hm : X.mg x = some (.ref (He.ga X.K x))) : DPE X W (.Name x p) (fun _ T Q _ => Q (.fn x) T) := by
  refine ⟨fun sl T Q Q' X X' hq hx q => hq _ _ q, PE.imp (pe_glob hg hm (v := .ref (He.ga X.K x)) rfl hd) fun σ H Q h => ?_⟩
  obtain ⟨G, m, sl, T, s, w, q⟩ := h
  exact q G H m _ (Ext.refl _ _ _) w rfl
/-- x(e, ..), x a name that holds one of some defs -/
def tCallB (K : PySem.W.Frag) (i : Nat) (E : L2.St → XK) (sps : List (Str × Sp)) (t : TA) : TE := fun σ H Q => ∃ x sp, σ[i]? = some (some (.ref (He.ga K x))) ∧ (x, sp) ∈ sps ∧ t σ H fun vs H1 => sp vs H1 Q (E σ)
theorem pe_callB {x : Str} {p : Pos} {i k : Nat} {e : Expr} {t : TA} {E : L2.St → XK} {sps : List (Str × Sp)} (hs : ∀ y sp, (y, sp) ∈ sps → ∃ fd ps, FnOk X.prog X.w X.K X.mg X.base (L2.CX X.prog X.w) k (He.ga X.K y) fd ps sp ∧ PySem.W.keepIn X.K (.ref (He.ga X.K y)) = true ∧ Binds X.K fd ps [])
    (hr : Room k X.A) (hN : X.N[i]? = some x) (hv : Vis X.env.scope x) (hx : ∀ σ, PassesAt (L2.CX X.prog X.w) X σ (E σ)) (ha : PA X (e :: es) t) (hdb : (x == ("__debug__" : Str)) = false) (hcd : (x == ("__classdict__" : Str)) = false)
    (he : starEach (e :: es) X.env = (false, eval e X.env) :: starEach es X.env) (hpl : (backTo pos (starEach es X.env)).any (·.1) = false) : PE X (.Call (.Name x p) (e :: es) [] pos) (tCallB X.K i E sps t) := by
  refine ⟨fun pins s σ H Q I h => ?_⟩
  obtain ⟨y, sp, h1, h2, h3⟩ := h
  obtain ⟨fd, ps, F, hk, hb⟩ := hs y sp h2
  refine wpAny_Call_Name_kw (thn ((pe_var (pos := p) hN hv hdb hcd).run pins s σ H (fun v H1 => v = .ref (He.ga X.K y) ∧ H1 = H) I ⟨.ref (He.ga X.K y), h1, rfl, rfl⟩) fun u s1 ⟨v, H1, I1, r1, q1⟩ => ?_)
  obtain ⟨rfl, rfl⟩ := q1
  cases r1
  refine PySem.W.callWith_K (h₀ := X.base) I.ok.mod.kin hk (thn (ha.run pos pins s1 σ _ _ I1 h3) fun us s2 ⟨vs, H2, I2, r, q⟩ => ⟨I2.kIn, ?_⟩) he hpl
  exact run_fnS F hr hb (hx σ) I2 r q
end
section
variable {X : Cx} {W : L2.WX} {a : Expr} {es : List Expr} {fs : DA} {pos : Pos}
theorem mem_of_lookup {α β : Type} [BEq α] [LawfulBEq α] {x : α} {y : β} : ∀ {l : List (α × β)}, l.lookup x = some y → (x, y) ∈ l
  | [], h => by cases h
  | (a, b) :: l, h => by
    rw [List.lookup_cons] at h
    split at h
    · rename_i e
      cases h
      rw [eq_of_beq e]
      simp
    · exact List.mem_cons_of_mem _ (mem_of_lookup h)
theorem dpe_callV {Γ : DL.Env} {x : Str} {p : Pos} {i lv n : Nat} {tb : List (Str × Nat)} (F : ∀ y f, (y, f) ∈ tb → ∃ k fd ps, k ≤ lv ∧ FvOk X n y (Γ.calls f) k fd ps)
    (tk : Takes X W) (h : DPA X W (a :: es) fs) (hN : X.N[i]? = some x) (hv : Vis X.env.scope x) (hd : (x == ("__debug__" : Str)) = false) (hcd : (x == ("__classdict__" : Str)) = false) (hs : (a :: es).all bare1 = true)
    (hlen : ∀ sl T Q X, fs sl T Q X → fs sl T (fun vs T => vs.length = n ∧ Q vs T) X) : DPE X W (.Call (.Name x p) (a :: es) [] pos) (fun sl T Q X => match getS sl i with
    | some (.fn x) => match tb.lookup x with
      | some f => fs sl T (fun vs T1 => callW (Γ.calls f) vs T1 Q X) X
      | none => False
    | _ => False) := by
  have hb1 : bare1 a = true := by simp only [List.all_cons, Bool.and_eq_true] at hs; exact hs.1
  have hb2 : es.all bare1 = true := by simp only [List.all_cons, Bool.and_eq_true] at hs; exact hs.2
  refine ⟨fun sl T Q Q' X X' hq hx q => ?_, ⟨fun pins s σ H Q I q => ?_⟩⟩
  · split at q
    · split at q
      · rename_i f e2
        obtain ⟨k, fd, ps, _, G⟩ := F _ _ (mem_of_lookup e2)
        exact h.mono _ _ _ _ _ _ (fun vs T1 q => callW_mono G.mono hq hx q) hx q
      · exact q.elim
    · exact q.elim
  · obtain ⟨G, m, sl, T, sr, w, q⟩ := q
    split at q
    · split at q
      · rename_i y e1 _ f e2
        obtain ⟨k, fd, ps, _, G'⟩ := F _ _ (mem_of_lookup e2)
        obtain ⟨v, hv1, hv2⟩ := sr.at_ i _ (getS_some e1)
        cases hv2
        refine (pe_callB (k := k) (sps := [(y, spOf X.K n (Γ.calls f))]) (E := WE W) (fun z sp hz => ?_) G'.room hN hv (fun σ => passAt tk σ) h.pa hd hcd (starEach_bare hb1) (starEach_any hb2)).run pins s σ H Q I ⟨y, spOf X.K n (Γ.calls f), hv1, List.mem_singleton.mpr rfl, ?_⟩
        · simp only [List.mem_singleton, Prod.mk.injEq] at hz
          obtain ⟨rfl, rfl⟩ := hz
          exact ⟨fd, ps, G'.ok, G'.keep, G'.binds⟩
        · refine LAr.intro h.mono sr w (hlen _ _ _ _ q) (fun v T1 G1 H1 m1 x q e1 w1 r1 => ?_) fun e T' G' H' m' c d q x w r => q G' H' m' c d x w r
          obtain ⟨hl, q⟩ := q
          rw [← hl]
          exact call_ok G'.mono w1 r1 q (fun v T' G' H' m' x z e w r => z G' H' m' x (e1.trans e) w r) fun e T' G' H' m' c d z x w r => z G' H' m' c d (e1.trans x) w r
      · exact q.elim
    · exact q.elim
end
/-! ### two fors -/
def tstF (fc : Option DE) (sl : Slots) (T : Tab) (k : Bool → Tab → Prop) : Prop := match fc with
  | none => k true T
  | some f => f sl T (fun t T1 => truW T1 t fun b => k b T1) (fun _ _ => False)
def stepO2 (own1 : List Nat) (fe : DE) (fc : Option DE) (p1 : Pat) (fi1 : DI) (fc1 : Option DE) (sl1 : Slots) (acc : List Val) (T : Tab) (k : List Val → Tab → Prop) : Prop :=
  tstF fc sl1 T fun b T1 => if b = true then fi1 sl1 T1 (fun xs1 src1 T2 => compW src1 (stepF own1 fe p1 fc1 sl1) xs1 acc T2 k) (fun _ _ => False) else k acc T1
def stepO (own own1 : List Nat) (fe : DE) (p : Pat) (fc : Option DE) (p1 : Pat) (fi1 : DI) (fc1 : Option DE) (sl : Slots) (x : Val) (acc : List Val) (T : Tab) (k : List Val → Tab → Prop) : Prop :=
  patW p x (wipeS sl own) T fun sl1 => stepO2 own1 fe fc p1 fi1 fc1 sl1 acc T k
theorem stepO_eq {own own1 : List Nat} {fe : DE} {p : Pat} {fc : Option DE} {p1 : Pat} {fi1 : DI} {fc1 : Option DE} {sl : Slots} {x : Val} {acc : List Val} {T : Tab} {k : List Val → Tab → Prop} (h : stepO own own1 fe p fc p1 fi1 fc1 sl x acc T k) :
  patW p x (wipeS sl own) T fun sl1 => stepO2 own1 fe fc p1 fi1 fc1 sl1 acc T k := h
def compF2 (own : List Nat) (fe : DE) (p : Pat) (fi : DI) (fc : Option DE) (own1 : List Nat) (p1 : Pat) (fi1 : DI) (fc1 : Option DE) (live : Bool) : DE := fun sl T Q X =>
  fi sl T (fun xs src T1 => compO src (stepO own own1 fe p fc p1 fi1 fc1 sl) xs [] T1 (finF live Q)) X
theorem compO_mono {src : Option (Nat × List Val)} {step : Val → List Val → Tab → (List Val → Tab → Prop) → Prop} (hs : ∀ x acc T (k k' : List Val → Tab → Prop), (∀ o T, k o T → k' o T) → step x acc T k → step x acc T k') {k k' : List Val → Tab → Prop} (h : ∀ ys T, k ys T → k' ys T) :
    ∀ (xs ys : List Val) (T : Tab), compO src step xs ys T k → compO src step xs ys T k'
  | [], ys, T, q => ⟨q.1, h _ _ q.2⟩
  | x :: r, ys, T, q => by
    simp only [compO] at q ⊢
    exact ⟨q.1, hs _ _ _ _ _ (fun o T1 z => compO_mono hs h _ _ _ z) q.2⟩
theorem tstF_mono {fc : Option DE} (mc : ∀ f, fc = some f → Mono f) {sl : Slots} {T : Tab} {k k' : Bool → Tab → Prop} (h : ∀ b T, k b T → k' b T) (q : tstF fc sl T k) : tstF fc sl T k' := by
  unfold tstF at q ⊢
  cases fc with
  | none => exact h _ _ q
  | some f => exact mc f rfl _ _ _ _ _ _ (fun v T q => truW_mono (fun b q => h _ _ q) q) (fun _ _ q => q) q
section
variable {X : Cx} {W : L2.WX} {tg iter tg1 iter1 elt : Expr} {ifs ifs1 : List Expr} {scope : Scope} {own : List (Str × Nat)} {own1 : List Nat} {fe : DE} {fi fi1 : DI} {fc fc1 : Option DE} {p p1 : Pat} {pos : Pos} {live : Bool}
theorem stepO_mono {vs : List Nat} {sl : Slots} (me : Mono fe) (mc : ∀ f, fc = some f → Mono f) (hi1 : MonoI fi1) (mc1 : ∀ f, fc1 = some f → Mono f) (x : Val) (acc : List Val) (T : Tab) (k k' : List Val → Tab → Prop) (h : ∀ o T, k o T → k' o T) (q : stepO vs own1 fe p fc p1 fi1 fc1 sl x acc T k) : stepO vs own1 fe p fc p1 fi1 fc1 sl x acc T k' := by
  unfold stepO stepO2 at q ⊢
  refine patW_mono p x _ _ _ (fun s q => tstF_mono mc (fun b T q => ?_) q) q
  cases b with
  | true =>
    rw [if_pos rfl] at q ⊢
    exact hi1 _ _ _ _ _ _ (fun xs src T2 q => compW_mono (fun x T k k' h q => stepF_mono me mc1 x T k k' h q) h _ _ _ q) (fun _ _ q => q) q
  | false =>
    rw [if_neg Bool.false_ne_true] at q ⊢
    exact h _ _ q
theorem comp2_mono (hi : MonoI fi) (me : Mono fe) (mc : ∀ f, fc = some f → Mono f) (hi1 : MonoI fi1) (mc1 : ∀ f, fc1 = some f → Mono f) {own : List Nat} : Mono (compF2 own fe p fi fc own1 p1 fi1 fc1 live) := fun sl T Q Q' X X' hq hx q =>
  hi _ _ _ _ _ _ (fun xs src T1 q => compO_mono (fun x acc T k k' h q => stepO_mono me mc hi1 mc1 x acc T k k' h q) (fun ys T q => finF_mono hq ys T q) _ _ _ q) hx q
/-- the list that grows at D, apart; R holds of what is made so far -/
def Grow (K : PySem.W.Frag) (D : Addr) (G1 H1 : Hp) (m1 : Fp) (R : List Val → Tab → Prop) (H2 : Hp) : Prop :=
  ∃ G2 m2 T2 ys us, Ext K G1 H1 m1 G2 H2 m2 ∧ WRel K G2 H2 m2 T2 ∧ H2 D = some (.lst us) ∧ G2 D = none ∧ D ∉ m2.flatten ∧ VRels K G2 m2 ys us ∧ R ys T2
/-- the inner loop -/
theorem lc_inner {K : PySem.W.Frag} {D : Addr} {G0 H0 G4 H4 : Hp} {m0 m4 : Fp} {T4 : Tab} {J1 : It} {xs1 : List Val} {src1 : Option (Nat × List Val)} {sl1 : Slots} {σ2 : L2.St} {ys : List Val} {us : List V} {k : List Val → Tab → Prop} {Nx : Hp → Prop} {vs1 : List Nat} (hD0 : H0 D = none)
    (me : Mono fe) (mc : ∀ f, fc1 = some f → Mono f) (hp : patIn vs1 p1 = true) (e0 : Ext K G0 H0 m0 G4 H4 m4) (w4 : WRel K G4 H4 m4 T4) (it : ItOk K G4 H4 m4 J1 xs1 src1) (s4 : SRel K G4 m4 sl1 σ2) (hD4 : H4 D = some (.lst us)) (gD4 : G4 D = none) (mD4 : D ∉ m4.flatten) (l4 : VRels K G4 m4 ys us)
    (q : compW src1 (stepF vs1 fe p1 fc1 sl1) xs1 ys T4 k) (hNx : ∀ H, Grow K D G0 H0 m0 k H → Nx H) :
    ∃ W1 : Nat → Nat → Hp → Prop, (∃ m, W1 0 m H4) ∧ ∀ j m H, W1 j m H → (J1.stop j H ∧ Nx H) ∨ (J1.go j H ∧ ∃ Nx1 : Hp → Prop, (∀ H', Nx1 H' → ∃ m', m' < m ∧ W1 (j + 1) m' H') ∧ ∀ x H', J1.yld j H x H' → gP K p1 x (wipe σ2 vs1) H' fun σ3 H5 => wipe σ3 vs1 = wipe σ2 vs1 ∧ ttOf K fc1 σ3 H5 fun b H6 =>
        if b = true then LE K WN fe σ3 H6 fun y H7 => ∃ acc, H7 D = some (.lst acc) ∧ acc.length < sizeLine ∧ Nx1 (upd H7 D (.lst (acc ++ [y]))) else Nx1 H6) := by
  refine ⟨fun j m H => m = xs1.length - j ∧ j ≤ xs1.length ∧ ∃ G2 m2 T2 ys us, Fr G4 m4 G2 m2 ∧ Ext K G0 H0 m0 G2 H m2 ∧ WRel K G2 H m2 T2 ∧ H D = some (.lst us) ∧ G2 D = none ∧ D ∉ m2.flatten ∧ VRels K G2 m2 ys us ∧ compW src1 (stepF vs1 fe p1 fc1 sl1) (xs1.drop j) ys T2 k,
    ⟨xs1.length, by simp, Nat.zero_le _, G4, m4, T4, ys, us, Fr.refl _ _, e0, w4, hD4, gD4, mD4, l4, by simpa using q⟩, ?_⟩
  rintro j mm H2 ⟨rfl, hj, G2, m2, T2, ys, us, e2, e02, w2, hD2, gD2, mD2, l2, q2⟩
  by_cases hlt : j < xs1.length
  · have ed : xs1.drop j = xs1[j] :: xs1.drop (j + 1) := List.drop_eq_getElem_cons hlt
    rw [ed] at q2
    simp only [compW] at q2
    obtain ⟨st, q2⟩ := q2
    obtain ⟨go, yl⟩ := (it G2 H2 m2 T2 e2 w2 st).1 j _ (List.getElem?_eq_getElem hlt)
    refine .inr ⟨go, _, fun H' z => ⟨xs1.length - (j + 1), by omega, z⟩, fun v H3 y => ?_⟩
    obtain ⟨G3, e3, w3, r3⟩ := yl v H3 y
    obtain ⟨hD3, gD3, mD3⟩ := apart_step e3 hD2 gD2 mD2
    have s3 : SRel K G3 m2 (wipeS sl1 vs1) (wipe σ2 vs1) := (wipe_rel (s4.mono e2.sub e2.ms) vs1).ext e3
    have q2 := stepF_eq q2
    have z := pat_ok w3 p1 _ v _ _ _ (fun σ' H' => H' = H3 ∧ ∃ sl', SRel K G3 m2 sl' σ' ∧ stepF2 fe fc1 sl' T2 _) r3 s3 q2 fun sl' σ' s' k => ⟨rfl, sl', s', k⟩
    have z2 := gP_wipe (own := vs1) p1 v (wipe σ2 vs1) H3 _ hp z
    refine gP_mono p1 v (wipe σ2 vs1) H3 _ _ (fun σ' H' z => ?_) z2
    obtain ⟨ew, rfl, sl', s', k2⟩ := z
    rw [wipe_idem] at ew
    refine ⟨ew, ?_⟩
    have elem : ∀ (G5 H5 : Hp) (m5 : Fp) (T5 : Tab), Ext K G3 H' m2 G5 H5 m5 → WRel K G5 H5 m5 T5 →
        fe sl' T5 (fun v T2 => ys.length < sizeLine ∧ compW src1 (stepF vs1 fe p1 fc1 sl1) (xs1.drop (j + 1)) (ys ++ [v]) T2 k) (fun _ _ => False) →
        LE K WN fe σ' H5 fun y H7 => ∃ acc, H7 D = some (.lst acc) ∧ acc.length < sizeLine ∧ (xs1.length - (j + 1) = xs1.length - (j + 1) ∧ j + 1 ≤ xs1.length ∧ ∃ G2 m2 T2 ys us, Fr G4 m4 G2 m2 ∧ Ext K G0 H0 m0 G2 (upd H7 D (.lst (acc ++ [y]))) m2 ∧ WRel K G2 (upd H7 D (.lst (acc ++ [y]))) m2 T2 ∧ (upd H7 D (.lst (acc ++ [y]))) D = some (.lst us) ∧ G2 D = none ∧ D ∉ m2.flatten ∧ VRels K G2 m2 ys us ∧ compW src1 (stepF vs1 fe p1 fc1 sl1) (xs1.drop (j + 1)) ys T2 k) := by
      intro G5 H5 m5 T5 e5 w5 q5
      refine LE.intro me (s'.ext e5) w5 q5 (fun yv T6 G6 H6 m6 yy q6 e6 w6 r6 => ?_) (fun _ _ _ _ _ _ _ z => z.elim)
      obtain ⟨hD6, gD6, mD6⟩ := apart_step (e5.trans e6) hD3 gD3 mD3
      have w7 := w6.apart (o := .lst (us ++ [yy])) gD6 mD6 (tabs_upd hD6 w6.tb)
      refine ⟨us, hD6, by rw [← Paired.length l2]; exact q6.1, rfl, hlt, G6, m6, T6, ys ++ [yv], us ++ [yy], ?_, ?_, w7, upd_same, gD6, mD6, ?_, q6.2⟩
      · exact ((e2.trans e3.fr).trans e5.fr).trans e6.fr
      · exact (((e02.trans e3).trans e5).trans e6).apart hD0 hD6
      · exact VRels.app (l2.mono ((e3.sub.trans e5.sub).trans e6.sub) ((e3.ms.trans e5.ms).trans e6.ms)) (.cons r6 .nil)
    cases fc1 with
    | none =>
      rw [show ttOf K none = tYes from rfl]
      unfold stepF2 at k2
      refine tYes_then ?_
      exact elem G3 H' m2 T2 (Ext.refl _ _ _) w3 k2
    | some f =>
      unfold stepF2 at k2
      refine LT.intro (mc f rfl) s' w3 k2 (fun t T5 q => truW_mono (fun b q G5 H5 m5 e5 w5 => ?_) q) (fun _ _ _ _ _ _ _ z => z.elim)
      cases b with
      | true =>
        rw [if_pos rfl] at q ⊢
        exact elem G5 H5 m5 T5 e5 w5 q
      | false =>
        rw [if_neg Bool.false_ne_true] at q ⊢
        obtain ⟨hD5, gD5, mD5⟩ := apart_step e5 hD3 gD3 mD3
        exact ⟨rfl, hlt, G5, m5, T5, ys, us, (e2.trans e3.fr).trans e5.fr, (e02.trans e3).trans e5, w5, hD5, gD5, mD5, l2.mono (e3.sub.trans e5.sub) (e3.ms.trans e5.ms), q⟩
  · have ei : j = xs1.length := by omega
    subst ei
    rw [List.drop_length] at q2
    simp only [compW] at q2
    exact .inl ⟨(it G2 H2 m2 T2 e2 w2 q2.1).2 _ (Nat.le_refl _), hNx _ ⟨G2, m2, T2, ys, us, e02, w2, hD2, gD2, mD2, l2, q2.2⟩⟩
theorem lc2_main {σ : L2.St} {H : Hp} {Q : VK} (hi : MonoI fi) (me : Mono fe) (mc : ∀ f, fc = some f → Mono f) (hi1 : MonoI fi1) (mc1 : ∀ f, fc1 = some f → Mono f) (hp : patIn (own.map (·.2)) p = true) (hp1 : patIn own1 p1 = true)
    (q : LE X.K W (compF2 (own.map (·.2)) fe p fi fc own1 p1 fi1 fc1 live) σ H Q) : tLc2 (LI X.K W fi) (gP X.K p) (ttOf X.K fc) (LI X.K WN fi1) (gP X.K p1) (ttOf X.K fc1) (LE X.K WN fe) (own.map (·.2)) own1 σ H Q := by
  obtain ⟨G, m, sl, T, s, w, q⟩ := q
  refine ⟨G, m, sl, T, s, w, hi _ _ _ _ _ _ (fun xs src T1 q G1 H1 m1 J e1 w1 it D hD => ?_) (fun e T' q => q) q⟩
  generalize hown : own.map (·.2) = vs at *
  refine ⟨fun i mm H2 => mm = xs.length - i ∧ i ≤ xs.length ∧ Grow X.K D G1 H1 m1 (fun ys T2 => compO src (stepO vs own1 fe p fc p1 fi1 fc1 sl) (xs.drop i) ys T2 (finF live fun v T' => ∀ G' H' m' x, Ext X.K G H m G' H' m' → WRel X.K G' H' m' T' → VRel X.K G' m' v x → Q x H')) H2,
    ⟨xs.length, by simp, Nat.zero_le _, G1, m1, T1, [], [], ?_, ?_, upd_same, w1.gnone hD, w1.notin hD, .nil, by simpa using q⟩, ?_⟩
  · have k : ∀ a u, H1 a = some u → upd H1 D (.lst []) a = some u := fun a u e => by rw [upd_ne (ne_of_none e hD)]; exact e
    exact .of_new (Sub.refl _) (MSub.refl _) (fun a u e _ => k a u e) (fun a h => h.upd fun z => not_lv hD (z ▸ h)) (fun a _ _ g => g) (fun a h g => absurd h g) fun a u e _ => k a u e
  · exact w1.apart (w1.gnone hD) (w1.notin hD) (tabs_new hD w1.tb)
  · rintro i mm H2 ⟨rfl, hi', G2, m2, T2, ys, us, e2, w2, hD2, gD2, mD2, l2, q2⟩
    by_cases hlt : i < xs.length
    · have ed : xs.drop i = xs[i] :: xs.drop (i + 1) := List.drop_eq_getElem_cons hlt
      rw [ed] at q2
      simp only [compO] at q2
      obtain ⟨st, q2⟩ := q2
      obtain ⟨go, yl⟩ := (it G2 H2 m2 T2 e2.fr w2 st).1 i _ (List.getElem?_eq_getElem hlt)
      refine .inr ⟨go, fun H' => (xs.length - (i + 1) = xs.length - (i + 1) ∧ i + 1 ≤ xs.length ∧ Grow X.K D G1 H1 m1 (fun ys T2 => compO src (stepO vs own1 fe p fc p1 fi1 fc1 sl) (xs.drop (i + 1)) ys T2 (finF live fun v T' => ∀ G' H' m' x, Ext X.K G H m G' H' m' → WRel X.K G' H' m' T' → VRel X.K G' m' v x → Q x H')) H'), fun H' z => ⟨xs.length - (i + 1), by omega, z⟩, fun v H3 y => ?_⟩
      obtain ⟨G3, e3, w3, r3⟩ := yl v H3 y
      obtain ⟨hD3, gD3, mD3⟩ := apart_step e3 hD2 gD2 mD2
      have s3 : SRel X.K G3 m2 (wipeS sl vs) (wipe σ vs) := (wipe_rel s vs).ext ((e1.trans e2).trans e3)
      have q2 := stepO_eq q2
      have z := pat_ok w3 p _ v _ _ _ (fun σ' H' => H' = H3 ∧ ∃ sl', SRel X.K G3 m2 sl' σ' ∧ stepO2 own1 fe fc p1 fi1 fc1 sl' ys T2 _) r3 s3 q2 fun sl' σ' s' k => ⟨rfl, sl', s', k⟩
      have z2 := gP_wipe (own := vs) p v (wipe σ vs) H3 _ hp z
      refine gP_mono p v (wipe σ vs) H3 _ _ (fun σ' H' z => ?_) z2
      obtain ⟨ew, rfl, sl', s', k⟩ := z
      rw [wipe_idem] at ew
      refine ⟨ew, ?_⟩
      have inner : ∀ (G4 H4 : Hp) (m4 : Fp) (T4 : Tab), Ext X.K G3 H' m2 G4 H4 m4 → WRel X.K G4 H4 m4 T4 →
          fi1 sl' T4 (fun xs1 src1 T2 => compW src1 (stepF own1 fe p1 fc1 sl') xs1 ys T2 (fun ys T2 => compO src (stepO vs own1 fe p fc p1 fi1 fc1 sl) (xs.drop (i + 1)) ys T2 (finF live fun v T' => ∀ G' H' m' x, Ext X.K G H m G' H' m' → WRel X.K G' H' m' T' → VRel X.K G' m' v x → Q x H'))) (fun _ _ => False) →
          LI X.K WN fi1 σ' H4 fun J1 H4 => ∃ W1 : Nat → Nat → Hp → Prop, (∃ m, W1 0 m H4) ∧ ∀ j mj H0, W1 j mj H0 → (J1.stop j H0 ∧ (xs.length - (i + 1) = xs.length - (i + 1) ∧ i + 1 ≤ xs.length ∧ Grow X.K D G1 H1 m1 (fun ys T2 => compO src (stepO vs own1 fe p fc p1 fi1 fc1 sl) (xs.drop (i + 1)) ys T2 (finF live fun v T' => ∀ G' H' m' x, Ext X.K G H m G' H' m' → WRel X.K G' H' m' T' → VRel X.K G' m' v x → Q x H')) H0)) ∨ (J1.go j H0 ∧ ∃ Nx1 : Hp → Prop, (∀ H', Nx1 H' → ∃ m', m' < mj ∧ W1 (j + 1) m' H') ∧ ∀ x H', J1.yld j H0 x H' → gP X.K p1 x (wipe σ' own1) H' fun σ3 H5 => wipe σ3 own1 = wipe σ' own1 ∧ ttOf X.K fc1 σ3 H5 fun b H6 =>
            if b = true then LE X.K WN fe σ3 H6 fun y H7 => ∃ acc, H7 D = some (.lst acc) ∧ acc.length < sizeLine ∧ Nx1 (upd H7 D (.lst (acc ++ [y]))) else Nx1 H6) := by
        intro G4 H4 m4 T4 e4 w4 q4
        refine ⟨G4, m4, sl', T4, s'.ext e4, w4, hi1 _ _ _ _ _ _ (fun xs1 src1 T5 q5 G5 H5 m5 J1 e5 w5 it1 => ?_) (fun _ _ z => z.elim) q4⟩
        obtain ⟨hD5, gD5, mD5⟩ := apart_step (e4.trans e5) hD3 gD3 mD3
        exact lc_inner hD me mc1 hp1 (((e2.trans e3).trans e4).trans e5) w5 it1 (s'.ext (e4.trans e5)) hD5 gD5 mD5 (l2.mono ((e3.sub.trans e4.sub).trans e5.sub) ((e3.ms.trans e4.ms).trans e5.ms)) q5 fun H0 g => ⟨rfl, hlt, g⟩
      unfold stepO2 at k
      cases fc with
      | none =>
        rw [show ttOf X.K none = tYes from rfl]
        refine tYes_then ?_
        simp only [tstF, if_true] at k
        exact inner G3 H' m2 T2 (Ext.refl _ _ _) w3 k
      | some f =>
        simp only [tstF] at k
        refine LT.intro (mc f rfl) s' w3 k (fun t T4 q => truW_mono (fun b q G4 H4 m4 e4 w4 => ?_) q) (fun _ _ _ _ _ _ _ z => z.elim)
        cases b with
        | true =>
          rw [if_pos rfl] at q ⊢
          exact inner G4 H4 m4 T4 e4 w4 q
        | false =>
          rw [if_neg Bool.false_ne_true] at q ⊢
          obtain ⟨hD4, gD4, mD4⟩ := apart_step e4 hD3 gD3 mD3
          exact ⟨rfl, hlt, G4, m4, T4, ys, us, (e2.trans e3).trans e4, w4, hD4, gD4, mD4, l2.mono (e3.sub.trans e4.sub) (e3.ms.trans e4.ms), q⟩
    · have ei : i = xs.length := by omega
      subst ei
      rw [List.drop_length] at q2
      simp only [compO] at q2
      refine .inl ⟨(it G2 H2 m2 T2 e2.fr w2 q2.1).2 _ (Nat.le_refl _), ?_⟩
      have q2 := q2.2
      unfold finF at q2
      cases live with
      | true => exact q2 G2 H2 (m2 ++ [[D]]) _ (e1.trans (e2.adopt hD)) (w2.adopt hD2 gD2 mD2 l2) (vrel_last w2.len)
      | false =>
        simp only at q2
        cases e : dats ys with
        | none => rw [e] at q2; exact q2.elim
        | some ds =>
          rw [e] at q2
          exact q2 (upd G2 D (.lst us)) H2 m2 _ (e1.trans (e2.settle hD gD2)) (w2.settle hD2 gD2 mD2) (rp_list upd_same ((dats_rel e l2).upd gD2))
theorem dpe_comp2 (hc : X.calm = true) (hN : X.N.Nodup) (hi : DPI X W tg iter fi) (ok : BlkOk X.N X.env.scope scope own) (hv : ∀ i ∈ own1, i ∈ own.map (·.2)) (hp : patIn (own.map (·.2)) p = true) (hp1 : patIn own1 p1 = true)
    (hg : ∀ (s : Shared) (H : Hp) (C : Addr) (cl : List (Str × Addr)) (fp : List Addr), PG (X.blk s H scope (compEnvC scope cl C X.env) fp) tg (gP X.K p)) (ht : ∀ (s : Shared) (H : Hp) (C : Addr) (cl : List (Str × Addr)) (fp : List Addr), PTs (X.blk s H scope (compEnvC scope cl C X.env) fp) ifs (ttOf X.K fc))
    (hi1 : ∀ (s : Shared) (H : Hp) (C : Addr) (cl : List (Str × Addr)) (fp : List Addr), PI (X.blk s H scope (compEnvC scope cl C X.env) fp) tg1 iter1 (LI X.K WN fi1)) (mi1 : MonoI fi1)
    (hg1 : ∀ (s : Shared) (H : Hp) (C : Addr) (cl : List (Str × Addr)) (fp : List Addr), PG (X.blk s H scope (compEnvC scope cl C X.env) fp) tg1 (gP X.K p1)) (ht1 : ∀ (s : Shared) (H : Hp) (C : Addr) (cl : List (Str × Addr)) (fp : List Addr), PTs (X.blk s H scope (compEnvC scope cl C X.env) fp) ifs1 (ttOf X.K fc1))
    (he : ∀ (s : Shared) (H : Hp) (C : Addr) (cl : List (Str × Addr)) (fp : List Addr), PE (X.blk s H scope (compEnvC scope cl C X.env) fp) elt (LE X.K WN fe)) (me : Mono fe) (mc : ∀ f, fc = some f → Mono f) (mc1 : ∀ f, fc1 = some f → Mono f) (hs : ∀ x, foldedSetIterable iter X.env x = pure x) (hs1 : ∀ env x, foldedSetIterable iter1 env x = pure x) :
    DPE X W (.ListComp elt [⟨tg, iter, ifs, 0⟩, ⟨tg1, iter1, ifs1, 0⟩] scope pos) (compF2 (own.map (·.2)) fe p fi fc own1 p1 fi1 fc1 live) :=
  ⟨comp2_mono hi.mono me mc mi1 mc1, PE.imp (pe_lc2 hc hN hi.pi ok hv hg ht hi1 hg1 ht1 he hs hs1) fun σ H Q q => lc2_main hi.mono me mc mi1 mc1 hp hp1 q⟩
end
end DL
namespace DL
open PySem PySem.Spec PyProof.Rows L2
/-! ### the checker: does a tree of the row read as this term -/
structure CkI where
  N : List Str
  names : List (Str × NameKind)
  cl : Bool
  fns : List (Str × Nat)
  free : List Str
  globs : List Str
  kfn : List (Str × Nat × Nat × List Str × List Nat) := []
  fvs : List (Str × Nat × Nat) := []
  lv : Nat := 0
  lam : Bool := false
  cfun : Str := ""
  cexc : Str := ""
  excs : List Str := []
  xfs : List (Str × List Str) := []
  flds : List (Str × Str) := []
  clss : List Str := []
/-- no parameters -/
def noPar : Arguments → Bool
  | ⟨[], [], none, [], [], none, []⟩ => true
  | _ => false
def glN (names : List (Str × NameKind)) (x : Str) : Bool := match names.lookup x with
  | some .globalImplicit => !(x == ("__debug__" : Str))
  | _ => false
def visN (names : List (Str × NameKind)) (x : Str) : Bool := match names.lookup x with
  | some .local => !(x == ("__debug__" : Str)) && !(x == ("__classdict__" : Str))
  | some .cell => !(x == ("__debug__" : Str)) && !(x == ("__classdict__" : Str))
  | some .free => !(x == ("__debug__" : Str)) && !(x == ("__classdict__" : Str))
  | _ => false
def bltN (C : CkI) (x : Str) : Bool := glN C.names x && C.free.contains x && !(x == ("__name__" : Str))
def plainIxB : Expr → Bool
  | .Name .. => true
  | .Constant .. => true
  | .BinOp .. => true
  | .UnaryOp .. => true
  | .Call .. => true
  | .Subscript .. => true
  | .IfExp .. => true
  | .Tuple .. => true
  | _ => false
def isNm : Expr → Bool
  | .Name .. => true
  | _ => false
/-- x(e, ..): its name, its values -/
def callParts : Expr → Option (Str × Expr × List Expr)
  | .Call g as ks _ => match g, as, ks with
    | .Name x _, a :: as, [] => some (x, a, as)
    | _, _, _ => none
  | _ => none
def chkC : PyData → Expr → Bool
  | .none, .Constant .none _ _ => true
  | .bool b, .Constant (.bool c) _ _ => b == c
  | .int i, .Constant (.int j) _ _ => i == j
  | .str s, .Constant (.str t) _ _ => s == t
  | _, _ => false
def biName : Bi → Str
  | .len => "len" | .int => "int" | .str => "str" | .abs => "abs" | .min => "min" | .max => "max" | .list => "list" | .tuple => "tuple" | .sum => "sum" | .all => "all" | .any => "any" | .bool => "bool"
def mtName : Mt → Str
  | .append => "append" | .pop => "pop" | .popAt => "pop" | .extend => "extend" | .clear => "clear" | .insert => "insert" | .split => "split" | .join => "join" | .index => "index" | .upper => "upper"
def mtSup : Mt → Bool
  | .append => true | .extend => true | .pop => true | .clear => true | .split => true | .popAt => true | .upper => true
  | _ => false
def ownOf (N : List Str) (own : List Nat) : List (Str × Nat) := own.map fun i => (N.getD i "", i)
theorem ownOf_snd (N : List Str) (own : List Nat) : (ownOf N own).map (·.2) = own := by
  unfold ownOf
  rw [List.map_map]
  show own.map (fun i => i) = own
  simp
def notSetB : Expr → Bool
  | .Set .. => false
  | _ => true
def notCompB : Expr → Bool
  | .ListComp .. => false
  | .SetComp .. => false
  | .DictComp .. => false
  | _ => true
def tysB (C : CkI) : List String → List Expr → Bool
  | [], [] => true
  | t :: ts, .Name x _ :: es => (x == (t : Str)) && isTyName t && bltN C x && tysB C ts es
  | _, _ => false
/-- a test that is no form of its own -/
def plainTB : Expr → Bool
  | .UnaryOp p _ _ => match p with
    | .Not => false
    | _ => true
  | .BoolOp .. => false
  | .IfExp .. => false
  | .Compare .. => false
  | _ => true
def scOf (names : List (Str × NameKind)) : Scope := ⟨.function, names, false, false, []⟩
/-- the names of a comprehension's block as they run: what is free and a cell outside is a cell -/
def relN (outer names : List (Str × NameKind)) : List (Str × NameKind) := names.map fun (n, k) => if (k == .free && true && outer.lookup n == some .cell) then (n, .cell) else (n, k)
mutual
def chkE (C : CkI) : E → Expr → Bool
  | .var i, .Name x _ => decide (C.N[i]? = some x) && visN C.names x
  | .cst v, e => chkC v e
  | .glb n, .Name x _ => decide (C.globs[n]? = some x) && glN C.names x
  | .tup es, .Tuple l _ _ => chkEs C es l
  | .lst es, .List l _ => chkEs C es l
  | .lstO es, .List l _ => chkEs C es l
  | .bin o a b, .BinOp l p r _ => decide (p = o) && chkE C a l && chkE C b r
  | .cmp o a b, .Compare l ops rs _ => match ops, rs with
    | [p], [r] => decide (p = o) && chkE C a l && chkE C b r && !behindInMarks o r
    | _, _ => false
  | .chain o o' a b c, .Compare l ops rs _ => match ops, rs with
    | [p, p'], [r, r'] => decide (p = o) && decide (p' = o') && chkE C a l && chkE C b r && chkE C c r' && !lastMarks [o, o'] [r, r']
    | _, _ => false
  | .neg a, .UnaryOp p e _ => decide (p = .USub) && chkE C a e
  | .not a, .UnaryOp p e _ => decide (p = .Not) && chkE C a e
  | .and a b, .BoolOp p vs pos => decide (p = .And) && match vs with
    | x :: y :: rest => chkE C a x && chkE C b (match rest with
      | [] => y
      | _ => .BoolOp .And (y :: rest) pos)
    | _ => false
  | .or a b, .BoolOp p vs pos => decide (p = .Or) && match vs with
    | x :: y :: rest => chkE C a x && chkE C b (match rest with
      | [] => y
      | _ => .BoolOp .Or (y :: rest) pos)
    | _ => false
  | .ife c a b, .IfExp t x y _ => chkE C c t && chkE C a x && chkE C b y
  | .idx a i, .Subscript x s _ => chkE C a x && chkE C i s && plainIxB s
  | .slc a lo hi, .Subscript x s _ => match s with
    | .Slice l h st _ => chkE C a x && chkO C lo l && chkO C hi h && st.isNone
    | _ => false
  | .isi a ts, .Call f as ks _ => match f, as, ks with
    | .Name f _, [x, y], [] => (f == ("isinstance" : Str)) && bltN C f && bare1 x && chkE C a x && match y with
      | .Tuple es _ _ => tysB C ts es && decide (ts.length ≤ 10)
      | .Name u p => match ts with
        | [t] => tysB C [t] [.Name u p]
        | _ => false
      | _ => false
    | _, _, _ => false
  | .bi f es, .Call g as ks _ => match g, ks with
    | .Name x _, [] => (x == biName f) && bltN C x && !as.isEmpty && as.all bare1 && chkEs C es as
    | _, _ => false
  | .mt f o es, .Call g as ks cpos => match g, ks with
    | .Attribute ob m apos, [] => (m == mtName f) && mtSup f && notSuper ob && (apos.endLine == cpos.line) && decide (as.length < 30) && as.all bare1 && chkE C o ob && chkEs C es as
    | _, _ => false
  | .call f es, .Call g as ks _ => match g, ks, C.fns[f]? with
    | .Name x _, [], some (y, n) => (x == y) && glN C.names x && decide (as.length = n) && !as.isEmpty && as.all bare1 && chkEs C es as
    | _, _, _ => false
  | .call0 f, .Call g as ks _ => match g, as, ks, C.fns[f]? with
    | .Name x _, [], [], some (y, n) => (x == y) && glN C.names x && decide (0 = n)
    | _, _, _, _ => false
  | .comp own elt p it c live, .ListComp el gs scope _ => match gs with
    | [⟨tg, iter, ifs, k⟩] => decide (k = 0) && (blkC C.N (scOf C.names) scope (ownOf C.N own) && patIn own p && chkP C.N (relN C.names scope.names) false p tg && chkI C it tg iter && notSetB iter && chkE { C with names := relN C.names scope.names, cl := false, lam := false } elt el && (match ifs with
      | [] => chkO { C with names := relN C.names scope.names, cl := false, lam := false } c none
      | [t] => chkO { C with names := relN C.names scope.names, cl := false, lam := false } c (some t)
      | _ => false))
    | _ => false
  | .callK j f pm es es2, .Call g as kws _ => match g, C.kfn[j]? with
    | .Name x _, some (y, f', n, ks, pm') => (x == y) && decide (f' = f) && glN C.names x && decide (as.length = n) && as.all bare1 && chkEs C es as && chkKs C es2 kws ks && decide (pm' = pm)
    | _, _ => false
  | .tupS a b, .Tuple l _ _ => match l with
    | [x, y] => match y with
      | .Starred y _ => bare1 x && chkE C a x && chkE C b y
      | _ => false
    | _ => false
  | .fnv x, .Name y _ => (x == y) && glN C.names y && (C.fvs.any fun p => p.1 == x)
  | .callV i tb es, .Call g as ks _ => match g, ks with
    | .Name y _, [] => decide (C.N[i]? = some y) && visN C.names y && (tb.all fun p => C.fvs.contains (p.1, p.2, as.length)) && !as.isEmpty && as.all bare1 && chkEs C es as
    | _, _ => false
  | .comp2 own elt p it c own1 p1 it1 c1 live, .ListComp el gs scope _ => match gs with
    | g0 :: g1 :: gr => gr.isEmpty && (decide (g0.is_async = 0) && (decide (g1.is_async = 0) && (blkC C.N (scOf C.names) scope (ownOf C.N own) && patIn own p && chkP C.N (relN C.names scope.names) false p g0.target && chkI C it g0.target g0.iter && notSetB g0.iter && chkE { C with names := relN C.names scope.names, cl := false, lam := false } elt el && chkOL { C with names := relN C.names scope.names, cl := false, lam := false } c g0.ifs && (own1.all fun i => own.contains i) && patIn own1 p1 && chkP C.N (relN C.names scope.names) false p1 g1.target && chkI { C with names := relN C.names scope.names, cl := false, lam := false } it1 g1.target g1.iter && notSetB g1.iter && chkOL { C with names := relN C.names scope.names, cl := false, lam := false } c1 g1.ifs)))
    | _ => false
  | .dgt a i, .Subscript x s _ => chkE C a x && chkE C i s && plainIxB s
  | .get2 o k d, .Call g as ks cpos => match g, as, ks with
    | .Attribute ob m apos, [x, y], [] => (m == ("get" : Str)) && notSuper ob && (apos.endLine == cpos.line) && bare1 x && bare1 y && chkE C o ob && chkE C k x && chkE C d y
    | _, _, _ => false
  | .kin neg k d, .Compare l ops rs _ => match ops, rs with
    | [p], [r] => decide (p = if neg = true then .NotIn else .In) && chkE C k l && chkE C d r && !behindInMarks p r
    | _, _ => false
  | .dicO ks es, .Dict keys vals _ => decide ks.Nodup && decide (keys.length ≤ 15) && chkDs C ks es keys vals
  | .caught cc e, .Call g as ks _ => match g with
    | .Name x _ => match as with
      | [la] => match la with
        | .Lambda params body scope _ => match ks with
          | [] => C.lam && (x == C.cfun) && (cc == C.cexc) && glN C.names x && LamX.lamSB (scOf C.names) scope && noPar params && chkE { C with names := scope.names, cl := false, lam := false } e body
          | _ => false
        | _ => false
      | _ => false
    | _ => false
  | .isx a c, .Call g as ks _ => match g with
    | .Name f _ => match as with
      | [x, z] => match z with
        | .Name y _ => match ks with
          | [] => (f == ("isinstance" : Str)) && bltN C f && bare1 x && (y == c) && glN C.names y && C.clss.contains y && chkE C a x
          | _ => false
        | _ => false
      | _ => false
    | _ => false
  | .dct0, .Dict keys vals _ => keys.isEmpty && vals.isEmpty
  | .mkl a, .Call g as ks _ => match g, as, ks with
    | .Name f _, [x], [] => (f == ("list" : Str)) && bltN C f && bare1 x && chkE C a x
    | _, _, _ => false
  | .frz a, e => plainTB e && chkE C a e
  | .fld a f c, .Attribute e g _ => isNm e && (f == g) && C.flds.contains (c, f) && chkE C a e
  | _, _ => false
def chkEs (C : CkI) : Es → List Expr → Bool
  | .nil, [] => true
  | .cons e r, x :: xs => bare1 x && chkE C e x && chkEs C r xs
  | _, _ => false
def chkKs (C : CkI) : Es → List Keyword → List Str → Bool
  | .nil, [], [] => true
  | .cons e r, kw :: kws, k :: ks => decide (kw.arg = some k) && chkE C e kw.value && chkKs C r kws ks
  | _, _, _ => false
def chkDs (C : CkI) : List Str → Es → List (Option Expr) → List Expr → Bool
  | [], .nil, [], [] => true
  | k :: ks, .cons e r, key :: keys, v :: vs => (match key with
    | some (.Constant (.str k') _ _) => k' == k
    | _ => false) && chkE C e v && chkDs C ks r keys vs
  | _, _, _, _ => false
def chkO (C : CkI) : Oe → Option Expr → Bool
  | .none, none => true
  | .some e, some x => chkE C e x
  | _, _ => false
def chkOL (C : CkI) : Oe → List Expr → Bool
  | .none, [] => true
  | .some e, [x] => chkE C e x
  | _, _ => false
def chkI (C : CkI) : Itr → Expr → Expr → Bool
  | .seq a, _, e => chkE C a e
  | .rng1 a, _, .Call f as ks _ => match f, as, ks with
    | .Name f _, [x], [] => (f == ("range" : Str)) && bltN C f && bare1 x && chkE C a x
    | _, _, _ => false
  | .rng2 a b, _, .Call f as ks _ => match f, as, ks with
    | .Name f _, [x, y], [] => (f == ("range" : Str)) && bltN C f && bare1 x && bare1 y && chkE C a x && chkE C b y
    | _, _, _ => false
  | .enum a, .Tuple _ _ _, .Call f as ks _ => match f, as, ks with
    | .Name f _, [x], [] => (f == ("enumerate" : Str)) && bltN C f && bare1 x && chkE C a x
    | _, _, _ => false
  | .zip a b, .Tuple _ _ _, .Call f as ks _ => match f, as, ks with
    | .Name f _, [x, y], [] => (f == ("zip" : Str)) && bltN C f && bare1 x && bare1 y && chkE C a x && chkE C b y
    | _, _, _ => false
  | _, _, _ => false
end
def isFun : ScopeKind → Bool
  | .function => true
  | _ => false
/-- three or two plain locals on one line, their values no constants -/
def nmsOf : List Expr → Option (List (Str × Pos))
  | [] => some []
  | .Name x p :: r => match nmsOf r with
    | some l => some ((x, p) :: l)
    | none => none
  | _ :: _ => none
def parOk (C : CkI) (is : List Nat) (ts vs : List Expr) : Bool :=
  match is, ts, vs with
  | [i, j], [.Name x px, .Name y py], [a, b] => decide (C.N[i]? = some x) && decide (C.N[j]? = some y) && decide (i ≠ j) && decide (C.names.lookup x = some .local) && decide (C.names.lookup y = some .local) && (px.line == px.line) && (py.line == px.line) && !(x == y) &&
      bare1 a && bare1 b && !([a, b].all (foldedForSure 8)) && !([a, b].all (constantsAlone 8))
  | [i, j, l], [.Name x px, .Name y py, .Name z pz], [a, b, c] => decide (C.N[i]? = some x) && decide (C.N[j]? = some y) && decide (C.N[l]? = some z) && decide (i ≠ j) && decide (i ≠ l) && decide (j ≠ l) && decide (C.names.lookup x = some .local) && decide (C.names.lookup y = some .local) && decide (C.names.lookup z = some .local) &&
      (py.line == px.line) && (pz.line == px.line) && !(x == y) && !(x == z) && !(y == z) && bare1 a && bare1 b && bare1 c && !([a, b, c].all (foldedForSure 8)) && !([a, b, c].all (constantsAlone 8))
  | _, _, _ => false
/-- no swap at this target and value -/
def noSwapB : Expr → Expr → Bool
  | .Name .., _ => true
  | .Tuple ts _ _, .Tuple vs _ _ => !(ts.length == 2 || ts.length == 3) || !(vs.length == ts.length) || vs.all (foldedForSure 8)
  | .Tuple .., .List .. => true
  | .Tuple .., .Name .. => true
  | .Tuple .., .Call .. => true
  | .Tuple .., .Subscript .. => true
  | .Tuple .., .BinOp .. => true
  | .Tuple .., .IfExp .. => true
  | _, _ => false
def raiseB (C : CkI) (c : Str) : Expr → Bool
  | .Call g as ks _ => match g with
    | .Name x _ => match as with
      | [e] => match e with
        | .Constant k _ _ => match k with
          | .str _ => match ks with
            | [] => (x == c) && glN C.names x && C.excs.contains x
            | _ => false
          | _ => false
        | _ => false
      | _ => false
    | _ => false
  | _ => false
mutual
def chkS (C : CkI) : S → Stmt → Bool
  | .set p e, .Assign tgs v pos => match tgs with
    | [tg] => chkP C.N C.names C.cl p tg && (if notCompB v then chkE C e v && noSwapB tg v else
        match p, e, tg, v with
        | .nm i, .comp own elt q it c live, .Name y py, .ListComp el gs scope cpos => decide (C.names.lookup y = some .local) && (py.line == cpos.line) && !(scope.names.any fun (n, k) => n == y && (k == .local || k == .cell)) && chkE C (.comp own elt q it c live) (.ListComp el gs scope cpos)
        | _, _, _, _ => false)
    | _ => false
  | .par is es, .Assign tgs v _ => match tgs, v with
    | [.Tuple ts _ _], .Tuple vs _ _ => parOk C is ts vs && chkEs C es vs
    | _, _ => false
  | .dput o i e, .Assign tgs v _ => match tgs with
    | [.Subscript x s _] => chkE C o x && chkE C i s && plainIxB s && chkE C e v && notCompB v
    | _ => false
  | .exp e, .Expr v _ => chkE C e v && notCompB v
  | .ite c a b, .If t x y _ => chkE C c t && chkSs C a x && chkSs C b y
  | .whl c b, .While t x y _ => chkE C c t && chkSs C b x && y.isEmpty
  | .loop p it b, .For tg iter x y _ => chkP C.N C.names C.cl p tg && chkI C it tg iter && notSetB iter && chkSs C b x && y.isEmpty
  | .ret e, .Return (some v) _ => chkE C e v
  | .retN, .Return none _ => true
  | .brk, .Break _ => true
  | .cnt, .Continue _ => true
  | .pass, .Pass _ => true
  | .pass, .Expr (.Constant (.str _) _ _) _ => true
  | .never, _ => true
  | .raiseX c, .Raise v f _ => match f with
    | some _ => false
    | none => match v with
      | none => false
      | some v => raiseB C c v
  | .raise c ps es, .Raise v f _ => match f with
    | some _ => false
    | none => match v with
      | none => false
      | some v => match callParts v with
        | some (y, a, as) => (y == c) && glN C.names y && C.xfs.contains (y, ps) && (a :: as).all bare1 && chkEs C es (a :: as)
        | none => false
  | _, _ => false
def chkSs (C : CkI) : Ss → List Stmt → Bool
  | .nil, [] => true
  | .cons s r, x :: xs => chkS C s x && chkSs C r xs
  | _, _ => false
end
end DL
namespace DL
open PySem PySem.Spec PyProof.Rows L2
structure CalleeOk (X : Cx) (n : Nat) (x : Str) (dsp : DSp) (k : Nat) (f : Addr) (fd : FuncData) (ps : List Str) : Prop where
  ok : FnOk X.prog X.w X.K X.mg X.base (L2.CX X.prog X.w) k f fd ps (spOf X.K n dsp)
  mono : MonoS dsp
  room : Room k X.A
  mg : X.mg x = some (.ref f)
  keep : PySem.W.keepIn X.K (.ref f) = true
  binds : Binds X.K fd ps []
structure Cok (Γ : DL.Env) (C : CkI) (X : Cx) (W : L2.WX) : Prop where
  calm : X.calm = true
  nd : X.N.Nodup
  hN : X.N = C.N
  names : X.env.scope.names = C.names
  kind : X.env.scope.kind = .function
  cl : C.cl = true → ∀ x, X.fn x = true
  takes : L2.Takes X W
  units : X.A.units + 102 < cLine
  fns : ∀ i x n, C.fns[i]? = some (x, n) → ∃ k f fd ps, k ≤ C.lv ∧ CalleeOk X n x (Γ.calls i) k f fd ps
  kfns : ∀ (j : Nat) (x : Str) (f n : Nat) (ks : List Str) (pm : List Nat), C.kfn[j]? = some (x, f, n, ks, pm) → ∃ k a fd ps, k ≤ C.lv ∧ KCallee X x n ks pm (Γ.calls f) k a fd ps
  fvs : ∀ (x : Str) (f n : Nat), (x, f, n) ∈ C.fvs → ∃ k fd ps, k ≤ C.lv ∧ FvOk X n x (Γ.calls f) k fd ps
  catch_ : C.lam = true → CatchOk X C.lv C.cfun C.cexc
  subs : ∀ c ∈ C.clss, SubOk X.K Γ.sub c ∧ X.mg c = some (.ref (He.ga X.K c))
  csub : ∀ y, Γ.sub y C.cexc = some true → PySem.W.exmOne X.K (.ref (He.ga X.K y)) (.ref (He.ga X.K C.cexc)) = some true
  excs : ∀ c ∈ C.excs, RaiseOk X c
  xfs : ∀ p ∈ C.xfs, 2 ≤ C.lv ∧ RaiseOkF X p.1 p.2
  flds : ∀ p ∈ C.flds, FldOk X.K p.1 p.2
  free : ∀ x ∈ C.free, X.mg x = none
  globs : ∀ i x, C.globs[i]? = some x → ∃ u v, X.mg x = some u ∧ RelV v u ∧ ∀ G, Rp X.K G (Γ.globs i) v
theorem takesN {X : Cx} : L2.Takes X WN := fun _ _ x => by
  obtain ⟨_, _, _, _, _, _, _, _, _, _, _, _, _, _, _, _, z⟩ := x
  exact z.elim
theorem Cok.blk {Γ : DL.Env} {C : CkI} {X : Cx} {W : L2.WX} (h : Cok Γ C X W) {scope : Scope} (hk : scope.kind = .function) (s : Shared) (H : Hp) (ce : Addr) (cl : List (Str × Addr)) (fp : List Addr) :
    Cok Γ { C with names := relN C.names scope.names, cl := false, lam := false } (X.blk s H scope (compEnvC scope cl ce X.env) fp) WN where
  calm := h.calm
  nd := h.nd
  hN := h.hN
  names := by
    show (relabel scope X.env).names = _
    unfold relabel relN
    rw [h.kind, ← h.names]
    rfl
  kind := hk
  cl := fun z => by cases z
  takes := takesN
  units := h.units
  fns := fun i x n e => by
    obtain ⟨k, f, fd, ps, le, q⟩ := h.fns i x n e
    exact ⟨k, f, fd, ps, le, q.ok, q.mono, q.room, q.mg, q.keep, q.binds⟩
  kfns := fun j x f n ks pm e => by
    obtain ⟨k, f, fd, ps, le, q⟩ := h.kfns j x f n ks pm e
    exact ⟨k, f, fd, ps, le, q.ok, q.mono, q.room, q.mg, q.keep, q.binds⟩
  fvs := fun x f n e => by
    obtain ⟨k, fd, ps, le, q⟩ := h.fvs x f n e
    exact ⟨k, fd, ps, le, q.ok, q.mono, q.room, q.mg, q.keep, q.binds⟩
  catch_ := fun z => by cases z
  subs := h.subs
  csub := h.csub
  excs := fun c hc => ⟨(h.excs c hc).mg, (h.excs c hc).fact⟩
  xfs := fun p hp => ⟨(h.xfs p hp).1, (h.xfs p hp).2.mg, (h.xfs p hp).2.fact, (h.xfs p hp).2.ini, (h.xfs p hp).2.room⟩
  flds := h.flds
  free := h.free
  globs := h.globs
theorem Cok.lamb {Γ : DL.Env} {C : CkI} {X : Cx} {W : L2.WX} (h : Cok Γ C X W) {scope : Scope} (hk : scope.kind = .function) {A : Around} {outer : List PySem.Env} {s : Shared} {H : Hp} {E : XK} {f c' : Addr} (hr : Room C.lv (A.deeper (LamX.lamEnv X scope s.heap.objs.size f c'))) :
    Cok Γ { C with names := scope.names, cl := false, lam := false } (LamX.lamCx X A outer s H E scope f c') (fun cls d _ H => E cls d H) where
  calm := rfl
  nd := h.nd
  hN := h.hN
  names := rfl
  kind := hk
  cl := fun z => by cases z
  takes := L2.takes_of (X := LamX.lamCx X A outer s H E scope f c') rfl rfl rfl rfl
  units := by have := hr.un; show (A.deeper _).units + 102 < cLine; omega
  fns := fun i x n e => by
    obtain ⟨k, f, fd, ps, le, q⟩ := h.fns i x n e
    exact ⟨k, f, fd, ps, le, q.ok, q.mono, hr.mono le, q.mg, q.keep, q.binds⟩
  kfns := fun j x f n ks pm e => by
    obtain ⟨k, f, fd, ps, le, q⟩ := h.kfns j x f n ks pm e
    exact ⟨k, f, fd, ps, le, q.ok, q.mono, hr.mono le, q.mg, q.keep, q.binds⟩
  fvs := fun x f n e => by
    obtain ⟨k, fd, ps, le, q⟩ := h.fvs x f n e
    exact ⟨k, fd, ps, le, q.ok, q.mono, hr.mono le, q.mg, q.keep, q.binds⟩
  catch_ := fun z => by cases z
  subs := h.subs
  csub := h.csub
  excs := fun c hc => ⟨(h.excs c hc).mg, (h.excs c hc).fact⟩
  xfs := fun p hp => ⟨(h.xfs p hp).1, (h.xfs p hp).2.mg, (h.xfs p hp).2.fact, (h.xfs p hp).2.ini, hr.mono (h.xfs p hp).1⟩
  flds := h.flds
  free := h.free
  globs := h.globs
section
variable {Γ : DL.Env} {C : CkI} {X : Cx} {W : L2.WX}
theorem Cok.gl (h : Cok Γ C X W) {x : Str} (e : glN C.names x = true) : Gl X x ∧ (x == ("__debug__" : Str)) = false := by
  unfold glN at e
  split at e
  · rename_i q
    refine ⟨?_, by simpa using e⟩
    show X.env.scope.names.lookup x = _
    rw [h.names]; exact q
  · cases e
theorem Cok.vis (h : Cok Γ C X W) {x : Str} (e : visN C.names x = true) : Vis X.env.scope x ∧ (x == ("__debug__" : Str)) = false ∧ (x == ("__classdict__" : Str)) = false := by
  unfold visN at e
  unfold Vis
  rw [h.names]
  split at e
  · rename_i q; simp only [Bool.and_eq_true, Bool.not_eq_true'] at e; exact ⟨.inl q, e⟩
  · rename_i q; simp only [Bool.and_eq_true, Bool.not_eq_true'] at e; exact ⟨.inr (.inl q), e⟩
  · rename_i q; simp only [Bool.and_eq_true, Bool.not_eq_true'] at e; exact ⟨.inr (.inr q), e⟩
  · cases e
theorem Cok.blt (h : Cok Γ C X W) {x : Str} (e : bltN C x = true) : Gl X x ∧ (x == ("__debug__" : Str)) = false ∧ X.mg x = none ∧ x ≠ "__name__" := by
  unfold bltN at e
  simp only [Bool.and_eq_true, Bool.not_eq_true'] at e
  obtain ⟨g, d⟩ := h.gl e.1.1
  refine ⟨g, d, h.free x (List.contains_iff_mem.mp e.1.2), fun z => ?_⟩
  have := e.2
  rw [z] at this
  simp at this
theorem bi_boot : ∀ f : Bi, bootBuiltins (biName f) = some (biVal f) := by
  intro f
  cases f <;> decide +kernel
theorem ty_boot : ∀ u : String, isTyName u = true → bootBuiltins (u : Str) = some (.type u) := by
  intro u hu
  have hu : u = "int" ∨ u = "bool" ∨ u = "str" ∨ u = "list" ∨ u = "tuple" ∨ u = "dict" := by
    simpa only [isTyName, Bool.or_eq_true, beq_iff_eq, or_assoc] using hu
  rcases hu with rfl | rfl | rfl | rfl | rfl | rfl <;> decide +kernel
theorem mt_facts : ∀ f : Mt, mtSup f = true → PlainAttrs (mtTy f) ∧ Slot (mtTy f) (mtName f) (mtId f) ∧ typeOf (.builtin (mtId f)) = pure (.type "method_descriptor") := by
  intro f h
  cases f with
  | append => exact ⟨PySem.F.plainAttrs_list, PySem.F.slot_list_append, PySem.F.type_list_append⟩
  | extend => exact ⟨PySem.F.plainAttrs_list, PySem.F.slot_list_extend, PySem.F.type_list_extend⟩
  | pop => exact ⟨PySem.F.plainAttrs_list, PySem.F.slot_list_pop, PySem.F.type_list_pop⟩
  | clear => exact ⟨PySem.F.plainAttrs_list, PySem.F.slot_list_clear, PySem.F.type_list_clear⟩
  | split => exact ⟨PySem.F.plainAttrs_str, PySem.F.slot_str_split, PySem.F.type_str_split⟩
  | popAt => exact ⟨PySem.F.plainAttrs_list, PySem.F.slot_list_pop, PySem.F.type_list_pop⟩
  | upper => exact ⟨PySem.F.plainAttrs_str, PySem.F.slot_str_upper, PySem.F.type_str_upper⟩
  | _ => cases h
theorem noSl_of {e : Expr} (h : plainIxB e = true) : NoSl e := by
  cases e <;> first | (intro o i; rfl) | (cases h)
def esL (Γ : DL.Env) : Es → List DE
  | .nil => []
  | .cons e r => wpE Γ e :: esL Γ r
theorem seq_eq {Γ : DL.Env} : ∀ es : Es, wpEs Γ es = seqF (esL Γ es)
  | .nil => rfl
  | .cons e r => by
    funext sl T Q X
    show wpE Γ e sl T (fun v T1 => wpEs Γ r sl T1 (fun vs T2 => Q (v :: vs) T2) X) X = _
    rw [seq_eq r]
    rfl
theorem m2_of {X : Cx} {o a b : Expr} {m : Str} {apos cpos : Pos} (h : notSuper o = true) (hl : (apos.endLine == cpos.line) = true) (ha : bare1 a = true) (hb : bare1 b = true) : M2 X o m apos a b cpos := by
  have st : starEach [a, b] X.env = [(false, eval a X.env), (false, eval b X.env)] := by rw [starEach_bare ha, starEach_bare hb]; rfl
  refine ⟨attr_base h, ?_, hl, ?_⟩
  · rw [starEach_all (by simp [ha, hb])]
    rfl
  · rw [st]
    rfl
theorem plainIx_of {e : Expr} (h : plainIxB e = true) : PlainIx e := by
  cases e <;> first | (intro o i; rfl) | (cases h)
theorem notSet_of {e : Expr} (h : notSetB e = true) (env : PySem.Env) : ∀ x, foldedSetIterable e env x = pure x := by
  cases e <;> first | (intro x; rfl) | (cases h)
theorem sw_none {e : Expr} (h : notCompB e = true) {t : Option Expr} {n : Nat} {env : PySem.Env} : swapsWith e t n env = pure false := by
  cases e <;> first | rfl | (cases h)
theorem isTrue_plain {e : Expr} (h : plainTB e = true) {env : PySem.Env} : ∀ whole, isTrue e env whole = (do let v ← whole; standAt e.pos; holding [v] (truthy v)) := by
  intro whole
  cases e with
  | UnaryOp p x q => cases p <;> first | rfl | (cases h)
  | _ => first | rfl | (cases h)
theorem both {a : Expr} {fa : DE} (h : DPE X W a fa) (p : plainTB a = true) : DPE X W a fa ∧ DPT X W a fa := ⟨h, dpt_of h (isTrue_plain p)⟩
theorem blkC_names {N : List Str} {sc sc' scope : Scope} {own : List (Str × Nat)} (e : sc.names = sc'.names) : blkC N sc scope own = blkC N sc' scope own := by
  unfold blkC; rw [e]
def Es.len : Es → Nat
  | .nil => 0
  | .cons _ r => r.len + 1
theorem dpe_call0 {dsp : DSp} {k : Nat} {f : Addr} {fd : FuncData} {ps : List Str} {x : Str} {p pos : Pos} (F : CalleeOk X 0 x dsp k f fd ps) (hg : Gl X x) (hd : (x == ("__debug__" : Str)) = false) :
    DPE X W (.Call (.Name x p) [] [] pos) (fun _ T Q _ => callW dsp [] T Q (fun _ _ => False)) := by
  refine ⟨fun sl T Q Q' X X' hq hx q => ?_, PE.imp (pe_call0 F.ok F.room hg F.mg F.keep F.binds .nil (L2.passes_call (W := WN) (E := fun _ _ _ => False) takesN fun _ _ _ _ z => z.elim) hd) fun σ H Q q => ?_⟩
  · exact callW_mono F.mono hq (fun _ _ z => z) q
  · obtain ⟨G, m, sl, T, s, w, q⟩ := q
    exact call_ok F.mono w .nil q (fun v T' G' H' m' x z e w r => z G' H' m' x e w r) fun e T' G' H' m' c d z x w r => z.elim
theorem chkTys (h : Cok Γ C X W) : ∀ {ts : List String} {es : List Expr}, tysB C ts es = true → TyNames X es ts ∧ ts.all isTyName = true
  | [], [], _ => ⟨.nil, rfl⟩
  | t :: ts, e :: es, q => by
    cases e with
    | Name x p =>
      simp only [tysB, Bool.and_eq_true, beq_iff_eq] at q
      obtain ⟨⟨⟨rfl, q2⟩, q3⟩, q4⟩ := q
      obtain ⟨r1, r2⟩ := chkTys h q4
      obtain ⟨g, d, m, n⟩ := h.blt q3
      exact ⟨.cons g m (ty_boot t q2) n d r1, by simp [q2, r2]⟩
    | _ => simp [tysB] at q
  | [], _ :: _, q => by simp [tysB] at q
  | _ :: _, [], q => by simp [tysB] at q
end
end DL
namespace DL
open PySem PySem.Spec PyProof.Rows L2
def optF (Γ : DL.Env) : Oe → Option DE
  | .none => none
  | .some e => some (wpE Γ e)
theorem comp_eq {Γ : DL.Env} {own : List Nat} {elt : E} {p : Pat} {it : Itr} {c : Oe} {live : Bool} : wpE Γ (.comp own elt p it c live) = compF own (wpE Γ elt) p (wpI Γ it) (optF Γ c) live := by
  cases c <;> cases live <;> rfl
theorem chkOL_inv {C : CkI} {c : Oe} {ifs : List Expr} (h : chkOL C c ifs = true) : (ifs = [] ∧ c = .none) ∨ ∃ t, ifs = [t] ∧ chkO C c (some t) = true := by
  cases c with
  | none =>
    cases ifs with
    | nil => exact .inl ⟨rfl, rfl⟩
    | cons _ _ => exact Bool.noConfusion h
  | some e =>
    rcases ifs with _ | ⟨t, _ | ⟨_, _⟩⟩
    · exact Bool.noConfusion h
    · exact .inr ⟨t, rfl, h⟩
    · exact Bool.noConfusion h
theorem comp2_eq {Γ : DL.Env} {own own1 : List Nat} {elt : E} {p p1 : Pat} {it it1 : Itr} {c c1 : Oe} {live : Bool} : wpE Γ (.comp2 own elt p it c own1 p1 it1 c1 live) = compF2 own (wpE Γ elt) p (wpI Γ it) (optF Γ c) own1 p1 (wpI Γ it1) (optF Γ c1) live := by
  cases c <;> cases c1 <;> cases live <;> rfl
theorem and2 {a b : Bool} (h : (a && b) = true) : a = true ∧ b = true := by simpa using h
section
variable {Γ : DL.Env}
mutual
theorem snd_E : ∀ (e : E) (C : CkI) (X : Cx) (W : L2.WX) (x : Expr), Cok Γ C X W → chkE C e x = true → DPE X W x (wpE Γ e) ∧ DPT X W x (wpE Γ e)
  | .var i, C, X, W, x, h, hc => by
    cases x with
    | Name x p =>
      have hc : (decide (C.N[i]? = some x) && visN C.names x) = true := hc
      obtain ⟨h1, h2⟩ := and2 hc
      obtain ⟨v, d, cd⟩ := h.vis h2
      exact both (dpe_var (by rw [h.hN]; exact of_decide_eq_true h1) v d cd) rfl
    | _ => exact Bool.noConfusion hc
  | .cst v, C, X, W, x, h, hc => by
    cases x with
    | Constant k j p =>
      have hc : chkC v (.Constant k j p) = true := hc
      refine both ?_ rfl
      cases v <;> cases k <;> first
        | exact Bool.noConfusion hc
        | exact dpe_cst pe_non (fun G => by simp [Rp])
        | (have hc := eq_of_beq hc; subst hc; exact dpe_cst pe_bl (fun G => by simp [Rp]))
        | (have hc := eq_of_beq hc; subst hc; exact dpe_cst pe_int (fun G => by simp [Rp]))
        | (have hc := eq_of_beq hc; subst hc; exact dpe_cst pe_str (fun G => by simp [Rp]))
    | _ =>
      have hc : chkC v _ = true := hc
      cases v <;> exact Bool.noConfusion hc
  | .glb n, C, X, W, x, h, hc => by
    cases x with
    | Name x p =>
      have hc : (decide (C.globs[n]? = some x) && glN C.names x) = true := hc
      obtain ⟨h1, h2⟩ := and2 hc
      obtain ⟨u, v, e, r, q⟩ := h.globs n x (of_decide_eq_true h1)
      obtain ⟨g, d⟩ := h.gl h2
      exact both (dpe_cst (pe_glob g e r d) q) rfl
    | _ => exact Bool.noConfusion hc
  | .tup es, C, X, W, x, h, hc => by
    cases x with
    | Tuple l k p => exact both (dpe_tup (snd_Es es C X W l h hc).1) rfl
    | _ => exact Bool.noConfusion hc
  | .lst es, C, X, W, x, h, hc => by
    cases x with
    | List l p => exact both (dpe_lst (snd_Es es C X W l h hc).1) rfl
    | _ => exact Bool.noConfusion hc
  | .lstO es, C, X, W, x, h, hc => by
    cases x with
    | List l p => exact both (dpe_lstO (snd_Es es C X W l h hc).1) rfl
    | _ => exact Bool.noConfusion hc
  | .bin o a b, C, X, W, x, h, hc => by
    cases x with
    | BinOp l p r q =>
      have hc : (decide (p = o) && chkE C a l && chkE C b r) = true := hc
      obtain ⟨h1, h3⟩ := and2 hc
      obtain ⟨h1, h2⟩ := and2 h1
      have e := of_decide_eq_true h1
      subst e
      exact both (dpe_bin (snd_E a C X W l h h2).1 (snd_E b C X W r h h3).1 (dop_bin p)) rfl
    | _ => exact Bool.noConfusion hc
  | .cmp o a b, C, X, W, x, h, hc => by
    cases x with
    | Compare l ops rs q =>
      cases ops with
      | nil => exact Bool.noConfusion hc
      | cons p ops =>
        cases ops with
        | cons _ _ => cases rs <;> first | exact Bool.noConfusion hc | skip
        | nil =>
          cases rs with
          | nil => exact Bool.noConfusion hc
          | cons r rs =>
            cases rs with
            | cons _ _ => exact Bool.noConfusion hc
            | nil =>
              have hc : (decide (p = o) && chkE C a l && chkE C b r && !behindInMarks o r) = true := hc
              obtain ⟨h1, h4⟩ := and2 hc
              obtain ⟨h1, h3⟩ := and2 h1
              obtain ⟨h1, h2⟩ := and2 h1
              have e := of_decide_eq_true h1
              subst e
              have h4 : behindInMarks p r = false := by simpa using h4
              have d := dop_cmp (X := X) h.units p
              exact ⟨dpe_cmp (snd_E a C X W l h h2).1 (snd_E b C X W r h h3).1 d h4, dpt_cmp (snd_E a C X W l h h2).1 (snd_E b C X W r h h3).1 d (truths_cmp p) h4⟩
    | _ => exact Bool.noConfusion hc
  | .chain o o' a b c, C, X, W, x, h, hc => by
    cases x with
    | Compare l ops rs q =>
      rcases ops with _ | ⟨p, _ | ⟨p', _ | ⟨_, _⟩⟩⟩ <;> rcases rs with _ | ⟨r, _ | ⟨r', _ | ⟨_, _⟩⟩⟩ <;> first
        | exact Bool.noConfusion hc
        | skip
      have hc : (decide (p = o) && decide (p' = o') && chkE C a l && chkE C b r && chkE C c r' && !lastMarks [o, o'] [r, r']) = true := hc
      obtain ⟨h1, h6⟩ := and2 hc
      obtain ⟨h1, h5⟩ := and2 h1
      obtain ⟨h1, h4⟩ := and2 h1
      obtain ⟨h1, h3⟩ := and2 h1
      obtain ⟨h1, h2⟩ := and2 h1
      have e := of_decide_eq_true h1
      have e' := of_decide_eq_true h2
      subst e e'
      have h6 : lastMarks [p, p'] [r, r'] = false := by simpa using h6
      have d := dop_cmp (X := X) h.units p
      have d' := dop_cmp (X := X) h.units p'
      exact ⟨dpe_chain (snd_E a C X W l h h3).1 (snd_E b C X W r h h4).1 (snd_E c C X W r' h h5).1 d d' h6, dpt_chain (snd_E a C X W l h h3).1 (snd_E b C X W r h h4).1 (snd_E c C X W r' h h5).1 d d' (truths_cmp p') h6⟩
    | _ => exact Bool.noConfusion hc
  | .neg a, C, X, W, x, h, hc => by
    cases x with
    | UnaryOp p e q =>
      have hc : (decide (p = .USub) && chkE C a e) = true := hc
      obtain ⟨h1, h2⟩ := and2 hc
      have e := of_decide_eq_true h1
      subst e
      exact both (dpe_neg (snd_E a C X W _ h h2).1) rfl
    | _ => exact Bool.noConfusion hc
  | .not a, C, X, W, x, h, hc => by
    cases x with
    | UnaryOp p e q =>
      have hc : (decide (p = .Not) && chkE C a e) = true := hc
      obtain ⟨h1, h2⟩ := and2 hc
      have e := of_decide_eq_true h1
      subst e
      obtain ⟨z1, z2⟩ := snd_E a C X W _ h h2
      exact ⟨dpe_not z1, dpt_not z1.mono z2⟩
    | _ => exact Bool.noConfusion hc
  | .and a b, C, X, W, x, h, hc => by
    cases x with
    | BoolOp p vs q =>
      obtain ⟨h1, hd⟩ := and2 hc
      have e := of_decide_eq_true h1
      subst e
      clear hc
      rcases vs with _ | ⟨y, _ | ⟨z, rest⟩⟩
      · exact Bool.noConfusion hd
      · exact Bool.noConfusion hd
      · obtain ⟨h2, h3⟩ := and2 hd
        obtain ⟨a1, a2⟩ := snd_E a C X W _ h h2
        obtain ⟨b1, b2⟩ := snd_E b C X W _ h h3
        cases rest with
        | nil => exact ⟨dpe_and a1 (dpe_one b1), dpt_and a1.mono b1.mono a2 (dpt_one b2)⟩
        | cons _ _ => exact ⟨dpe_and a1 b1, dpt_and a1.mono b1.mono a2 b2⟩
    | _ => exact Bool.noConfusion hc
  | .or a b, C, X, W, x, h, hc => by
    cases x with
    | BoolOp p vs q =>
      obtain ⟨h1, hd⟩ := and2 hc
      have e := of_decide_eq_true h1
      subst e
      clear hc
      rcases vs with _ | ⟨y, _ | ⟨z, rest⟩⟩
      · exact Bool.noConfusion hd
      · exact Bool.noConfusion hd
      · obtain ⟨h2, h3⟩ := and2 hd
        obtain ⟨a1, a2⟩ := snd_E a C X W _ h h2
        obtain ⟨b1, b2⟩ := snd_E b C X W _ h h3
        cases rest with
        | nil => exact ⟨dpe_or a1 (dpe_one b1), dpt_or a1.mono b1.mono a2 (dpt_one b2)⟩
        | cons _ _ => exact ⟨dpe_or a1 b1, dpt_or a1.mono b1.mono a2 b2⟩
    | _ => exact Bool.noConfusion hc
  | .ife c a b, C, X, W, x, h, hc => by
    cases x with
    | IfExp t y z q =>
      obtain ⟨h1, h3⟩ := and2 hc
      obtain ⟨h1, h2⟩ := and2 h1
      obtain ⟨c1, c2⟩ := snd_E c C X W _ h h1
      obtain ⟨a1, a2⟩ := snd_E a C X W _ h h2
      obtain ⟨b1, b2⟩ := snd_E b C X W _ h h3
      exact ⟨dpe_ife c1.mono c2 a1 b1, dpt_ife c1.mono a1.mono b1.mono c2 a2 b2⟩
    | _ => exact Bool.noConfusion hc
  | .idx a i, C, X, W, x, h, hc => by
    cases x with
    | Subscript y s q =>
      obtain ⟨h1, h3⟩ := and2 hc
      obtain ⟨h1, h2⟩ := and2 h1
      exact both (dpe_idx (snd_E a C X W _ h h1).1 (snd_E i C X W _ h h2).1 (plainIx_of h3)) rfl
    | _ => exact Bool.noConfusion hc
  | .slc a lo hi, C, X, W, x, h, hc => by
    cases x with
    | Subscript y s q =>
      cases s with
      | Slice l g st p =>
        obtain ⟨h1, h4⟩ := and2 hc
        obtain ⟨h1, h3⟩ := and2 h1
        obtain ⟨h1, h2⟩ := and2 h1
        cases st with
        | some _ => exact Bool.noConfusion h4
        | none => exact both (dpe_slc (snd_E a C X W _ h h1).1 (snd_O lo C X W _ h h2).1 (snd_O hi C X W _ h h3).1) rfl
      | _ => exact Bool.noConfusion hc
    | _ => exact Bool.noConfusion hc
  | .isi a ts, C, X, W, x, h, hc => by
    cases x with
    | Call f as ks p =>
      cases f with
      | Name f fp =>
        rcases as with _ | ⟨y, _ | ⟨z, _ | ⟨_, _⟩⟩⟩ <;> cases ks <;> first
          | exact Bool.noConfusion hc
          | skip
        obtain ⟨h1, h5⟩ := and2 hc
        obtain ⟨h1, h4⟩ := and2 h1
        obtain ⟨h1, h3⟩ := and2 h1
        obtain ⟨h1, h2⟩ := and2 h1
        have e := eq_of_beq h1
        subst e
        obtain ⟨g, d, m, n⟩ := h.blt h2
        have ha := (snd_E a C X W _ h h4).1
        cases z with
        | Tuple es k tp =>
          obtain ⟨h5, h6⟩ := and2 h5
          obtain ⟨t1, t2⟩ := chkTys h h5
          exact both (dpe_isiT ha g m t1 t2 (of_decide_eq_true h6) h3) rfl
        | Name u up =>
          rcases ts with _ | ⟨t, _ | ⟨_, _⟩⟩
          · exact Bool.noConfusion h5
          · obtain ⟨t1, t2⟩ := chkTys h h5
            cases t1 with
            | cons hx mx hv hn hd _ =>
              exact both (dpe_isi1 ha g m hx mx hv hn hd (by simpa using t2) h3) rfl
          · exact Bool.noConfusion h5
        | _ => exact Bool.noConfusion h5
      | _ => exact Bool.noConfusion hc
    | _ => exact Bool.noConfusion hc
  | .bi f es, C, X, W, x, h, hc => by
    cases x with
    | Call g as ks p =>
      cases g with
      | Name y q =>
        cases ks with
        | cons _ _ => exact Bool.noConfusion hc
        | nil =>
          obtain ⟨h1, h5⟩ := and2 hc
          obtain ⟨h1, h4⟩ := and2 h1
          obtain ⟨h1, h3⟩ := and2 h1
          obtain ⟨h1, h2⟩ := and2 h1
          have e := eq_of_beq h1
          subst e
          obtain ⟨g, d, m, n⟩ := h.blt h2
          have hs := snd_Es es C X W as h h5
          cases as with
          | nil => exact Bool.noConfusion h3
          | cons a as =>
            have bo := bi_boot f
            cases hv : biVal f with
            | builtin id => rw [hv] at bo; exact both (dpe_biB hv h.calm hs.1 g m bo n d h4) rfl
            | type id => rw [hv] at bo; exact both (dpe_biT hv h.calm hs.1 g m bo n d h4) rfl
            | _ => cases f <;> cases hv
      | _ => exact Bool.noConfusion hc
    | _ => exact Bool.noConfusion hc
  | .mt f o es, C, X, W, x, h, hc => by
    cases x with
    | Call g as ks cpos =>
      cases g with
      | Attribute ob m apos =>
        cases ks with
        | cons _ _ => exact Bool.noConfusion hc
        | nil =>
          obtain ⟨h1, h8⟩ := and2 hc
          obtain ⟨h1, h7⟩ := and2 h1
          obtain ⟨h1, h6⟩ := and2 h1
          obtain ⟨h1, h5⟩ := and2 h1
          obtain ⟨h1, h4⟩ := and2 h1
          obtain ⟨h1, h3⟩ := and2 h1
          obtain ⟨h1, h2⟩ := and2 h1
          have e := eq_of_beq h1
          subst e
          obtain ⟨f1, f2, f3⟩ := mt_facts f h2
          have ho := (snd_E o C X W _ h h7).1
          have hs := snd_Es es C X W as h h8
          cases as with
          | nil =>
            cases es with
            | nil => exact both (dpe_mt0 (T := "") f1 f2 f3 ho h3 h4) rfl
            | cons _ _ => exact Bool.noConfusion h8
          | cons a as => exact both (dpe_mt (T := "") f1 f2 f3 ho hs.1 (by simp) h3 h6 h4 (of_decide_eq_true h5)) rfl
      | _ => exact Bool.noConfusion hc
    | _ => exact Bool.noConfusion hc
  | .call f es, C, X, W, x, h, hc => by
    cases x with
    | Call g as ks p =>
      cases g with
      | Name y q =>
        cases ks with
        | cons _ _ => exact Bool.noConfusion hc
        | nil =>
          cases ef : C.fns[f]? with
          | none =>
            revert hc
            simp only [chkE]
            rw [ef]
            exact fun z => Bool.noConfusion z
          | some zn =>
            obtain ⟨z, n⟩ := zn
            have hc : ((y == z) && glN C.names y && decide (as.length = n) && !as.isEmpty && as.all bare1 && chkEs C es as) = true := by
              revert hc
              simp only [chkE]
              rw [ef]
              exact fun z => z
            obtain ⟨h1, h6⟩ := and2 hc
            obtain ⟨h1, h5⟩ := and2 h1
            obtain ⟨h1, h4⟩ := and2 h1
            obtain ⟨h1, h3⟩ := and2 h1
            obtain ⟨h1, h2⟩ := and2 h1
            have e := eq_of_beq h1
            subst e
            obtain ⟨gg, d⟩ := h.gl h2
            obtain ⟨k, a, fd, ps, _, F⟩ := h.fns f y n ef
            have hs := snd_Es es C X W as h h6
            have en := of_decide_eq_true h3
            have el : es.len = n := by rw [← hs.2.1]; exact en
            have hl := hs.2.2
            cases as with
            | nil => exact Bool.noConfusion h4
            | cons b as => exact both (dpe_call F.ok F.mono F.room gg F.mg F.keep F.binds h.takes hs.1 d h5 (fun sl T Q X q => by rw [← el]; exact hl sl T Q X q)) rfl
      | _ => exact Bool.noConfusion hc
    | _ => exact Bool.noConfusion hc
  | .call0 f, C, X, W, x, h, hc => by
    cases x with
    | Call g as ks p =>
      cases g with
      | Name y q =>
        cases as with
        | cons _ _ => exact Bool.noConfusion hc
        | nil =>
          cases ks with
          | cons _ _ => exact Bool.noConfusion hc
          | nil =>
            cases ef : C.fns[f]? with
            | none =>
              revert hc
              simp only [chkE]
              rw [ef]
              exact fun z => Bool.noConfusion z
            | some zn =>
              obtain ⟨z, n⟩ := zn
              have hc : ((y == z) && glN C.names y && decide (0 = n)) = true := by
                revert hc
                simp only [chkE]
                rw [ef]
                exact fun z => z
              obtain ⟨h1, h3⟩ := and2 hc
              obtain ⟨h1, h2⟩ := and2 h1
              have e := eq_of_beq h1
              subst e
              have e := of_decide_eq_true h3
              subst e
              obtain ⟨gg, d⟩ := h.gl h2
              obtain ⟨k, a, fd, ps, _, F⟩ := h.fns f y 0 ef
              exact both (dpe_call0 F gg d) rfl
      | _ => exact Bool.noConfusion hc
    | _ => exact Bool.noConfusion hc
  | .comp own elt p it c live, C, X, W, x, h, hc => by
    cases x with
    | ListComp el gs scope pos =>
      rcases gs with _ | ⟨⟨tg, iter, ifs, k⟩, _ | ⟨_, _⟩⟩
      · exact Bool.noConfusion hc
      · obtain ⟨h0, hc⟩ := and2 hc
        have ek := of_decide_eq_true h0
        subst ek
        obtain ⟨h1, h7⟩ := and2 hc
        obtain ⟨h1, h6⟩ := and2 h1
        obtain ⟨h1, h5⟩ := and2 h1
        obtain ⟨h1, h4⟩ := and2 h1
        obtain ⟨h1, h3⟩ := and2 h1
        obtain ⟨h1, h2⟩ := and2 h1
        have bk : blkC X.N X.env.scope scope (ownOf C.N own) = true := by rw [h.hN]; rw [blkC_names (sc' := scOf C.names) h.names]; exact h1
        have ok := blkOk_by bk
        have kb := fun (s : Shared) (H : Hp) (ce : Addr) (cl : List (Str × Addr)) (fp : List Addr) => h.blk ok.kind s H ce cl fp
        have hi := snd_I it C X W tg iter h h4
        have hg : ∀ (s : Shared) (H : Hp) (ce : Addr) (cl : List (Str × Addr)) (fp : List Addr), PG (X.blk s H scope (compEnvC scope cl ce X.env) fp) tg (gP X.K p) := fun s H ce cl fp =>
          pg_pat (X := X.blk s H scope (compEnvC scope cl ce X.env) fp) (cl := false) (names := relN C.names scope.names) h.calm h.nd (kb s H ce cl fp).names (fun z => by cases z) p tg (by have hN : (X.blk s H scope (compEnvC scope cl ce X.env) fp).N = C.N := h.hN; rw [hN]; exact h3)
        have me : Mono (wpE Γ elt) := (snd_E elt _ _ WN el (kb X.s_0 X.H_0 0 [] []) h6).1.mono
        have he : ∀ (s : Shared) (H : Hp) (ce : Addr) (cl : List (Str × Addr)) (fp : List Addr), PE (X.blk s H scope (compEnvC scope cl ce X.env) fp) el (LE X.K WN (wpE Γ elt)) := fun s H ce cl fp =>
          (snd_E elt _ (X.blk s H scope (compEnvC scope cl ce X.env) fp) WN el (kb s H ce cl fp) h6).1.pe
        have hfs := notSet_of h5 X.env
        have own2 : (ownOf C.N own).map (·.2) = own := ownOf_snd C.N own
        have hp : patIn ((ownOf C.N own).map (·.2)) p = true := by rw [own2]; exact h2
        have fin : ∀ (ht : ∀ (s : Shared) (H : Hp) (ce : Addr) (cl : List (Str × Addr)) (fp : List Addr), PTs (X.blk s H scope (compEnvC scope cl ce X.env) fp) ifs (ttOf X.K (optF Γ c))) (mc : ∀ f, optF Γ c = some f → Mono f), DPE X W (.ListComp el [⟨tg, iter, ifs, 0⟩] scope pos) (wpE Γ (.comp own elt p it c live)) := fun ht mc => by
          rw [comp_eq]
          have z := dpe_comp (live := live) (pos := pos) (W := W) h.calm h.nd hi ok hp hg ht he me mc hfs
          rw [own2] at z
          exact z
        refine both (fin ?_ ?_) rfl
        · intro s H ce cl fp
          rcases ifs with _ | ⟨t, _ | ⟨_, _⟩⟩
          · cases c with
            | none => exact pts_nil
            | some _ => exact Bool.noConfusion h7
          · obtain ⟨f, e, _, q⟩ := (snd_O c _ (X.blk s H scope (compEnvC scope cl ce X.env) fp) WN _ (kb s H ce cl fp) h7).2 t rfl
            rw [e]
            exact pts_one q.pt
          · exact Bool.noConfusion h7
        · intro f e
          rcases ifs with _ | ⟨t, _ | ⟨_, _⟩⟩
          · cases c with
            | none => cases e
            | some _ => exact Bool.noConfusion h7
          · obtain ⟨f', e', q, _⟩ := (snd_O c _ _ WN _ (kb X.s_0 X.H_0 0 [] []) h7).2 t rfl
            rw [e] at e'
            cases e'
            exact q.mono
          · exact Bool.noConfusion h7
      · exact Bool.noConfusion hc
    | _ => exact Bool.noConfusion hc
  | .callK j f pm es es2, C, X, W, x, h, hc => by
    cases x with
    | Call g as kws p =>
      cases g with
      | Name y q =>
        cases ef : C.kfn[j]? with
        | none =>
          revert hc
          simp only [chkE]
          rw [ef]
          exact fun z => Bool.noConfusion z
        | some zn =>
          obtain ⟨z, f', n, ks, pm'⟩ := zn
          have hc : ((y == z) && decide (f' = f) && glN C.names y && decide (as.length = n) && as.all bare1 && chkEs C es as && chkKs C es2 kws ks && decide (pm' = pm)) = true := by
            revert hc
            simp only [chkE]
            rw [ef]
            exact fun z => z
          obtain ⟨h1, h8⟩ := and2 hc
          have e8 := of_decide_eq_true h8
          subst e8
          obtain ⟨h1, h7⟩ := and2 h1
          obtain ⟨h1, h6⟩ := and2 h1
          obtain ⟨h1, h5⟩ := and2 h1
          obtain ⟨h1, h4⟩ := and2 h1
          obtain ⟨h1, h3⟩ := and2 h1
          obtain ⟨h1, h2⟩ := and2 h1
          have e := eq_of_beq h1
          subst e
          have e := of_decide_eq_true h2
          subst e
          have e := of_decide_eq_true h4
          subst e
          obtain ⟨gg, d⟩ := h.gl h3
          obtain ⟨k, a, fd, ps, _, F⟩ := h.kfns j y f' as.length ks pm' ef
          have hs := snd_Es es C X W as h h6
          have hk := snd_Ks es2 C X W kws ks h h7
          refine both (dpe_kw F h.takes gg d hs.1 hk.1 h5 (fun e => ?_) (fun sl T Q X q => by rw [hs.2.1]; exact hs.2.2 sl T Q X q) (fun sl T Q X q => by rw [hk.2.1]; exact hk.2.2 sl T Q X q)) rfl
          subst e
          cases es with
          | nil => exact ⟨rfl, rfl⟩
          | cons _ _ => exact Bool.noConfusion h6
      | _ => exact Bool.noConfusion hc
    | _ => exact Bool.noConfusion hc
  | .tupS a b, C, X, W, x, h, hc => by
    cases x with
    | Tuple l k p =>
      rcases l with _ | ⟨x, _ | ⟨y, _ | ⟨_, _⟩⟩⟩ <;> first
        | exact Bool.noConfusion hc
        | skip
      cases y with
      | Starred y q =>
        obtain ⟨h1, h3⟩ := and2 hc
        obtain ⟨h1, h2⟩ := and2 h1
        exact both (dpe_tupS (snd_E a C X W x h h2).1 (snd_E b C X W y h h3).1 h1) rfl
      | _ => exact Bool.noConfusion hc
    | _ => exact Bool.noConfusion hc
  | .fnv n, C, X, W, x, h, hc => by
    cases x with
    | Name y p =>
      obtain ⟨h1, h3⟩ := and2 hc
      obtain ⟨h1, h2⟩ := and2 h1
      have e := eq_of_beq h1
      subst e
      obtain ⟨gg, d⟩ := h.gl h2
      obtain ⟨⟨z, f, k⟩, hm, e⟩ := List.any_eq_true.mp h3
      have e := eq_of_beq e
      simp only at e
      subst e
      obtain ⟨k', fd, ps, _, F⟩ := h.fvs z f k hm
      exact both (dpe_fnv gg d F.mg) rfl
    | _ => exact Bool.noConfusion hc
  | .callV i tb es, C, X, W, x, h, hc => by
    cases x with
    | Call g as ks p =>
      cases g with
      | Name y q =>
        cases ks with
        | cons _ _ => exact Bool.noConfusion hc
        | nil =>
          have hc : (decide (C.N[i]? = some y) && visN C.names y && (tb.all fun p => C.fvs.contains (p.1, p.2, as.length)) && !as.isEmpty && as.all bare1 && chkEs C es as) = true := hc
          obtain ⟨h1, h6⟩ := and2 hc
          obtain ⟨h1, h5⟩ := and2 h1
          obtain ⟨h1, h4⟩ := and2 h1
          obtain ⟨h1, h3⟩ := and2 h1
          obtain ⟨h0, h2⟩ := and2 h1
          obtain ⟨v, d, cd⟩ := h.vis h2
          have hs := snd_Es es C X W as h h6
          cases as with
          | nil => exact Bool.noConfusion h4
          | cons b as =>
            have hl : ∀ sl T Q X, wpEs Γ es sl T Q X → wpEs Γ es sl T (fun vs T => vs.length = (b :: as).length ∧ Q vs T) X := fun sl T Q X q => by rw [hs.2.1]; exact hs.2.2 sl T Q X q
            exact both (dpe_callV (Γ := Γ) (fun y f hy => h.fvs y f _ (List.contains_iff_mem.mp (List.all_eq_true.mp h3 _ hy))) h.takes hs.1 (by rw [h.hN]; exact of_decide_eq_true h0) v d cd h5 hl) rfl
      | _ => exact Bool.noConfusion hc
    | _ => exact Bool.noConfusion hc
  | .comp2 own elt p it c own1 p1 it1 c1 live, C, X, W, x, h, hc => by
    cases x with
    | ListComp el gs scope pos =>
      rcases gs with _ | ⟨⟨tg, iter, ifs, k⟩, _ | ⟨⟨tg1, iter1, ifs1, k1⟩, gr⟩⟩
      · exact Bool.noConfusion hc
      · exact Bool.noConfusion hc
      · obtain ⟨h0, hc⟩ := and2 hc
        have eg := List.isEmpty_iff.mp h0
        subst eg
        obtain ⟨h0, hc⟩ := and2 hc
        have ek := of_decide_eq_true h0
        subst ek
        obtain ⟨h0, hc⟩ := and2 hc
        have ek := of_decide_eq_true h0
        subst ek
        obtain ⟨h1, h13⟩ := and2 hc
        obtain ⟨h1, h12⟩ := and2 h1
        obtain ⟨h1, h11⟩ := and2 h1
        obtain ⟨h1, h10⟩ := and2 h1
        obtain ⟨h1, h9⟩ := and2 h1
        obtain ⟨h1, h8⟩ := and2 h1
        obtain ⟨h1, h7⟩ := and2 h1
        obtain ⟨h1, h6⟩ := and2 h1
        obtain ⟨h1, h5⟩ := and2 h1
        obtain ⟨h1, h4⟩ := and2 h1
        obtain ⟨h1, h3⟩ := and2 h1
        obtain ⟨h1, h2⟩ := and2 h1
        have bk : blkC X.N X.env.scope scope (ownOf C.N own) = true := by rw [h.hN]; rw [blkC_names (sc' := scOf C.names) h.names]; exact h1
        have ok := blkOk_by bk
        have kb := fun (s : Shared) (H : Hp) (ce : Addr) (cl : List (Str × Addr)) (fp : List Addr) => h.blk ok.kind s H ce cl fp
        have hi := snd_I it C X W tg iter h h4
        have hg : ∀ (s : Shared) (H : Hp) (ce : Addr) (cl : List (Str × Addr)) (fp : List Addr), PG (X.blk s H scope (compEnvC scope cl ce X.env) fp) tg (gP X.K p) := fun s H ce cl fp =>
          pg_pat (X := X.blk s H scope (compEnvC scope cl ce X.env) fp) (cl := false) (names := relN C.names scope.names) h.calm h.nd (kb s H ce cl fp).names (fun z => by cases z) p tg (by have hN : (X.blk s H scope (compEnvC scope cl ce X.env) fp).N = C.N := h.hN; rw [hN]; exact h3)
        have me : Mono (wpE Γ elt) := (snd_E elt _ _ WN el (kb X.s_0 X.H_0 0 [] []) h6).1.mono
        have he : ∀ (s : Shared) (H : Hp) (ce : Addr) (cl : List (Str × Addr)) (fp : List Addr), PE (X.blk s H scope (compEnvC scope cl ce X.env) fp) el (LE X.K WN (wpE Γ elt)) := fun s H ce cl fp =>
          (snd_E elt _ (X.blk s H scope (compEnvC scope cl ce X.env) fp) WN el (kb s H ce cl fp) h6).1.pe
        have hfs := notSet_of h5 X.env
        have own2 : (ownOf C.N own).map (·.2) = own := ownOf_snd C.N own
        have hp : patIn ((ownOf C.N own).map (·.2)) p = true := by rw [own2]; exact h2
        have hg1 : ∀ (s : Shared) (H : Hp) (ce : Addr) (cl : List (Str × Addr)) (fp : List Addr), PG (X.blk s H scope (compEnvC scope cl ce X.env) fp) tg1 (gP X.K p1) := fun s H ce cl fp =>
          pg_pat (X := X.blk s H scope (compEnvC scope cl ce X.env) fp) (cl := false) (names := relN C.names scope.names) h.calm h.nd (kb s H ce cl fp).names (fun z => by cases z) p1 tg1 (by have hN : (X.blk s H scope (compEnvC scope cl ce X.env) fp).N = C.N := h.hN; rw [hN]; exact h10)
        have mi1 : MonoI (wpI Γ it1) := (snd_I it1 _ _ WN tg1 iter1 (kb X.s_0 X.H_0 0 [] []) h11).mono
        have hi1 : ∀ (s : Shared) (H : Hp) (ce : Addr) (cl : List (Str × Addr)) (fp : List Addr), PI (X.blk s H scope (compEnvC scope cl ce X.env) fp) tg1 iter1 (LI X.K WN (wpI Γ it1)) := fun s H ce cl fp =>
          (snd_I it1 _ (X.blk s H scope (compEnvC scope cl ce X.env) fp) WN tg1 iter1 (kb s H ce cl fp) h11).pi
        have hfs1 : ∀ env x, foldedSetIterable iter1 env x = pure x := fun env => notSet_of h12 env
        have hv : ∀ i ∈ own1, i ∈ (ownOf C.N own).map (·.2) := fun i hi => by rw [own2]; exact List.contains_iff_mem.mp (List.all_eq_true.mp h8 i hi)
        have tts : ∀ (c : Oe) (ifs : List Expr), chkOL { C with names := relN C.names scope.names, cl := false, lam := false } c ifs = true → (∀ (C : CkI) (X : Cx) (W : L2.WX) (x : Option Expr), Cok Γ C X W → chkO C c x = true → DPO X W x (wpO Γ c) ∧ ∀ t, x = some t → ∃ f, optF Γ c = some f ∧ DPE X W t f ∧ DPT X W t f) → (∀ (s : Shared) (H : Hp) (ce : Addr) (cl : List (Str × Addr)) (fp : List Addr), PTs (X.blk s H scope (compEnvC scope cl ce X.env) fp) ifs (ttOf X.K (optF Γ c))) ∧ ∀ f, optF Γ c = some f → Mono f := by
          intro c ifs h7 snd
          rcases chkOL_inv h7 with ⟨rfl, rfl⟩ | ⟨t, rfl, h70⟩
          · exact ⟨fun s H ce cl fp => pts_nil, fun f e => by cases e⟩
          · refine ⟨fun s H ce cl fp => ?_, fun f e => ?_⟩
            · obtain ⟨f, e, _, q⟩ := (snd _ (X.blk s H scope (compEnvC scope cl ce X.env) fp) WN _ (kb s H ce cl fp) h70).2 t rfl
              rw [e]
              exact pts_one q.pt
            · obtain ⟨f', e', q, _⟩ := (snd _ _ WN _ (kb X.s_0 X.H_0 0 [] []) h70).2 t rfl
              rw [e] at e'
              cases e'
              exact q.mono
        obtain ⟨t1, t2⟩ := tts c ifs h7 (snd_O c)
        obtain ⟨t3, t4⟩ := tts c1 ifs1 h13 (snd_O c1)
        have fin : DPE X W (.ListComp el [⟨tg, iter, ifs, 0⟩, ⟨tg1, iter1, ifs1, 0⟩] scope pos) (wpE Γ (.comp2 own elt p it c own1 p1 it1 c1 live)) := by
          rw [comp2_eq]
          have z := dpe_comp2 (live := live) (pos := pos) (W := W) h.calm h.nd hi ok hv hp h9 hg t1 hi1 mi1 hg1 t3 he me t2 t4 hfs hfs1
          rw [own2] at z
          exact z
        exact both fin rfl
    | _ => exact Bool.noConfusion hc
  | .dgt a i, C, X, W, x, h, hc => by
    cases x with
    | Subscript y s q =>
      obtain ⟨h1, h3⟩ := and2 hc
      obtain ⟨h1, h2⟩ := and2 h1
      exact both (dpe_dgt (by have := h.units; omega) (snd_E a C X W _ h h1).1 (snd_E i C X W _ h h2).1 (noSl_of h3)) rfl
    | _ => exact Bool.noConfusion hc
  | .get2 o k d, C, X, W, x, h, hc => by
    cases x with
    | Call g as ks cpos =>
      cases g with
      | Attribute ob m apos =>
        rcases as with _ | ⟨y, _ | ⟨z, _ | ⟨_, _⟩⟩⟩ <;> cases ks <;> first
          | exact Bool.noConfusion hc
          | skip
        obtain ⟨h1, h8⟩ := and2 hc
        obtain ⟨h1, h7⟩ := and2 h1
        obtain ⟨h1, h6⟩ := and2 h1
        obtain ⟨h1, h5⟩ := and2 h1
        obtain ⟨h1, h4⟩ := and2 h1
        obtain ⟨h1, h3⟩ := and2 h1
        obtain ⟨h1, h2⟩ := and2 h1
        have e := eq_of_beq h1
        subst e
        exact both (dpe_get2 (by have := h.units; omega) (snd_E o C X W _ h h6).1 (snd_E k C X W _ h h7).1 (snd_E d C X W _ h h8).1 (m2_of h2 h3 h4 h5)) rfl
      | _ => exact Bool.noConfusion hc
    | _ => exact Bool.noConfusion hc
  | .kin neg k d, C, X, W, x, h, hc => by
    cases x with
    | Compare l ops rs q =>
      rcases ops with _ | ⟨p, _ | ⟨_, _⟩⟩ <;> rcases rs with _ | ⟨r, _ | ⟨_, _⟩⟩ <;> first
        | exact Bool.noConfusion hc
        | skip
      obtain ⟨h1, h4⟩ := and2 hc
      obtain ⟨h1, h3⟩ := and2 h1
      obtain ⟨h1, h2⟩ := and2 h1
      have e := of_decide_eq_true h1
      have h4 : behindInMarks p r = false := by simpa using h4
      have hu : X.A.units + 1 < cLine := by have := h.units; omega
      exact ⟨dpe_kin (pos := q) e hu (snd_E k C X W _ h h2).1 (snd_E d C X W _ h h3).1 h4, dpt_kin (pos := q) e hu (snd_E k C X W _ h h2).1 (snd_E d C X W _ h h3).1 h4⟩
    | _ => exact Bool.noConfusion hc
  | .dicO ks es, C, X, W, x, h, hc => by
    cases x with
    | Dict keys vals q =>
      obtain ⟨h0, h3⟩ := and2 hc
      obtain ⟨h1, h2⟩ := and2 h0
      obtain ⟨z1, z2⟩ := snd_Ds es ks C X W keys vals h h3
      have e : wpE Γ (.dicO ks es) = dicF ks (seqF (esL Γ es)) := by
        rw [← seq_eq]
        rfl
      rw [e]
      cases keys with
      | nil =>
        cases vals with
        | cons _ _ => cases ks <;> cases es <;> exact Bool.noConfusion h3
        | nil =>
          cases ks with
          | cons _ _ => cases es <;> exact Bool.noConfusion h3
          | nil =>
            cases es with
            | cons _ _ => exact Bool.noConfusion h3
            | nil => exact both dpe_dicO0 rfl
      | cons k0 keys => exact both (dpe_dic z1 z2 (of_decide_eq_true h1) (by simp) (of_decide_eq_true h2)) rfl
    | _ => exact Bool.noConfusion hc
  | .caught cc e, C, X, W, x, h, hc => by
    cases x with
    | Call g as ks p =>
      cases g with
      | Name y q =>
        rcases as with _ | ⟨la, _ | ⟨_, _⟩⟩
        · exact Bool.noConfusion hc
        · cases la with
          | Lambda params body scope lpos =>
            cases ks with
            | cons _ _ => exact Bool.noConfusion hc
            | nil =>
              obtain ⟨h1, h7⟩ := and2 hc
              obtain ⟨h1, h6⟩ := and2 h1
              obtain ⟨h1, h5⟩ := and2 h1
              obtain ⟨h1, h4⟩ := and2 h1
              obtain ⟨h1, h3⟩ := and2 h1
              obtain ⟨h1, h2⟩ := and2 h1
              have e2 := eq_of_beq h2
              have e3 := eq_of_beq h3
              obtain ⟨gg, d⟩ := h.gl h4
              have K := h.catch_ h1
              rw [← e2, ← e3] at K
              have L : LamX.LamS X.env.scope scope := by
                have z := LamX.lamS_by h5
                exact ⟨z.kind, z.co, z.gen, z.own, fun y hy e => by rw [h.names]; exact z.free y hy e⟩
              have np : params = ⟨[], [], none, [], [], none, []⟩ := by
                obtain ⟨a1, a2, a3, a4, a5, a6, a7⟩ := params
                unfold noPar at h6
                split at h6
                · assumption
                · cases h6
              subst np
              have hb := fun (A : Around) (outer : List PySem.Env) (s : Shared) (H : Hp) (E : XK) (f c' : Addr) (hr : Room C.lv (A.deeper (LamX.lamEnv X scope s.heap.objs.size f c'))) =>
                (snd_E e _ (LamX.lamCx X A outer s H E scope f c') _ body (h.lamb L.kind hr) h7).1
              have me : Mono (wpE Γ e) := (hb X.A [] X.s_0 X.H_0 (fun _ _ _ => False) 0 0 ((Room.deeper (k := C.lv + 1) K.room _).mono (Nat.le_succ _))).mono
              exact both (dpe_caught K (by rw [e3]; exact h.csub) gg d L rfl (fun _ _ _ _ _ => rfl) me (fun A outer s H E f c' hr => (hb A outer s H E f c' hr).pe)) rfl
          | _ => exact Bool.noConfusion hc
        · exact Bool.noConfusion hc
      | _ => exact Bool.noConfusion hc
    | _ => exact Bool.noConfusion hc
  | .isx a c, C, X, W, x, h, hc => by
    cases x with
    | Call g as ks p =>
      cases g with
      | Name f q =>
        rcases as with _ | ⟨y, _ | ⟨z, _ | ⟨_, _⟩⟩⟩
        · exact Bool.noConfusion hc
        · exact Bool.noConfusion hc
        rotate_left
        · exact Bool.noConfusion hc
        cases z with
        | Name z zp =>
          cases ks with
          | cons _ _ => exact Bool.noConfusion hc
          | nil =>
            obtain ⟨h1, h7⟩ := and2 hc
            obtain ⟨h1, h6⟩ := and2 h1
            obtain ⟨h1, h5⟩ := and2 h1
            obtain ⟨h1, h4⟩ := and2 h1
            obtain ⟨h1, h3⟩ := and2 h1
            obtain ⟨h1, h2⟩ := and2 h1
            have e := eq_of_beq h1
            subst e
            have e := eq_of_beq h4
            subst e
            obtain ⟨g, d, m, n⟩ := h.blt h2
            obtain ⟨gz, dz⟩ := h.gl h5
            obtain ⟨S, mz⟩ := h.subs z (List.contains_iff_mem.mp h6)
            exact both (dpe_isx S (snd_E a C X W _ h h7).1 g m gz mz dz h3) rfl
        | _ => exact Bool.noConfusion hc
      | _ => exact Bool.noConfusion hc
    | _ => exact Bool.noConfusion hc
  | .dct0, C, X, W, x, h, hc => by
    cases x with
    | Dict keys vals q =>
      cases keys with
      | cons _ _ => exact Bool.noConfusion hc
      | nil =>
        cases vals with
        | cons _ _ => exact Bool.noConfusion hc
        | nil => exact both dpe_dct0 rfl
    | _ => exact Bool.noConfusion hc
  | .mkl a, C, X, W, x, h, hc => by
    cases x with
    | Call f as ks p =>
      cases f with
      | Name f fp =>
        rcases as with _ | ⟨y, _ | ⟨_, _⟩⟩ <;> cases ks <;> first
          | exact Bool.noConfusion hc
          | skip
        obtain ⟨h1, h4⟩ := and2 hc
        obtain ⟨h1, h3⟩ := and2 h1
        obtain ⟨h1, h2⟩ := and2 h1
        have e := eq_of_beq h1
        subst e
        obtain ⟨g, d, m, n⟩ := h.blt h2
        exact both (dpe_mkl (snd_E a C X W _ h h4).1 g m (ty_boot "list" rfl) h3) rfl
      | _ => exact Bool.noConfusion hc
    | _ => exact Bool.noConfusion hc
  | .frz a, C, X, W, x, h, hc => by
    have hc : (plainTB x && chkE C a x) = true := by cases x <;> exact hc
    obtain ⟨h1, h2⟩ := and2 hc
    exact both (dpe_frz (snd_E a C X W x h h2).1) h1
  | .fld a f c, C, X, W, x, h, hc => by
    cases x with
    | Attribute e g p =>
      obtain ⟨h1, h4⟩ := and2 hc
      obtain ⟨h1, h3⟩ := and2 h1
      obtain ⟨h1, h2⟩ := and2 h1
      have e2 := eq_of_beq h2
      subst e2
      cases e with
      | Name y q => exact both (dpe_fld (h.flds _ (List.contains_iff_mem.mp h3)) (snd_E a C X W _ h h4).1 rfl) rfl
      | _ => exact Bool.noConfusion h1
    | _ => exact Bool.noConfusion hc
theorem snd_Es : ∀ (es : Es) (C : CkI) (X : Cx) (W : L2.WX) (l : List Expr), Cok Γ C X W → chkEs C es l = true → DPA X W l (wpEs Γ es) ∧ l.length = es.len ∧ ∀ sl T Q X, wpEs Γ es sl T Q X → wpEs Γ es sl T (fun vs T => vs.length = es.len ∧ Q vs T) X
  | .nil, C, X, W, l, h, hc => by
    cases l with
    | nil => exact ⟨dpa_nil, rfl, fun sl T Q X q => ⟨rfl, q⟩⟩
    | cons _ _ => exact Bool.noConfusion hc
  | .cons e r, C, X, W, l, h, hc => by
    cases l with
    | nil => exact Bool.noConfusion hc
    | cons x xs =>
      obtain ⟨h1, h3⟩ := and2 hc
      obtain ⟨h1, h2⟩ := and2 h1
      have he := (snd_E e C X W x h h2).1
      obtain ⟨r1, r2, r3⟩ := snd_Es r C X W xs h h3
      refine ⟨dpa_cons he r1 h1, by simp [Es.len, r2], fun sl T Q X q => ?_⟩
      refine he.mono _ _ _ _ _ _ (fun v T1 q => ?_) (fun _ _ q => q) q
      refine r1.mono _ _ _ _ _ _ (fun vs T2 q => ?_) (fun _ _ q => q) (r3 _ _ _ _ q)
      exact ⟨by simp [Es.len, q.1], q.2⟩
theorem snd_Ks : ∀ (es : Es) (C : CkI) (X : Cx) (W : L2.WX) (l : List Keyword) (ks : List Str), Cok Γ C X W → chkKs C es l ks = true → DPK X W l ks (wpEs Γ es) ∧ ks.length = es.len ∧ ∀ sl T Q X, wpEs Γ es sl T Q X → wpEs Γ es sl T (fun vs T => vs.length = es.len ∧ Q vs T) X
  | .nil, C, X, W, l, ks, h, hc => by
    cases l <;> cases ks <;> first | exact Bool.noConfusion hc | skip
    exact ⟨dpk_nil, rfl, fun sl T Q X q => ⟨rfl, q⟩⟩
  | .cons e r, C, X, W, l, ks, h, hc => by
    cases l with
    | nil => exact Bool.noConfusion hc
    | cons kw kws =>
      cases ks with
      | nil => exact Bool.noConfusion hc
      | cons k ks =>
        obtain ⟨a, v, p⟩ := kw
        obtain ⟨h1, h3⟩ := and2 hc
        obtain ⟨h1, h2⟩ := and2 h1
        have ea : a = some k := of_decide_eq_true h1
        subst ea
        have he := (snd_E e C X W v h h2).1
        obtain ⟨r1, r2, r3⟩ := snd_Ks r C X W kws ks h h3
        refine ⟨dpk_cons he r1, by simp [Es.len, r2], fun sl T Q X q => ?_⟩
        refine he.mono _ _ _ _ _ _ (fun v T1 q => ?_) (fun _ _ q => q) q
        refine r1.mono _ _ _ _ _ _ (fun vs T2 q => ?_) (fun _ _ q => q) (r3 _ _ _ _ q)
        exact ⟨by simp [Es.len, q.1], q.2⟩
theorem snd_Ds : ∀ (es : Es) (ks : List Str) (C : CkI) (X : Cx) (W : L2.WX) (keys : List (Option Expr)) (vals : List Expr), Cok Γ C X W → chkDs C ks es keys vals = true → DPs X W keys vals ks (esL Γ es) ∧ ks.length = (esL Γ es).length
  | .nil, ks, C, X, W, keys, vals, h, hc => by
    cases ks <;> cases keys <;> cases vals <;> first | exact Bool.noConfusion hc | skip
    exact ⟨.nil, rfl⟩
  | .cons e r, ks, C, X, W, keys, vals, h, hc => by
    cases ks with
    | nil => exact Bool.noConfusion hc
    | cons k ks =>
      cases keys with
      | nil => exact Bool.noConfusion hc
      | cons key keys =>
        cases vals with
        | nil => exact Bool.noConfusion hc
        | cons v vals =>
          obtain ⟨h1, h3⟩ := and2 hc
          obtain ⟨h1, h2⟩ := and2 h1
          obtain ⟨r1, r2⟩ := snd_Ds r ks C X W keys vals h h3
          cases key with
          | none => exact Bool.noConfusion h1
          | some key =>
            cases key with
            | Constant c j p =>
              cases c with
              | str k' =>
                have e := eq_of_beq h1
                subst e
                exact ⟨.cons (snd_E _ C X W v h h2).1 r1, by simp [esL, r2]⟩
              | _ => exact Bool.noConfusion h1
            | _ => exact Bool.noConfusion h1
theorem snd_O : ∀ (o : Oe) (C : CkI) (X : Cx) (W : L2.WX) (x : Option Expr), Cok Γ C X W → chkO C o x = true → DPO X W x (wpO Γ o) ∧ ∀ t, x = some t → ∃ f, optF Γ o = some f ∧ DPE X W t f ∧ DPT X W t f
  | .none, C, X, W, x, h, hc => by
    cases x with
    | none => exact ⟨dpo_none, fun t z => by cases z⟩
    | some _ => exact Bool.noConfusion hc
  | .some e, C, X, W, x, h, hc => by
    cases x with
    | none => exact Bool.noConfusion hc
    | some y =>
      obtain ⟨a1, a2⟩ := snd_E e C X W y h hc
      exact ⟨dpo_some a1, fun t z => by cases z; exact ⟨_, rfl, a1, a2⟩⟩
theorem snd_I : ∀ (it : Itr) (C : CkI) (X : Cx) (W : L2.WX) (tg x : Expr), Cok Γ C X W → chkI C it tg x = true → DPI X W tg x (wpI Γ it)
  | .seq a, C, X, W, tg, x, h, hc => by
    have hc : chkE C a x = true := by cases tg <;> cases x <;> exact hc
    exact dpi_seq (snd_E a C X W x h hc).1
  | .rng1 a, C, X, W, tg, x, h, hc => by
    cases x with
    | Call f as ks p =>
      cases f with
      | Name f fp =>
        rcases as with _ | ⟨y, _ | ⟨_, _⟩⟩ <;> cases ks <;> first
          | exact Bool.noConfusion hc
          | (cases tg <;> exact Bool.noConfusion hc)
          | skip
        have hc : ((f == ("range" : Str)) && bltN C f && bare1 y && chkE C a y) = true := by cases tg <;> exact hc
        obtain ⟨h1, h4⟩ := and2 hc
        obtain ⟨h1, h3⟩ := and2 h1
        obtain ⟨h1, h2⟩ := and2 h1
        have e := eq_of_beq h1
        subst e
        obtain ⟨g, d, m, n⟩ := h.blt h2
        exact dpi_rng1 (snd_E a C X W _ h h4).1 h3 g m
      | _ => cases tg <;> exact Bool.noConfusion hc
    | _ => cases tg <;> exact Bool.noConfusion hc
  | .rng2 a b, C, X, W, tg, x, h, hc => by
    cases x with
    | Call f as ks p =>
      cases f with
      | Name f fp =>
        rcases as with _ | ⟨y, _ | ⟨z, _ | ⟨_, _⟩⟩⟩ <;> cases ks <;> first
          | exact Bool.noConfusion hc
          | (cases tg <;> exact Bool.noConfusion hc)
          | skip
        have hc : ((f == ("range" : Str)) && bltN C f && bare1 y && bare1 z && chkE C a y && chkE C b z) = true := by cases tg <;> exact hc
        obtain ⟨h1, h6⟩ := and2 hc
        obtain ⟨h1, h5⟩ := and2 h1
        obtain ⟨h1, h4⟩ := and2 h1
        obtain ⟨h1, h3⟩ := and2 h1
        obtain ⟨h1, h2⟩ := and2 h1
        have e := eq_of_beq h1
        subst e
        obtain ⟨g, d, m, n⟩ := h.blt h2
        exact dpi_rng2 (snd_E a C X W _ h h5).1 (snd_E b C X W _ h h6).1 h3 h4 g m
      | _ => cases tg <;> exact Bool.noConfusion hc
    | _ => cases tg <;> exact Bool.noConfusion hc
  | .rng3 a b c, C, X, W, tg, x, h, hc => by
    cases tg <;> cases x <;> exact Bool.noConfusion hc
  | .enum a, C, X, W, tg, x, h, hc => by
    cases tg with
    | Tuple ts kk tp =>
      cases x with
      | Call f as ks p =>
        cases f with
        | Name f fp =>
          rcases as with _ | ⟨y, _ | ⟨_, _⟩⟩ <;> cases ks <;> first
            | exact Bool.noConfusion hc
            | skip
          have hc : ((f == ("enumerate" : Str)) && bltN C f && bare1 y && chkE C a y) = true := hc
          obtain ⟨h1, h4⟩ := and2 hc
          obtain ⟨h1, h3⟩ := and2 h1
          obtain ⟨h1, h2⟩ := and2 h1
          have e := eq_of_beq h1
          subst e
          obtain ⟨g, d, m, n⟩ := h.blt h2
          exact dpi_enum (snd_E a C X W _ h h4).1 h3 g m
        | _ => exact Bool.noConfusion hc
      | _ => exact Bool.noConfusion hc
    | _ => cases x <;> exact Bool.noConfusion hc
  | .zip a b, C, X, W, tg, x, h, hc => by
    cases tg with
    | Tuple ts kk tp =>
      cases x with
      | Call f as ks p =>
        cases f with
        | Name f fp =>
          rcases as with _ | ⟨y, _ | ⟨z, _ | ⟨_, _⟩⟩⟩ <;> cases ks <;> first
            | exact Bool.noConfusion hc
            | skip
          have hc : ((f == ("zip" : Str)) && bltN C f && bare1 y && bare1 z && chkE C a y && chkE C b z) = true := hc
          obtain ⟨h1, h6⟩ := and2 hc
          obtain ⟨h1, h5⟩ := and2 h1
          obtain ⟨h1, h4⟩ := and2 h1
          obtain ⟨h1, h3⟩ := and2 h1
          obtain ⟨h1, h2⟩ := and2 h1
          have e := eq_of_beq h1
          subst e
          obtain ⟨g, d, m, n⟩ := h.blt h2
          exact dpi_zip (snd_E a C X W _ h h5).1 (snd_E b C X W _ h h6).1 h3 h4 g m
        | _ => exact Bool.noConfusion hc
      | _ => exact Bool.noConfusion hc
    | _ => cases x <;> exact Bool.noConfusion hc
end
end
end DL
namespace DL
open PySem PySem.Spec PyProof.Rows L2
theorem noSwap_of {tg v : Expr} {env : PySem.Env} (h : noSwapB tg v = true) : swappedStores [tg] v env = pure none := by
  cases tg with
  | Name x p => cases v <;> rfl
  | Tuple ts k p =>
    cases v with
    | Tuple vs k2 p2 =>
      have h : (!(ts.length == 2 || ts.length == 3) || !(vs.length == ts.length) || vs.all (foldedForSure 8)) = true := h
      unfold swappedStores
      simp only
      split
      · rfl
      · rename_i h1
        have h2 : vs.all (foldedForSure 8) = true := by
          simp only [Bool.or_eq_true, Bool.not_eq_true'] at h h1
          rcases h with (h | h) | h
          · rw [h] at h1; simp at h1
          · simp only [bne] at h1; rw [h] at h1; simp at h1
          · exact h
        split
        · rfl
        · split
          · rfl
          · rfl
    | _ => first | rfl | exact Bool.noConfusion h
  | _ => cases v <;> exact Bool.noConfusion h
theorem bk_fun {env : PySem.Env} (hk : env.scope.kind = .function) : env.blockKind = .function := by unfold Env.blockKind; rw [hk]; rfl
def starB : Expr → Bool
  | .Starred .. => true
  | _ => false
theorem star1 {a : Expr} (ha : bare1 a = true) : starB a = false := by
  cases a <;> first | rfl | (exact Bool.noConfusion ha)
theorem any_star2 {a b : Expr} (ha : bare1 a = true) (hb : bare1 b = true) : [a, b].any starB = false := by
  simp only [List.any_cons, List.any_nil, star1 ha, star1 hb]
  rfl
theorem any_star3 {a b c : Expr} (ha : bare1 a = true) (hb : bare1 b = true) (hc : bare1 c = true) : [a, b, c].any starB = false := by
  simp only [List.any_cons, List.any_nil, star1 ha, star1 hb, star1 hc]
  rfl
theorem swap2_of {x y : Str} {px py pt pt2 : Pos} {kt k2} {a b : Expr} {env : PySem.Env} (hk : env.scope.kind = .function) (hx : env.scope.names.lookup x = some .local) (hy : env.scope.names.lookup y = some .local) (hl : (py.line == px.line) = true) (hne : (x == y) = false)
    (ha : bare1 a = true) (hb : bare1 b = true) (h1 : [a, b].all (foldedForSure 8) = false) (h2 : [a, b].all (constantsAlone 8) = false) :
    swappedStores [.Tuple [.Name x px, .Name y py] kt pt] (.Tuple [a, b] k2 pt2) env = pure (some [x, y]) := by
  have e1 : env.kindOf x = some .local := hx
  have e2 : env.kindOf y = some .local := hy
  have e3 := bk_fun hk
  have e4 := any_star2 ha hb
  have hne' : (y == x) = false := by
    cases e : y == x with
    | false => rfl
    | true => rw [eq_of_beq e] at hne; simp at hne
  unfold swappedStores
  simp only [h1, h2]
  split
  · rename_i q
    simp [e3] at q
  · split
    · rename_i q
      exact Bool.noConfusion (e4.symm.trans q)
    · simp [e1, e2, e3, Expr.pos, eq_of_beq hl, List.eraseDups_cons, List.filterMap_cons, hne, hne']
theorem swap3_of {x y z : Str} {px py pz pt pt2 : Pos} {kt k2} {a b c : Expr} {env : PySem.Env} (hk : env.scope.kind = .function) (hx : env.scope.names.lookup x = some .local) (hy : env.scope.names.lookup y = some .local) (hz : env.scope.names.lookup z = some .local)
    (hl : (py.line == px.line) = true) (hl2 : (pz.line == px.line) = true) (hne : (x == y) = false) (hne2 : (x == z) = false) (hne3 : (y == z) = false)
    (ha : bare1 a = true) (hb : bare1 b = true) (hc : bare1 c = true) (h1 : [a, b, c].all (foldedForSure 8) = false) (h2 : [a, b, c].all (constantsAlone 8) = false) :
    swappedStores [.Tuple [.Name x px, .Name y py, .Name z pz] kt pt] (.Tuple [a, b, c] k2 pt2) env = pure (some [x, y, z]) := by
  have e1 : env.kindOf x = some .local := hx
  have e2 : env.kindOf y = some .local := hy
  have e2z : env.kindOf z = some .local := hz
  have e3 := bk_fun hk
  have e4 := any_star3 ha hb hc
  have sy : ∀ {p q : Str}, (p == q) = false → (q == p) = false := fun {p q} h => by
    cases e : q == p with
    | false => rfl
    | true => rw [eq_of_beq e] at h; simp at h
  unfold swappedStores
  simp only [h1, h2]
  split
  · rename_i q
    simp [e3] at q
  · split
    · rename_i q
      exact Bool.noConfusion (e4.symm.trans q)
    · simp [e1, e2, e2z, e3, Expr.pos, eq_of_beq hl, eq_of_beq hl2, List.eraseDups_cons, List.filterMap_cons, hne, hne2, hne3, sy hne, sy hne2, sy hne3]
def patEach {N : List Str} {names : List (Str × NameKind)} {cl : Bool} {p : Pat} {tg : Expr} {env : PySem.Env} (h : chkP N names cl p tg = true) : (assignEach [tg] env).map (·.2) = [assign tg env] := by rw [each_cons h]; rfl
theorem lk_eq {names : List (Str × NameKind)} {x : Str} (h : decide (names.lookup x = some .local) = true) : names.lookup x = some .local := of_decide_eq_true h
/-- name = [..] whose name is let go by the block's end -/
theorem callParts_eq {v : Expr} {y : Str} {a : Expr} {as : List Expr} (h : callParts v = some (y, a, as)) : ∃ q p, v = .Call (.Name y q) (a :: as) [] p := by
  cases v with
  | Call g l ks p =>
    cases g with
    | Name x q =>
      cases l with
      | nil => cases h
      | cons b bs =>
        cases ks with
        | nil => cases h; exact ⟨q, p, rfl⟩
        | cons _ _ => cases h
    | _ => cases h
  | _ => cases h
theorem snd_asgC {Γ : DL.Env} {own : List Nat} {elt : E} {p : Pat} {it : Itr} {c : Oe} {live : Bool} {i : Nat} {C : CkI} {X : Cx} {W : L2.WX} {el tg iter : Expr} {ifs : List Expr} {scope : Scope} {y : Str} {py cpos pos : Pos} (h : Cok Γ C X W)
    (hc : (blkC C.N (scOf C.names) scope (ownOf C.N own) && patIn own p && chkP C.N (relN C.names scope.names) false p tg && chkI C it tg iter && notSetB iter && chkE { C with names := relN C.names scope.names, cl := false, lam := false } elt el && (match ifs with
      | [] => chkO { C with names := relN C.names scope.names, cl := false, lam := false } c none
      | [t] => chkO { C with names := relN C.names scope.names, cl := false, lam := false } c (some t)
      | _ => false)) = true)
    (hy : X.N[i]? = some y) (hyl : X.env.scope.names.lookup y = some .local) (hl : (py.line == cpos.line) = true) (ha : (scope.names.any fun (n, k) => n == y && (k == .local || k == .cell)) = false) :
    DPS X W (.Assign [.Name y py] (.ListComp el [⟨tg, iter, ifs, 0⟩] scope cpos) pos) (wpS Γ (.set (.nm i) (.comp own elt p it c live))) := by
  obtain ⟨h1, h7⟩ := and2 hc
  obtain ⟨h1, h6⟩ := and2 h1
  obtain ⟨h1, h5⟩ := and2 h1
  obtain ⟨h1, h4⟩ := and2 h1
  obtain ⟨h1, h3⟩ := and2 h1
  obtain ⟨h1, h2⟩ := and2 h1
  have bk : blkC X.N X.env.scope scope (ownOf C.N own) = true := by rw [h.hN]; rw [blkC_names (sc' := scOf C.names) h.names]; exact h1
  have ok := blkOk_by bk
  have kb := fun (s : Shared) (H : Hp) (ce : Addr) (cl : List (Str × Addr)) (fp : List Addr) => h.blk ok.kind s H ce cl fp
  have hi := snd_I it C X W tg iter h h4
  have hg : ∀ (s : Shared) (H : Hp) (ce : Addr) (cl : List (Str × Addr)) (fp : List Addr), PG (X.blk s H scope (compEnvC scope cl ce X.env) fp) tg (gP X.K p) := fun s H ce cl fp =>
    pg_pat (X := X.blk s H scope (compEnvC scope cl ce X.env) fp) (cl := false) (names := relN C.names scope.names) h.calm h.nd (kb s H ce cl fp).names (fun z => by cases z) p tg (by have hN : (X.blk s H scope (compEnvC scope cl ce X.env) fp).N = C.N := h.hN; rw [hN]; exact h3)
  have me : Mono (wpE Γ elt) := (snd_E elt _ _ WN el (kb X.s_0 X.H_0 0 [] []) h6).1.mono
  have he : ∀ (s : Shared) (H : Hp) (ce : Addr) (cl : List (Str × Addr)) (fp : List Addr), PE (X.blk s H scope (compEnvC scope cl ce X.env) fp) el (LE X.K WN (wpE Γ elt)) := fun s H ce cl fp =>
    (snd_E elt _ (X.blk s H scope (compEnvC scope cl ce X.env) fp) WN el (kb s H ce cl fp) h6).1.pe
  have hfs := notSet_of h5 X.env
  have own2 : (ownOf C.N own).map (·.2) = own := ownOf_snd C.N own
  have hp : patIn ((ownOf C.N own).map (·.2)) p = true := by rw [own2]; exact h2
  have ht : ∀ (s : Shared) (H : Hp) (ce : Addr) (cl : List (Str × Addr)) (fp : List Addr), PTs (X.blk s H scope (compEnvC scope cl ce X.env) fp) ifs (ttOf X.K (optF Γ c)) := by
    intro s H ce cl fp
    rcases ifs with _ | ⟨t, _ | ⟨_, _⟩⟩
    · cases c with
      | none => exact pts_nil
      | some _ => exact Bool.noConfusion h7
    · obtain ⟨f, e, _, q⟩ := (snd_O c _ (X.blk s H scope (compEnvC scope cl ce X.env) fp) WN _ (kb s H ce cl fp) h7).2 t rfl
      rw [e]
      exact pts_one q.pt
    · exact Bool.noConfusion h7
  have mc : ∀ f, optF Γ c = some f → Mono f := by
    intro f e
    rcases ifs with _ | ⟨t, _ | ⟨_, _⟩⟩
    · cases c with
      | none => cases e
      | some _ => exact Bool.noConfusion h7
    · obtain ⟨f', e', q, _⟩ := (snd_O c _ _ WN _ (kb X.s_0 X.H_0 0 [] []) h7).2 t rfl
      rw [e] at e'
      cases e'
      exact q.mono
    · exact Bool.noConfusion h7
  have z := dps_asgC (live := live) (pos := pos) (W := W) (cpos := cpos) (py := py) h.calm h.nd hi ok hp hg ht he me mc hfs hy hyl (sw_true h.kind hyl hl ha)
  rw [own2] at z
  have e : wpS Γ (.set (.nm i) (.comp own elt p it c live)) = asgF (.nm i) (compF own (wpE Γ elt) p (wpI Γ it) (optF Γ c) live) := by
    rw [← comp_eq]
    rfl
  rw [e]
  exact z
section
variable {Γ : DL.Env}
mutual
theorem snd_S : ∀ (s : S) (C : CkI) (X : Cx) (W : L2.WX) (x : Stmt), Cok Γ C X W → PassesOwn (model X.prog X.w) X.A X.env X.xe → chkS C s x = true → DPS X W x (wpS Γ s)
  | .set p e, C, X, W, x, h, ow, hc => by
    cases x with
    | Assign tgs v pos =>
      rcases tgs with _ | ⟨tg, _ | ⟨_, _⟩⟩
      · exact Bool.noConfusion hc
      · obtain ⟨h1, h2⟩ := and2 hc
        have hg : PG X tg (gP X.K p) := pg_pat h.calm h.nd h.names h.cl p tg (by rw [h.hN]; exact h1)
        cases nc : notCompB v with
        | true =>
          rw [nc, if_pos rfl] at h2
          obtain ⟨h2, h3⟩ := and2 h2
          exact dps_asg (snd_E e C X W v h h2).1 hg (sw_none nc) (noSwap_of h3) (patEach h1)
        | false =>
          rw [nc, if_neg Bool.false_ne_true] at h2
          cases p with
          | tp ps => exact Bool.noConfusion h2
          | nm i =>
            cases e with
            | comp own elt q it c live =>
              cases tg with
              | Name y py =>
                cases v with
                | ListComp el gs scope cpos =>
                  obtain ⟨h2, h6⟩ := and2 h2
                  obtain ⟨h2, h5⟩ := and2 h2
                  obtain ⟨h3, h4⟩ := and2 h2
                  rcases gs with _ | ⟨⟨tg2, iter, ifs, k⟩, _ | ⟨_, _⟩⟩
                  · exact Bool.noConfusion h6
                  · obtain ⟨h0, h6⟩ := and2 h6
                    have ek := of_decide_eq_true h0
                    subst ek
                    obtain ⟨n1, n2⟩ := and2 (show (decide (C.N[i]? = some y) && locN C.names C.cl y) = true from h1)
                    exact snd_asgC h h6 (by rw [h.hN]; exact of_decide_eq_true n1) (by rw [h.names]; exact of_decide_eq_true h3) h4 (by simpa using h5)
                  · exact Bool.noConfusion h6
                | _ => exact Bool.noConfusion h2
              | _ => exact Bool.noConfusion h2
            | _ => exact Bool.noConfusion h2
      · exact Bool.noConfusion hc
    | _ => exact Bool.noConfusion hc
  | .par is es, C, X, W, x, h, ow, hc => by
    cases x with
    | Assign tgs v pos =>
      rcases tgs with _ | ⟨tg, _ | ⟨_, _⟩⟩
      · exact Bool.noConfusion hc
      · cases tg with
        | Tuple ts kt tp =>
          cases v with
          | Tuple vs kv vp =>
            obtain ⟨h1, h2⟩ := and2 hc
            have ha := (snd_Es es C X W vs h h2).1
            have hN := h.hN
            have hk := h.kind
            have hn := h.names
            unfold parOk at h1
            split at h1
            · simp only [Bool.and_eq_true, decide_eq_true_eq, Bool.not_eq_true'] at h1
              obtain ⟨⟨⟨⟨⟨⟨⟨⟨⟨⟨⟨q1, q2⟩, q3⟩, q4⟩, q5⟩, q6⟩, q7⟩, q8⟩, q9⟩, q10⟩, q11⟩, q12⟩ := h1
              rw [← hn] at q4 q5
              exact dps_par2 ha h.calm h.nd (by rw [hN]; exact q1) (by rw [hN]; exact q2) q3 q4 q5 (swap2_of hk q4 q5 q7 q8 q9 q10 q11 q12) rfl
            · simp only [Bool.and_eq_true, decide_eq_true_eq, Bool.not_eq_true'] at h1
              obtain ⟨⟨⟨⟨⟨⟨⟨⟨⟨⟨⟨⟨⟨⟨⟨⟨⟨⟨q1, q2⟩, q3⟩, q4⟩, q5⟩, q6⟩, q7⟩, q8⟩, q9⟩, q10⟩, q11⟩, q12⟩, q13⟩, q14⟩, q15⟩, q16⟩, q17⟩, q18⟩, q19⟩ := h1
              rw [← hn] at q7 q8 q9
              exact dps_par3 ha h.calm h.nd (by rw [hN]; exact q1) (by rw [hN]; exact q2) (by rw [hN]; exact q3) q4 q5 q6 q7 q8 q9 (swap3_of hk q7 q8 q9 q10 q11 q12 q13 q14 q15 q16 q17 q18 q19) rfl
            · exact Bool.noConfusion h1
          | _ => exact Bool.noConfusion hc
        | _ => exact Bool.noConfusion hc
      · cases tg <;> first | exact Bool.noConfusion hc | (cases v <;> exact Bool.noConfusion hc)
    | _ => exact Bool.noConfusion hc
  | .put o i e, C, X, W, x, h, ow, hc => by cases x <;> exact Bool.noConfusion hc
  | .dput o i e, C, X, W, x, h, ow, hc => by
    cases x with
    | Assign tgs v pos =>
      rcases tgs with _ | ⟨tg, _ | ⟨_, _⟩⟩
      · exact Bool.noConfusion hc
      · cases tg with
        | Subscript y s p =>
          obtain ⟨h1, h5⟩ := and2 hc
          obtain ⟨h1, h4⟩ := and2 h1
          obtain ⟨h1, h3⟩ := and2 h1
          obtain ⟨h1, h2⟩ := and2 h1
          exact dps_dput (by have := h.units; omega) (snd_E o C X W _ h h1).1 (snd_E i C X W _ h h2).1 (snd_E e C X W _ h h4).1 (sw_none h5)
        | _ => exact Bool.noConfusion hc
      · cases tg <;> exact Bool.noConfusion hc
    | _ => exact Bool.noConfusion hc
  | .exp e, C, X, W, x, h, ow, hc => by
    cases x with
    | Expr v pos =>
      obtain ⟨h1, h2⟩ := and2 hc
      exact dps_exp (snd_E e C X W v h h1).1 (sw_none h2)
    | _ => exact Bool.noConfusion hc
  | .ite c a b, C, X, W, x, h, ow, hc => by
    cases x with
    | If t y z pos =>
      obtain ⟨h1, h3⟩ := and2 hc
      obtain ⟨h1, h2⟩ := and2 h1
      obtain ⟨c1, c2⟩ := snd_E c C X W _ h h1
      exact dps_ite c1.mono c2 (snd_Ss a C X W y h ow h2) (snd_Ss b C X W z h ow h3)
    | _ => exact Bool.noConfusion hc
  | .whl c b, C, X, W, x, h, ow, hc => by
    cases x with
    | While t y z pos =>
      obtain ⟨h1, h3⟩ := and2 hc
      obtain ⟨h1, h2⟩ := and2 h1
      obtain ⟨c1, c2⟩ := snd_E c C X W _ h h1
      cases z with
      | nil => exact dps_whl ow c1.mono c2 (snd_Ss b C X W y h ow h2)
      | cons _ _ => exact Bool.noConfusion h3
    | _ => exact Bool.noConfusion hc
  | .loop p it b, C, X, W, x, h, ow, hc => by
    cases x with
    | For tg iter y z pos =>
      obtain ⟨h1, h5⟩ := and2 hc
      obtain ⟨h1, h4⟩ := and2 h1
      obtain ⟨h1, h3⟩ := and2 h1
      obtain ⟨h1, h2⟩ := and2 h1
      have hg : PG X tg (gP X.K p) := pg_pat h.calm h.nd h.names h.cl p tg (by rw [h.hN]; exact h1)
      cases z with
      | nil => exact dps_loop ow h.calm (snd_I it C X W tg iter h h2) hg (snd_Ss b C X W y h ow h4) (notSet_of h3 X.env)
      | cons _ _ => exact Bool.noConfusion h5
    | _ => exact Bool.noConfusion hc
  | .ret e, C, X, W, x, h, ow, hc => by
    cases x with
    | Return v pos =>
      cases v with
      | none => exact Bool.noConfusion hc
      | some v => exact dps_ret (snd_E e C X W v h hc).1
    | _ => exact Bool.noConfusion hc
  | .retN, C, X, W, x, h, ow, hc => by
    cases x with
    | Return v pos =>
      cases v with
      | none => exact dps_retN
      | some v => exact Bool.noConfusion hc
    | _ => exact Bool.noConfusion hc
  | .brk, C, X, W, x, h, ow, hc => by
    cases x with
    | Break pos => exact dps_brk
    | _ => exact Bool.noConfusion hc
  | .cnt, C, X, W, x, h, ow, hc => by
    cases x with
    | Continue pos => exact dps_cnt
    | _ => exact Bool.noConfusion hc
  | .pass, C, X, W, x, h, ow, hc => by
    cases x with
    | Pass pos => exact dps_pass
    | Expr v pos =>
      cases v with
      | Constant k j p =>
        cases k with
        | str s => exact dps_doc
        | _ => exact Bool.noConfusion hc
      | _ => exact Bool.noConfusion hc
    | _ => exact Bool.noConfusion hc
  | .never, C, X, W, x, h, ow, hc => ⟨fun D D' sl T _ z => z, PS.imp ps_never fun D σ H ⟨_, _, _, _, _, _, z⟩ => z⟩
  | .raiseX c, C, X, W, x, h, ow, hc => by
    cases x with
    | Raise v f pos =>
      cases f with
      | some _ => exact Bool.noConfusion hc
      | none =>
        cases v with
        | none => exact Bool.noConfusion hc
        | some v =>
          cases v with
          | Call g as ks cp =>
            cases g with
            | Name y q =>
              rcases as with _ | ⟨e, _ | ⟨_, _⟩⟩
              · exact Bool.noConfusion hc
              · cases e with
                | Constant k j p =>
                  cases k with
                  | str m =>
                    cases ks with
                    | cons _ _ => exact Bool.noConfusion hc
                    | nil =>
                      obtain ⟨h1, h3⟩ := and2 hc
                      obtain ⟨h1, h2⟩ := and2 h1
                      have e := eq_of_beq h1
                      subst e
                      obtain ⟨gg, d⟩ := h.gl h2
                      exact dps_raise h.calm h.takes (h.excs y (List.contains_iff_mem.mp h3)) gg d
                  | _ => exact Bool.noConfusion hc
                | _ => exact Bool.noConfusion hc
              · exact Bool.noConfusion hc
            | _ => exact Bool.noConfusion hc
          | _ => exact Bool.noConfusion hc
    | _ => exact Bool.noConfusion hc
  | .raise c ps es, C, X, W, x, h, ow, hc => by
    cases x with
    | Raise v f pos =>
      cases f with
      | some _ => exact Bool.noConfusion hc
      | none =>
        cases v with
        | none => exact Bool.noConfusion hc
        | some v =>
          have hc : (match callParts v with
            | some (y, a, as) => (y == c) && glN C.names y && C.xfs.contains (y, ps) && (a :: as).all bare1 && chkEs C es (a :: as)
            | none => false) = true := hc
          split at hc
          · rename_i y a as e
            obtain ⟨q, p, rfl⟩ := callParts_eq e
            obtain ⟨h1, h5⟩ := and2 hc
            obtain ⟨h1, h4⟩ := and2 h1
            obtain ⟨h1, h3⟩ := and2 h1
            obtain ⟨h1, h2⟩ := and2 h1
            have e := eq_of_beq h1
            subst e
            obtain ⟨gg, d⟩ := h.gl h2
            exact dps_raiseF h.calm h.takes (h.xfs _ (List.contains_iff_mem.mp h3)).2 gg d (snd_Es es C X W _ h h5).1 h4
          · cases hc
    | _ => exact Bool.noConfusion hc
theorem snd_Ss : ∀ (s : Ss) (C : CkI) (X : Cx) (W : L2.WX) (x : List Stmt), Cok Γ C X W → PassesOwn (model X.prog X.w) X.A X.env X.xe → chkSs C s x = true → DPSs X W x (wpSs Γ s)
  | .nil, C, X, W, x, h, ow, hc => by
    cases x with
    | nil => exact dss_nil
    | cons _ _ => exact Bool.noConfusion hc
  | .cons s r, C, X, W, x, h, ow, hc => by
    cases x with
    | nil => exact Bool.noConfusion hc
    | cons y ys =>
      obtain ⟨h1, h2⟩ := and2 hc
      show DPSs X W (y :: ys) (fun D sl T => wpS Γ s { D with nx := fun sl T => wpSs Γ r D sl T } sl T)
      exact dss_cons (snd_S s C X W y h ow h1) (snd_Ss r C X W ys h ow h2)
end
end
end DL
namespace DL
open PySem PySem.Spec PyProof.Rows L2
/-! ### a def by its term -/
def startS (n : Nat) (vs : List Val) : Slots := vs.map some ++ List.replicate (n - vs.length) none
/-- no reference beyond the first n objects -/
def closV (n : Nat) : Val → Bool
  | .ob k => decide (k < n)
  | _ => true
def closO (n : Nat) : Ob → Bool
  | .lst xs => xs.all (closV n)
  | .dic kvs => kvs.all fun p => closV n p.2
  | _ => true
/-- what stands at the end: the entry's table, a new object only as the value -/
def cutW (n : Nat) (Q : VC) : VC := fun v T => n ≤ T.length ∧ (T.take n).all (closO n) = true ∧ match v with
  | .ob j => if j < n then Q (.ob j) (T.take n) else match getT T j with
    | some o => closO n o = true ∧ Q (.ob n) (T.take n ++ [o])
    | none => False
  | v => Q v (T.take n)
def cutX (n : Nat) (X : XC) : XC := fun e T => n ≤ T.length ∧ (T.take n).all (closO n) = true ∧ X e (T.take n)
section
variable {K : PySem.W.Frag} {G H : Hp} {m : Fp} {T : Tab}
theorem take_flat {m : Fp} {n : Nat} {a : Addr} (h : a ∈ (m.take n).flatten) : a ∈ m.flatten := by
  rw [← List.take_append_drop n m, List.flatten_append, List.mem_append]
  exact .inl h
theorem closV_rel {m' : Fp} {n : Nat} (hm : ∀ k, k < n → m'[k]? = m[k]?) {v : Val} {x : V} (f : closV n v = true) (r : VRel K G m v x) : VRel K G m' v x := by
  cases v with
  | ob k =>
    obtain ⟨a, s, e, q⟩ := r
    exact ⟨a, s, by rw [hm k (of_decide_eq_true f)]; exact e, q⟩
  | _ => exact r
theorem closs_rel {m' : Fp} {n : Nat} (hm : ∀ k, k < n → m'[k]? = m[k]?) : ∀ {vs : List Val} {xs : List V}, vs.all (closV n) = true → VRels K G m vs xs → VRels K G m' vs xs
  | _, _, _, .nil => .nil
  | v :: vs, _, h, .cons r t => by
    simp only [List.all_cons, Bool.and_eq_true] at h
    exact .cons (closV_rel hm h.1 r) (closs_rel hm h.2 t)
theorem closk_rel {m' : Fp} {n : Nat} (hm : ∀ k, k < n → m'[k]? = m[k]?) : ∀ {kvs : List (Key × Val)} {ks : List (Key × V)}, (kvs.all fun p => closV n p.2) = true → KVs K G m kvs ks → KVs K G m' kvs ks
  | _, _, _, .nil => .nil
  | p :: kvs, _, h, .cons r t => by
    simp only [List.all_cons, Bool.and_eq_true] at h
    exact .cons ⟨r.1, closV_rel hm h.1 r.2⟩ (closk_rel hm h.2 t)
theorem closO_rel {m' : Fp} {n : Nat} (hm : ∀ k, k < n → m'[k]? = m[k]?) {fp : List Addr} {o : Ob} (f : closO n o = true) (r : ORel K G H m fp o) : ORel K G H m' fp o := by
  cases o with
  | dead => exact True.intro
  | lst xs => obtain ⟨a, vs, h1, h2, h3, h4⟩ := r; exact ⟨a, vs, h1, h2, h3, closs_rel hm f h4⟩
  | dic kvs => obtain ⟨a, ks, h1, h2, h3, h4⟩ := r; exact ⟨a, ks, h1, h2, h3, closk_rel hm f h4⟩
  | law n => exact r
theorem WRel.cut (w : WRel K G H m T) {n : Nat} (hf : (T.take n).all (closO n) = true) : WRel K G H (m.take n) (T.take n) where
  dat := w.dat
  tb := w.tb
  sub := w.sub
  len := by rw [List.length_take, List.length_take, w.len]
  nd := by
    have := w.nd
    rw [← List.take_append_drop n m, List.flatten_append] at this
    exact (List.nodup_append.mp this).1
  al := fun a h => w.al a (take_flat h)
  ob := fun k o e => by
    have hk : k < n := by
      have := (List.getElem?_eq_some_iff.mp e).1
      simp at this; omega
    have e' : T[k]? = some o := by rw [List.getElem?_take_of_lt hk] at e; exact e
    obtain ⟨fp, h1, h2⟩ := w.ob k o e'
    exact ⟨fp, by rw [List.getElem?_take_of_lt hk]; exact h1, closO_rel (fun j hj => List.getElem?_take_of_lt hj) (List.all_eq_true.mp hf o (List.mem_of_getElem? e)) h2⟩
theorem WRel.cut1 (w : WRel K G H m T) {n j : Nat} {o : Ob} {fp : List Addr} (hn : n ≤ T.length) (hf : (T.take n).all (closO n) = true) (hj : n ≤ j) (ho : T[j]? = some o) (hm : m[j]? = some fp) (fo : closO n o = true) : WRel K G H (m.take n ++ [fp]) (T.take n ++ [o]) where
  dat := w.dat
  tb := w.tb
  sub := w.sub
  len := by simp [w.len]
  nd := by
    have hj2 := (List.getElem?_eq_some_iff.mp hm)
    have := w.nd
    rw [← List.take_append_drop n m, List.flatten_append, List.nodup_append] at this
    obtain ⟨n1, n2, n3⟩ := this
    have hd : fp ∈ m.drop n := by
      obtain ⟨hl, he⟩ := hj2
      rw [← he]
      have : m[j] = (m.drop n)[j - n]'(by simp; omega) := by simp [List.getElem_drop, Nat.add_sub_cancel' hj]
      rw [this]
      exact List.getElem_mem _
    rw [List.flatten_append, List.nodup_append]
    refine ⟨n1, ?_, fun a h b h' => n3 a h b (List.mem_flatten.mpr ⟨fp, hd, by simpa using h'⟩)⟩
    have := (List.pairwise_flatten.mp n2).1 fp hd
    have e : [fp].flatten = fp := by simp
    rw [e]
    exact this
  al := fun a h => by
    rw [List.flatten_append, List.mem_append] at h
    rcases h with h | h
    · exact w.al a (take_flat h)
    · exact w.al a (mem_flat hm (by simpa using h))
  ob := fun k ob e => by
    have lm : (m.take n).length = n := by simp [w.len, hn]
    have lT : (T.take n).length = n := by simp [hn]
    by_cases hk : k < n
    · rw [List.getElem?_append_left (by rw [lT]; exact hk)] at e
      obtain ⟨fp', h1, h2⟩ := (w.cut hf).ob k ob e
      exact ⟨fp', by rw [List.getElem?_append_left (by rw [lm]; exact hk)]; exact h1, closO_rel (fun j hj => List.getElem?_append_left (by rw [lm]; exact hj)) (List.all_eq_true.mp hf ob (List.mem_of_getElem? e)) h2⟩
    · rw [List.getElem?_append_right (by rw [lT]; omega), lT] at e
      have hk' : k = n := by
        have := (List.getElem?_eq_some_iff.mp e).1
        simp at this; omega
      subst hk'
      simp at e
      subst e
      obtain ⟨fp', h1, h2⟩ := w.ob j _ ho
      rw [hm] at h1; cases h1
      exact ⟨fp, by rw [List.getElem?_append_right (by rw [lm]; exact Nat.le_refl _), lm]; simp, closO_rel (fun j hj => (List.getElem?_append_left (by rw [lm]; exact hj)).trans (List.getElem?_take_of_lt hj)) fo h2⟩
theorem Ext.cut {G' H' : Hp} {m' : Fp} (e : Ext K G H m G' H' m') : Ext K G H m G' H' (m'.take m.length) where
  sub := e.sub
  ms := by
    obtain ⟨r, rfl⟩ := e.ms
    exact ⟨[], by simp⟩
  keep := e.keep
  stay := e.stay
  keepG := e.keepG
  new := fun a h q => e.new a (take_flat h) q
  tabs := e.tabs
theorem Ext.cut1 {G' H' : Hp} {m' : Fp} {fp : List Addr} {j : Nat} (e : Ext K G H m G' H' m') (hm : m'[j]? = some fp) : Ext K G H m G' H' (m'.take m.length ++ [fp]) where
  sub := e.sub
  ms := by
    obtain ⟨r, rfl⟩ := e.ms
    exact ⟨[fp], by simp⟩
  keep := e.keep
  stay := e.stay
  keepG := e.keepG
  new := fun a h q => by
    rw [List.flatten_append, List.mem_append] at h
    rcases h with h | h
    · exact e.new a (take_flat h) q
    · exact e.new a (mem_flat hm (by simpa using h)) q
  tabs := e.tabs
theorem start_rel {N : List Str} {vals : List Val} {vs : List V} (hl : vs.length ≤ N.length) (r : VRels K G m vals vs) : SRel K G m (startS N.length vals) (L2.start N vs) := by
  have l := Paired.length r
  refine ⟨by simp [startS, L2.start, l], fun i x e => ?_⟩
  unfold startS at e
  unfold L2.start
  by_cases hi : i < vals.length
  · rw [List.getElem?_append_left (by simpa using hi)] at e
    rw [List.getElem?_append_left (by simpa [← l] using hi)]
    simp only [List.getElem?_map, Option.map_eq_some_iff] at e ⊢
    obtain ⟨y, e1, e2⟩ := e
    cases e2
    obtain ⟨v, h1, h2⟩ := VRels.get r e1
    exact ⟨v, ⟨v, h1, rfl⟩, h2⟩
  · rw [List.getElem?_append_right (by simpa using hi)] at e
    rw [List.getElem?_replicate] at e
    split at e <;> cases e
end
/-- what a def's term asks of its callees, the builtins, the globals, the classes -/
structure Deps (P : Program) (w : World) (K : PySem.W.Frag) (mg : Str → Option Value) (base : Heap) (Γ : DL.Env) (C : CkI) : Prop where
  fns : ∀ i x n, C.fns[i]? = some (x, n) → ∃ k' f fd ps, k' ≤ C.lv ∧ FnOk P w K mg base (L2.CX P w) k' f fd ps (spOf K n (Γ.calls i)) ∧ MonoS (Γ.calls i) ∧ mg x = some (.ref f) ∧ PySem.W.keepIn K (.ref f) = true ∧ Binds K fd ps []
  kfns : ∀ (j : Nat) (x : Str) (f n : Nat) (ks : List Str) (pm : List Nat), C.kfn[j]? = some (x, f, n, ks, pm) → ∃ k' a fd ps, k' ≤ C.lv ∧ FnOk P w K mg base (L2.CX P w) k' a fd ps (spOf K (n + ks.length) (Γ.calls f)) ∧ MonoS (Γ.calls f) ∧ mg x = some (.ref a) ∧ PySem.W.keepIn K (.ref a) = true ∧ KB K fd ps n ks pm
  fvs : ∀ (x : Str) (f n : Nat), (x, f, n) ∈ C.fvs → ∃ k' fd ps, k' ≤ C.lv ∧ FnOk P w K mg base (L2.CX P w) k' (He.ga K x) fd ps (spOf K n (Γ.calls f)) ∧ MonoS (Γ.calls f) ∧ mg x = some (.ref (He.ga K x)) ∧ PySem.W.keepIn K (.ref (He.ga K x)) = true ∧ Binds K fd ps []
  free : ∀ x ∈ C.free, mg x = none
  globs : ∀ i x, C.globs[i]? = some x → ∃ u v, mg x = some u ∧ RelV v u ∧ ∀ G, Rp K G (Γ.globs i) v
  subs : ∀ c ∈ C.clss, SubOk K Γ.sub c ∧ mg c = some (.ref (He.ga K c))
  csub : ∀ y, Γ.sub y C.cexc = some true → PySem.W.exmOne K (.ref (He.ga K y)) (.ref (He.ga K C.cexc)) = some true
  excs : ∀ c ∈ C.excs, mg c = some (.ref (He.ga K c)) ∧ (He.Fa.exc c).ok K = true
  xfs : ∀ p ∈ C.xfs, 2 ≤ C.lv ∧ mg p.1 = some (.ref (He.ga K p.1)) ∧ PySem.W.subIn K (.ref (He.ga K p.1)) (.type "BaseException") = some true ∧ IniAt P K p.1 p.2
  flds : ∀ p ∈ C.flds, FldOk K p.1 p.2
/-- what a def's term does, its own table behind it -/
def rawD (Γ : DL.Env) (b : Ss) (n : Nat) : DSp := fun vs T Q X => wpSs Γ b { nx := fun _ T' => Q (.d .none) T', rt := Q, xc := X } (startS n vs) T
theorem def_ok {P : Program} {w : World} {K : PySem.W.Frag} {mg : Str → Option Value} {base : Heap} {k : Nat} {f : Addr} {fd : FuncData} {x qual : Str} {params : Arguments} {body : List Stmt} {scope : Scope} {dvs : List V} {kws : List (Str × V)} {N ps : List Str} {C : CkI} {Γ : DL.Env} {b : Ss} {dsp : DSp}
    (F : FunD K x qual params body scope dvs kws f fd) (S : FnScope N ps scope) (hN : C.N = N) (hn : C.names = scope.names) (hc : chkSs C b body = true) (D : Deps P w K mg base Γ C) (hlv : C.lv ≤ k) (hps : ps.length ≤ N.length)
    (hcatch : C.lam = true → ∀ (cdv : Value), (∃ oc od osl fd', K.lookup f = some ⟨oc, od, .func fd', osl⟩ ∧ fd'.code = cdv) → PySem.W.codeIn K cdv qual = true → ∀ A outer s H E, Room k (A.deeper (envOfC qual scope s.heap.objs.size f cdv)) → CatchOk (cxOf (L2.CX P w) P w K mg base N qual scope f cdv A outer s H E) C.lv C.cfun C.cexc)
    (h : MonoS (rawD Γ b N.length) → ∀ vs H Q E, spOf K ps.length dsp vs H Q E → spOf K ps.length (rawD Γ b N.length) vs H Q E) : FnOk P w K mg base (L2.CX P w) (k + 1) f fd ps (spOf K ps.length dsp) := by
  obtain ⟨oc, od, dV, kV, doc, pm, an, cdv, ct, osl, rfl, lk, hcd, _, _⟩ := F.ex
  refine fn_of lk hcd S (fun vs H Q E q => ?_) (fun A outer s H vs Q E hr q => ?_)
  · obtain ⟨G, m, T, vals, w, r, hl, q⟩ := q
    rw [← Paired.length r]; exact hl
  · have ck : Cok Γ C (cxOf (L2.CX P w) P w K mg base N qual scope f cdv A outer s H E) (fun cls d _ H => E cls d H) := {
      calm := rfl
      nd := S.nd
      hN := hN.symm
      names := hn.symm
      kind := S.kind
      cl := fun _ _ => rfl
      takes := L2.takes_of (X := cxOf (L2.CX P w) P w K mg base N qual scope f cdv A outer s H E) rfl rfl rfl rfl
      units := by have := hr.un; show (A.deeper _).units + 102 < cLine; omega
      fns := fun i x n e => by
        obtain ⟨k', f, fd, ps, h1, h2, h3, h4, h5, h6⟩ := D.fns i x n e
        exact ⟨k', f, fd, ps, h1, h2, h3, hr.mono (Nat.le_trans h1 hlv), h4, h5, h6⟩
      kfns := fun j x f n ks pm e => by
        obtain ⟨k', f, fd, ps, h1, h2, h3, h4, h5, h6⟩ := D.kfns j x f n ks pm e
        exact ⟨k', f, fd, ps, h1, h2, h3, hr.mono (Nat.le_trans h1 hlv), h4, h5, h6⟩
      fvs := fun x f n e => by
        obtain ⟨k', fd, ps, h1, h2, h3, h4, h5, h6⟩ := D.fvs x f n e
        exact ⟨k', fd, ps, h1, h2, h3, hr.mono (Nat.le_trans h1 hlv), h4, h5, h6⟩
      catch_ := fun z => hcatch z cdv ⟨oc, od, osl, _, lk, rfl⟩ hcd A outer s H E hr
      subs := D.subs
      csub := D.csub
      excs := fun c hc => ⟨(D.excs c hc).1, (D.excs c hc).2⟩
      xfs := fun p hp => ⟨(D.xfs p hp).1, (D.xfs p hp).2.1, (D.xfs p hp).2.2.1, (D.xfs p hp).2.2.2, hr.mono (Nat.le_trans (D.xfs p hp).1 hlv)⟩
      flds := D.flds
      free := D.free
      globs := D.globs }
    have ow := L2.passes_of (X := cxOf (L2.CX P w) P w K mg base N qual scope f cdv A outer s H E) (E₁ := fun e' s'' => L2.CX P w outer H s E e' s'') (K := fun e s'' => L2.CX P w outer H s E e s'') rfl
    have z := snd_Ss (Γ := Γ) b C _ _ body ck ow hc
    refine ⟨_, z.ps, ?_⟩
    have mono : MonoS (rawD Γ b N.length) := fun vs T Q Q' X X' hq hx q => z.mono.ap q ⟨fun sl T q => hq _ _ q, hq, fun _ _ q => q, fun _ _ q => q, hx⟩
    obtain ⟨G, m, T, vals, w, r, hl, q⟩ := h mono vs H Q E q
    refine ⟨G, m, startS N.length vals, T, start_rel (by rw [← Paired.length r, hl]; exact hps) r, w, z.mono.ap q ⟨?_, ?_, ?_, ?_, ?_⟩⟩
    · exact fun sl T' q G' H' m' σ' e w' s' => q G' H' m' .non e w' (by simp [VRel, Rp])
    · exact fun v T' q => q
    · exact fun sl T' q => q.elim
    · exact fun sl T' q => q.elim
    · exact fun x T' q G' H' m' c d σ' e w' rx => q G' H' m' c d e w' rx
/-- a promise follows from another one over the layer -/
theorem spOf_imp {K : PySem.W.Frag} {n : Nat} {dsp dsp' : DSp} (h : ∀ vs T Q X, dsp vs T Q X → dsp' vs T Q X) : ∀ vs H Q E, spOf K n dsp vs H Q E → spOf K n dsp' vs H Q E := by
  rintro vs H Q E ⟨G, m, T, vals, w, r, hl, q⟩
  exact ⟨G, m, T, vals, w, r, hl, h _ _ _ _ q⟩
/-- the table is cut at the end -/
theorem spOf_cut {K : PySem.W.Frag} {n : Nat} {dsp dsp' : DSp} (mono : MonoS dsp') (h : ∀ vs T Q X, dsp vs T Q X → dsp' vs T (cutW T.length Q) (cutX T.length X)) : ∀ vs H Q E, spOf K n dsp vs H Q E → spOf K n dsp' vs H Q E := by
  rintro vs H Q E ⟨G, m, T, vals, w, r, hl, q⟩
  have q := h vals T _ _ q
  have hTm := w.len
  refine ⟨G, m, T, vals, w, r, hl, mono _ _ _ _ _ _ (fun v T' q G' H' m' x e w' rv => ?_) (fun x T' q G' H' m' c d e w' rx => ?_) q⟩
  · obtain ⟨q1, q2, q3⟩ := q
    have lm : m'.take T.length = m'.take m.length := by rw [hTm]
    have flat : (∀ j, v ≠ .ob j) → (∀ G' H' m' x, Ext K G H m G' H' m' → WRel K G' H' m' (T'.take T.length) → VRel K G' m' v x → Q x H') → Q x H' := fun nj q => by
      have w2 := w'.cut q2
      rw [lm] at w2
      refine q G' H' (m'.take m.length) x e.cut w2 ?_
      cases v with
      | ob j => exact absurd rfl (nj j)
      | _ => exact rv
    cases v with
    | ob j =>
      simp only at q3
      obtain ⟨a, rr, hm, rfl⟩ := rv
      split at q3
      · rename_i hj
        have w2 := w'.cut q2
        rw [lm] at w2
        exact q3 G' H' (m'.take m.length) _ e.cut w2 ⟨a, rr, by rw [List.getElem?_take_of_lt (by rw [hTm]; exact hj)]; exact hm, rfl⟩
      · rename_i hj
        split at q3
        · rename_i o e0
          rw [getT_eq] at e0
          have w2 := w'.cut1 (n := T.length) q1 q2 (by omega) e0 hm q3.1
          rw [lm] at w2
          refine q3.2 G' H' _ _ (e.cut1 hm) w2 ⟨a, rr, ?_, rfl⟩
          have l2 : (m'.take m.length).length = T.length := by rw [List.length_take, w'.len, hTm]; omega
          rw [List.getElem?_append_right (by rw [l2]; exact Nat.le_refl _), l2]
          simp
        · exact q3.elim
    | d y => exact flat (fun j z => by cases z) q3
    | ty y => exact flat (fun j z => by cases z) q3
    | ex y => exact flat (fun j z => by cases z) q3
    | scr y => exact flat (fun j z => by cases z) q3
    | fn y => exact flat (fun j z => by cases z) q3
  · obtain ⟨q1, q2, q3⟩ := q
    have lm : m'.take T.length = m'.take m.length := by rw [hTm]
    have w2 := w'.cut q2
    rw [lm] at w2
    exact q3 G' H' (m'.take m.length) c d e.cut w2 rx
end DL
namespace DL
open PySem PySem.Spec PyProof.Rows L2
/-- the def that catches, from its own head facts -/
theorem catch_of {X : Cx} {lv : Nat} {cf a y n ce : Str} {pg : Arguments} {sg : Scope} {g c P : Addr} {fd : FuncData} {j : Nat} {q1 q2 q3 p1 p2 p3 np p4 p5 p6 pos pos' q4 q5 : Pos}
    (F : FunD X.K cf cf pg [.Assign [.Name y q1] (.Constant .none j q2) q3, .Try [.Expr (.Call (.Name a p1) [] [] p2) p3] [.ExceptHandler (some (.Name ce np)) (some n) [.Assign [.Name y p4] (.Name n p5) p6] pos'] [] [] pos, .Return (some (.Name y q4)) q5] sg [] [] g fd)
    (hm : X.mg cf = some (.ref g)) (hb : Binds X.K fd [a] []) (S : FnScope [a, y, n] [a] sg) (hge : sg.names.lookup ce = some .globalImplicit) (hme : X.mg ce = some (.ref (He.ga X.K ce))) (hde : (ce == ("__debug__" : Str)) = false)
    (la : sg.names.lookup a = some .local) (ly : sg.names.lookup y = some .local) (ln : sg.names.lookup n = some .local) (dn : (n == ("__debug__" : Str)) = false) (cn : (n == ("__classdict__" : Str)) = false) (dy : (y == ("__debug__" : Str)) = false) (cy : (y == ("__classdict__" : Str)) = false)
    (da : (a == ("__debug__" : Str)) = false) (ca : (a == ("__classdict__" : Str)) = false)
    (TB : LamX.TabB X.base X.mg c P) (hcode : X.env.code = .ref c) (hmT : (P, X.env.qual ++ "<lambda>") ∈ tbOf X.K) (hu : ∀ p ∈ tbOf X.K, p.1 = P → p.2 = X.env.qual ++ "<lambda>") (hr : Room (lv + 2) X.A) : CatchOk X lv cf ce := by
  refine ⟨hr, fun sub fe t params body scope p lpos pos2 hg hd L hdef hbind hbody => ?_⟩
  obtain ⟨oc, od, dV, kV, doc, pm, an, cdv, ct, osl, rfl, lk, hcd, _, _⟩ := F.ex
  exact LamX.pe_lamcall hg hm F.kp lk hcd hb S rfl (.inl la) (caught_gives S.nd hge hme hde la ly ln dn cn dy cy) TB hcode hmT hu hr L hdef hbind hbody hd da ca
end DL
namespace DL
open PySem PySem.Spec PyProof.Rows L2
/-! ### the law's state as one opaque object -/
def intL (l : List Int) : List Val := l.map fun i => .d (.int i)
def stD (cs : List Int) (r t : Int) : List (Key × Val) := [(.inr "great", .ob 1), (.inr "cells", .d (.list (cs.map .int))), (.inr "rest", .d (.int r)), (.inr "turn", .d (.int t))]
theorem rpl_ints {K : PySem.W.Frag} {G : Hp} : ∀ cs : List Int, RpL K G (cs.map .int) (cs.map V.int)
  | [] => by simp [RpL]
  | c :: cs => by simp only [List.map_cons, RpL]; exact ⟨_, _, rfl, by simp [Rp], rpl_ints cs⟩
theorem vals_ints_inv {K : PySem.W.Frag} {G : Hp} {m : Fp} : ∀ {gs : List Int} {vs : List V}, VRels K G m (intL gs) vs → vs = gs.map V.int
  | [], _, .nil => rfl
  | g :: gs, _, .cons r t => by
    simp [VRel, Rp] at r
    subst r
    rw [vals_ints_inv (gs := gs) t]
    rfl
section
variable {K : PySem.W.Frag} {G H : Hp} {T : Tab}
/-- inside -/
theorem law_in {fp : List Addr} {n : Nat} (w : WRel K G H [fp] [.law n]) : ∃ (a b : Addr) (gs cs : List Int) (r t : Int), fp = [a, b] ∧ cs.length ≤ 63 ∧ 0 ≤ t ∧ t + n ≤ 1000000000000 ∧ WRel K G H [[a], [b]] [.dic (stD cs r t), .lst (intL gs)] := by
  obtain ⟨fp', hm, a, b, hf, ga, gb, gs, cs, c, r, t, h1, h2, h3, h4, h5, h6⟩ := w.ob 0 (.law n) rfl
  cases hm
  subst hf
  have nd := w.nd
  refine ⟨a, b, gs, cs, r, t, rfl, h4, h5, h6, ?_⟩
  exact {
    sub := w.sub
    len := rfl
    nd := by simpa using nd
    al := fun x hx => w.al x (by simpa using hx)
    ob := fun k o e => by
      match k, e with
      | 0, e =>
        cases e
        refine ⟨[a], rfl, a, _, rfl, ga, h1, ?_⟩
        refine .cons ⟨rfl, b, [], rfl, rfl⟩ (.cons ⟨rfl, ?_⟩ (.cons ⟨rfl, by simp [VRel, Rp]⟩ (.cons ⟨rfl, by simp [VRel, Rp]⟩ .nil)))
        simp only [VRel, Rp]
        exact ⟨c, _, rfl, h3, rpl_ints cs⟩
      | 1, e =>
        cases e
        exact ⟨[b], rfl, b, _, rfl, gb, h2, scr_rel gs⟩
      | k + 2, e => simp at e
    dat := w.dat
    tb := w.tb }
/-- and out again -/
theorem law_out {a b : Addr} {gs cs : List Int} {r t : Int} {n : Nat} (hc : cs.length ≤ 63) (h0 : 0 ≤ t) (hn : t + n ≤ 1000000000000) (w : WRel K G H [[a], [b]] [.dic (stD cs r t), .lst (intL gs)]) : WRel K G H [[a, b]] [.law n] := by
  obtain ⟨f1, m1, a', ks, e1, ga, h1, v1⟩ := w.ob 0 _ rfl
  cases m1
  cases e1
  obtain ⟨f2, m2, b', vs, e2, gb, h2, v2⟩ := w.ob 1 _ rfl
  cases m2
  cases e2
  have nd := w.nd
  exact {
    sub := w.sub
    len := rfl
    nd := by simpa using nd
    al := fun x hx => w.al x (by simpa using hx)
    ob := fun k o e => by
      match k, e with
      | 0, e =>
        cases e
        have ev := vals_ints_inv v2
        subst ev
        refine ⟨[a, b], rfl, a, b, rfl, ga, gb, gs, cs, ?_⟩
        unfold stD at v1
        cases v1 with
        | cons q1 v1 =>
          cases v1 with
          | cons q2 v1 =>
            cases v1 with
            | cons q3 v1 =>
              cases v1 with
              | cons q4 v1 =>
                cases v1
                rename_i p1 p2 p3 p4
                obtain ⟨k1, x1⟩ := p1
                obtain ⟨k2, x2⟩ := p2
                obtain ⟨k3, x3⟩ := p3
                obtain ⟨k4, x4⟩ := p4
                obtain ⟨z1, y1⟩ := q1
                obtain ⟨z2, y2⟩ := q2
                obtain ⟨z3, y3⟩ := q3
                obtain ⟨z4, y4⟩ := q4
                simp only at z1 z2 z3 z4
                subst z1 z2 z3 z4
                obtain ⟨p, rr, e5, e6⟩ := y1
                simp at e5
                obtain ⟨rfl, rfl⟩ := e5
                simp only at e6
                subst e6
                simp only [VRel, Rp] at y2 y3 y4
                obtain ⟨c, us, rfl, e7, e8⟩ := y2
                subst y3 y4
                have eu : us = cs.map V.int := by
                  have go : ∀ (cs : List Int) (us : List V), RpL K G (cs.map .int) us → us = cs.map V.int := by
                    intro cs
                    induction cs with
                    | nil => intro us h; simpa [RpL] using h
                    | cons i cs ih =>
                      intro us h
                      simp only [List.map_cons, RpL, Rp] at h
                      obtain ⟨v, s, rfl, rfl, h⟩ := h
                      rw [ih s h]
                      rfl
                  exact go cs us e8
                subst eu
                exact ⟨c, r, t, h1, h2, e7, hc, h0, hn⟩
      | k + 1, e => simp at e
    dat := w.dat
    tb := w.tb }
theorem Ext.regroup {G' H' : Hp} {m m' n n' : Fp} (hm : ∀ a, a ∈ n.flatten ↔ a ∈ m.flatten) (hm' : ∀ a, a ∈ n'.flatten ↔ a ∈ m'.flatten) (hs : MSub n n') (e : Ext K G H m G' H' m') : Ext K G H n G' H' n' where
  sub := e.sub
  ms := hs
  keep := fun a o h g => e.keep a o h (fun z => g ((hm a).mpr z))
  stay := e.stay
  keepG := fun a h g => e.keepG a h (fun z => g ((hm a).mpr z))
  new := fun a h g => e.new a ((hm' a).mp h) (fun z => g ((hm a).mpr z))
  tabs := e.tabs
end
end DL
namespace DL
open PySem PySem.Spec PyProof.Rows L2
def tm_law_begun : Ss := 
 (.cons (.set (.nm 1) (.comp [2] (.bin .Sub (.bi .abs (.cons (.var 2) .nil)) (.bin .Pow (.cst (.int 10)) (.cst (.int 18)))) (.nm 2) (.seq (.var 0)) (.some (.cmp .GtE (.bi .abs (.cons (.var 2) .nil)) (.bin .Pow (.cst (.int 10)) (.cst (.int 18))))) true))
 (.cons (.ret (.dicO ["great", "cells", "rest", "turn"] (.cons (.var 1) (.cons (.comp [2] (.bi .abs (.cons (.var 2) .nil)) (.nm 2) (.seq (.var 0)) .none false) (.cons (.cst (.int 0)) (.cons (.cst (.int 0)) .nil)))))) .nil))
def tm_law_mixed : Ss := 
 (.cons (.par [1, 2] (.cons (.bin .Add (.dgt (.var 0) (.cst (.str "turn"))) (.cst (.int 1))) (.cons (.cst (.int 0)) .nil)))
 (.cons (.dput (.var 0) (.cst (.str "turn")) (.var 1))
 (.cons (.loop (.nm 3) (.seq (.lst (.cons (.cst (.int 2147483629)) (.cons (.cst (.int 2147483647)) (.cons (.cst (.int 2147483563)) (.cons (.cst (.int 2147483587)) .nil)))))) 
  (.cons (.set (.nm 4) (.bin .Add (.bin .Mult (.cst (.int 69621)) (.var 1)) (.bin .FloorDiv (.var 3) (.cst (.int 41)))))
  (.cons (.loop (.nm 5) (.seq (.dgt (.var 0) (.cst (.str "cells")))) 
   (.cons (.set (.nm 4) (.bin .Mod (.bi .int (.cons (.bin .Add (.bin .Add (.bin .Mult (.var 4) (.cst (.int 48271))) (.var 5)) (.var 1)) .nil)) (.var 3))) .nil))
  (.cons (.set (.nm 2) (.bin .Add (.bin .Mult (.var 2) (.cst (.int 2147483659))) (.bin .Mod (.bi .int (.cons (.bin .Pow (.var 4) (.cst (.int 5))) .nil)) (.var 3)))) .nil))))
 (.cons (.ret (.var 2)) .nil))))
def tm_law_draw : Ss := 
 (.cons (.ite (.cmp .Eq (.dgt (.var 0) (.cst (.str "rest"))) (.cst (.int 0))) 
  (.cons (.dput (.var 0) (.cst (.str "rest")) (.ife (.cmp .NotEq (.dgt (.var 0) (.cst (.str "great"))) (.lst .nil)) (.mt .popAt (.dgt (.var 0) (.cst (.str "great"))) (.cons (.cst (.int 0)) .nil)) (.call 0 (.cons (.var 0) .nil)))) .nil) .nil)
 (.cons (.set (.nm 2) (.bin .Mod (.bi .int (.cons (.dgt (.var 0) (.cst (.str "rest"))) .nil)) (.var 1)))
 (.cons (.dput (.var 0) (.cst (.str "rest")) (.bin .FloorDiv (.dgt (.var 0) (.cst (.str "rest"))) (.var 1)))
 (.cons (.ret (.var 2)) .nil))))
def tm_law_pick : Ss := 
 (.cons (.ret (.idx (.var 1) (.call 0 (.cons (.var 0) (.cons (.bi .len (.cons (.var 1) .nil)) .nil))))) .nil)
/-! ### _law_mixed -/
def inStep (Γ : DL.Env) (x : Val) : DS := fun D sl T => patW (.nm 5) x sl T fun sl1 => wpSs Γ (.cons (.set (.nm 4) (.bin .Mod (.bi .int (.cons (.bin .Add (.bin .Add (.bin .Mult (.var 4) (.cst (.int 48271))) (.var 5)) (.var 1)) .nil)) (.var 3))) .nil) D sl1 T
theorem in_loop {Γ : DL.Env} {st : Option Val} {tu fo p : Int} {T : Tab} {D : DEnds} (hp : 0 < p) (hp2 : p < 2 ^ 64) : ∀ (xs : List Int) (bl : Int) (c5 : Option Val), 0 ≤ bl → bl < 2 ^ 64 →
    (∀ (bl' : Int) (c5' : Option Val), 0 ≤ bl' → bl' < 2 ^ 64 → D.nx [st, some (.d (.int tu)), some (.d (.int fo)), some (.d (.int p)), some (.d (.int bl')), c5'] T) →
    loopW none (inStep Γ) (dv (xs.map .int)) D [st, some (.d (.int tu)), some (.d (.int fo)), some (.d (.int p)), some (.d (.int bl)), c5] T
  | [], bl, c5, h0, h1, h => ⟨True.intro, h bl c5 h0 h1⟩
  | x :: xs, bl, c5, h0, h1, h => by
    refine ⟨True.intro, ?_⟩
    simp only [inStep, patW, wpSs, wpS, wpE, wpEs, getS, setS, on2, asD, binD, addD, mulD, modD, biW]
    refine ⟨.inr ⟨by omega, by omega⟩, by omega, ?_⟩
    exact in_loop hp hp2 xs _ _ (Int.fmod_nonneg_of_pos _ hp) (by have := Int.fmod_lt_of_pos (bl * 48271 + x + tu) hp; omega) h
theorem kv_great (cs : List Int) (r t : Int) : kvG (stD cs r t) (.inr "great") = some (.ob 1) := rfl
theorem kv_cells (cs : List Int) (r t : Int) : kvG (stD cs r t) (.inr "cells") = some (.d (.list (cs.map .int))) := by kernel_rfl
theorem kv_rest (cs : List Int) (r t : Int) : kvG (stD cs r t) (.inr "rest") = some (.d (.int r)) := by kernel_rfl
theorem kv_turn (cs : List Int) (r t : Int) : kvG (stD cs r t) (.inr "turn") = some (.d (.int t)) := by kernel_rfl
theorem kp_turn (cs : List Int) (r t u : Int) : kvP (stD cs r t) (.inr "turn") (.d (.int u)) = stD cs r u := by kernel_rfl
theorem kp_rest (cs : List Int) (r t u : Int) : kvP (stD cs r t) (.inr "rest") (.d (.int u)) = stD cs u t := by kernel_rfl
def outB : Ss := (.cons (.set (.nm 4) (.bin .Add (.bin .Mult (.cst (.int 69621)) (.var 1)) (.bin .FloorDiv (.var 3) (.cst (.int 41)))))
  (.cons (.loop (.nm 5) (.seq (.dgt (.var 0) (.cst (.str "cells")))) 
   (.cons (.set (.nm 4) (.bin .Mod (.bi .int (.cons (.bin .Add (.bin .Add (.bin .Mult (.var 4) (.cst (.int 48271))) (.var 5)) (.var 1)) .nil)) (.var 3))) .nil))
  (.cons (.set (.nm 2) (.bin .Add (.bin .Mult (.var 2) (.cst (.int 2147483659))) (.bin .Mod (.bi .int (.cons (.bin .Pow (.var 4) (.cst (.int 5))) .nil)) (.var 3)))) .nil)))
def stT (cs gs : List Int) (r t : Int) : Tab := [.dic (stD cs r t), .lst (intL gs)]
theorem out_loop {Γ : DL.Env} {cs gs : List Int} {r t tu : Int} {D : DEnds} (h0 : 0 ≤ tu) (h1 : tu ≤ 1000000000000) : ∀ (ps : List Int) (fo : Int) (c3 c4 c5 : Option Val), (∀ p ∈ ps, 41 ≤ p ∧ p < 2147483648) →
    (∀ (fo' : Int) (c3' c4' c5' : Option Val), D.nx [some (.ob 0), some (.d (.int tu)), some (.d (.int fo')), c3', c4', c5'] (stT cs gs r t)) →
    loopW none (fun x D sl T => patW (.nm 3) x sl T fun sl1 => wpSs Γ outB D sl1 T) (dv (ps.map .int)) D [some (.ob 0), some (.d (.int tu)), some (.d (.int fo)), c3, c4, c5] (stT cs gs r t)
  | [], fo, c3, c4, c5, hp, h => ⟨True.intro, h fo c3 c4 c5⟩
  | p :: ps, fo, c3, c4, c5, hp, h => by
    obtain ⟨p0, p1⟩ := hp p (by simp)
    refine ⟨True.intro, ?_⟩
    have fd : p.fdiv 41 = p / 41 := Int.fdiv_eq_ediv_of_nonneg p (by decide)
    simp only [outB, patW, wpSs, wpS, wpE, wpEs, wpI, getS, setS, on2, asD, binD, addD, mulD, fdivD, dicAt, getT, keyV, stT, kv_cells, itemsW]
    refine ⟨.inl ⟨by omega, by omega⟩, ⟨by omega, by omega⟩, ?_⟩
    rw [fd]
    refine in_loop (Γ := Γ) (by omega) (by omega) cs _ _ (by omega) (by omega) fun bl' c5' b0 b1 => ?_
    simp only [getS, on2, asD, binD, addD, mulD, modD, powD, biW, setS]
    refine ⟨.inr ⟨by omega, by omega⟩, ⟨by omega, by omega, by omega⟩, by omega, ?_⟩
    exact out_loop (Γ := Γ) h0 h1 ps _ _ _ _ (fun q hq => hp q (by simp [hq])) h
theorem raw_mixed {Γ : DL.Env} {cs gs : List Int} {r t : Int} (h0 : 0 ≤ t) (h1 : t < 1000000000000) {Q : VC} {X : XC} (h : ∀ v : Int, Q (.d (.int v)) (stT cs gs r (t + 1))) : rawD Γ tm_law_mixed 6 [.ob 0] (stT cs gs r t) Q X := by
  unfold rawD tm_law_mixed
  simp only [startS, List.map_cons, List.map_nil, List.length_cons, List.length_nil, List.replicate, List.cons_append, List.nil_append, wpSs, wpS, wpE, wpEs, getS, setS, stT, dicAt, getT, keyV, kv_turn, on2, asD, binD, addD, parW, setT, kp_turn, wpI]
  refine ⟨by show 4 < sizeLine; rw [sizeLine_eq]; omega, ?_⟩
  simp only [dats, itemsW]
  refine ⟨by decide, ?_⟩
  refine out_loop (Γ := Γ) (cs := cs) (gs := gs) (r := r) (t := t + 1) (by omega) (by omega) [2147483629, 2147483647, 2147483563, 2147483587] 0 none none none (by decide) fun fo' c3 c4 c5 => ?_
  simp only [getS]
  exact h fo'
end DL
namespace DL
open PySem PySem.Spec PyProof.Rows L2
def dspMx : DSp := fun vs T Q _ => ∃ (cs gs : List Int) (r t : Int), vs = [.ob 0] ∧ T = stT cs gs r t ∧ 0 ≤ t ∧ t < 1000000000000 ∧ ∀ v : Int, Q (.d (.int v)) (stT cs gs r (t + 1))
theorem dspMx_mono : MonoS dspMx := by
  rintro vs T Q Q' X X' hq hx ⟨cs, gs, r, t, h1, h2, h3, h4, h5⟩
  exact ⟨cs, gs, r, t, h1, h2, h3, h4, fun v => hq _ _ (h5 v)⟩
theorem dats_ints : ∀ gs : List Int, dats (intL gs) = some (gs.map .int)
  | [] => rfl
  | g :: gs => by
    show (dats (intL gs)).map (fun l => PyData.int g :: l) = _
    rw [dats_ints gs]
    rfl
theorem plain_ints : ∀ gs : List Int, plainA (gs.map .int) = true
  | [] => rfl
  | g :: gs => by simp [plainA, plainD, plain_ints gs]
theorem fmod_in {a b : Int} (h : 0 < b) : 0 ≤ a.fmod b ∧ a.fmod b < b := ⟨Int.fmod_nonneg_of_pos _ h, Int.fmod_lt_of_pos _ h⟩
def dIte : S := (.ite (.cmp .Eq (.dgt (.var 0) (.cst (.str "rest"))) (.cst (.int 0))) 
  (.cons (.dput (.var 0) (.cst (.str "rest")) (.ife (.cmp .NotEq (.dgt (.var 0) (.cst (.str "great"))) (.lst .nil)) (.mt .popAt (.dgt (.var 0) (.cst (.str "great"))) (.cons (.cst (.int 0)) .nil)) (.call 0 (.cons (.var 0) .nil)))) .nil) .nil)
theorem eq_int {i j : Int} {k : Val → Prop} (h : k (.d (.bool (i == j)))) : cmpD .Eq (.int i) (.int j) k := ⟨.inl ⟨rfl, rfl, by simp [PyData.depth]⟩, h⟩
theorem depth_ints : ∀ gs : List Int, PyData.depthAll (gs.map .int) ≤ 1
  | [] => by simp [PyData.depthAll]
  | g :: gs => by
    have := depth_ints gs
    simp only [List.map_cons, PyData.depthAll, PyData.depth]
    omega
theorem draw_ite {Γ : DL.Env} (hΓ : Γ.calls 0 = dspMx) {cs gs : List Int} {r t room : Int} {c : Option Val} (h0 : 0 ≤ t) (h1 : t < 1000000000000) {D : DEnds}
    (h : ∀ (gs' : List Int) (r' t' : Int), 0 ≤ t' → t' ≤ t + 1 → D.nx [some (.ob 0), some (.d (.int room)), c] (stT cs gs' r' t')) : wpS Γ dIte D [some (.ob 0), some (.d (.int room)), c] (stT cs gs r t) := by
  simp only [dIte, wpSs, wpS, wpE, getS, stT, dicAt, getT, keyV, kv_rest, on2, asD, cmpW]
  refine eq_int ?_
  simp only [truW]
  cases e : r == 0 with
  | false =>
    rw [if_neg Bool.false_ne_true]
    exact h gs r t h0 (by omega)
  | true =>
    rw [if_pos rfl]
    simp only [kv_great, wpEs, dats, asD, List.getElem?_cons_succ, List.getElem?_cons_zero, dats_ints, Option.map_some]
    refine ⟨by show 0 ≤ sizeLine; omega, ⟨⟨plain_ints gs, rfl, ?_⟩, ?_⟩⟩
    · have := depth_ints gs
      simp only [PyData.depth, PyData.depthAll]
      omega
    · cases gs with
      | nil =>
        simp only [List.map_nil, PyData.eqv, PyData.eqvAll, Bool.not_true]
        rw [if_neg Bool.false_ne_true]
        refine .inr ?_
        rw [hΓ]
        refine ⟨cs, [], r, t, rfl, rfl, h0, h1, fun v => ?_⟩
        simp only [stT, getT, setT, kp_rest]
        exact ⟨by show 4 < sizeLine; rw [sizeLine_eq]; omega, h [] v (t + 1) (by omega) (by omega)⟩
      | cons g gs =>
        simp only [List.map_cons, PyData.eqv, PyData.eqvAll, Bool.not_false]
        rw [if_pos trivial]
        simp only [getT, kv_great, wpE]
        refine ⟨rfl, ?_⟩
        simp only [mtW, obLst, getT, arg1, intV, popW, intL, List.map_cons]
        have e0 : seqIndex? 0 ((Val.d (PyData.int g) :: gs.map fun i => Val.d (PyData.int i)).length) = some 0 := by
          unfold seqIndex?
          simp
        rw [e0]
        simp only [List.getElem?_cons_zero, List.eraseIdx_zero, List.tail_cons, setT, getT, kp_rest]
        exact ⟨⟨by decide, by decide⟩, by show 4 < sizeLine; rw [sizeLine_eq]; omega, h gs g t h0 (by omega)⟩
theorem raw_draw {Γ : DL.Env} (hΓ : Γ.calls 0 = dspMx) {cs gs : List Int} {r t room : Int} (h0 : 0 ≤ t) (h1 : t < 1000000000000) (r0 : 0 < room) (r1 : room < 1073741824) {Q : VC} {X : XC}
    (h : ∀ (v : Int) (gs' : List Int) (r' t' : Int), 0 ≤ v → v < room → 0 ≤ t' → t' ≤ t + 1 → Q (.d (.int v)) (stT cs gs' r' t')) : rawD Γ tm_law_draw 3 [.ob 0, .d (.int room)] (stT cs gs r t) Q X := by
  -- the end, from any state
  have fin : ∀ (gs' : List Int) (r' t' : Int), 0 ≤ t' → t' ≤ t + 1 → wpSs Γ (.cons (.set (.nm 2) (.bin .Mod (.bi .int (.cons (.dgt (.var 0) (.cst (.str "rest"))) .nil)) (.var 1)))
      (.cons (.dput (.var 0) (.cst (.str "rest")) (.bin .FloorDiv (.dgt (.var 0) (.cst (.str "rest"))) (.var 1)))
      (.cons (.ret (.var 2)) .nil))) { nx := fun _ T' => Q (.d .none) T', rt := Q, xc := X } [some (.ob 0), some (.d (.int room)), none] (stT cs gs' r' t') := by
    intro gs' r' t' a b
    simp only [wpSs, wpS, wpE, wpEs, getS, setS, stT, dicAt, getT, keyV, kv_rest, kp_rest, on2, asD, binD, modD, fdivD, biW, patW, setT]
    obtain ⟨m1, m2⟩ := fmod_in (a := r') r0
    refine ⟨by omega, ⟨by omega, by omega⟩, by show 4 < sizeLine; rw [sizeLine_eq]; omega, ?_⟩
    exact h _ gs' _ t' m1 m2 a b
  exact draw_ite (c := none) (D := { nx := fun sl T => wpSs Γ _ { nx := fun _ T' => Q (.d .none) T', rt := Q, xc := X } sl T, rt := Q, xc := X }) hΓ h0 h1 fun gs' r' t' a b => fin gs' r' t' a b
end DL
namespace DL
open PySem PySem.Spec PyProof.Rows L2
/-! ### comprehensions that only read -/
theorem compW_map {step : Val → Tab → (Option Val → Tab → Prop) → Prop} {T : Tab} {f : Val → Option Val} {k : List Val → Tab → Prop} : ∀ (items acc : List Val), (∀ x ∈ items, ∀ k' : Option Val → Tab → Prop, k' (f x) T → step x T k') → acc.length + items.length ≤ sizeLine →
    k (acc ++ items.filterMap f) T → compW none step items acc T k
  | [], acc, _, _, h => ⟨True.intro, by simpa using h⟩
  | x :: r, acc, hs, hl, h => by
    refine ⟨True.intro, hs x (by simp) _ ?_⟩
    simp only [List.length_cons] at hl
    cases e : f x with
    | none =>
      simp only
      refine compW_map r acc (fun y hy => hs y (by simp [hy])) (by omega) ?_
      rw [List.filterMap_cons_none e] at h
      exact h
    | some v =>
      simp only
      refine ⟨by omega, compW_map r (acc ++ [v]) (fun y hy => hs y (by simp [hy])) (by simp; omega) ?_⟩
      rw [List.filterMap_cons_some e] at h
      simpa using h
def absI (i : Int) : Int := if i < 0 then -i else i
def greatF : Val → Option Val
  | .d (.int c) => if absI c ≥ 1000000000000000000 then some (.d (.int (absI c - 1000000000000000000))) else none
  | _ => none
def greats (ns : List Int) : List Int := ns.filterMap fun c => if absI c ≥ 1000000000000000000 then some (absI c - 1000000000000000000) else none
theorem greats_eq : ∀ ns : List Int, (ns.map fun i => Val.d (.int i)).filterMap greatF = intL (greats ns)
  | [] => rfl
  | n :: ns => by
    have ih := greats_eq ns
    simp only [List.map_cons]
    by_cases h : absI n ≥ 1000000000000000000
    · rw [List.filterMap_cons_some (b := Val.d (.int (absI n - 1000000000000000000))) (by simp only [greatF]; rw [if_pos h]), ih]
      unfold greats
      rw [List.filterMap_cons_some (b := absI n - 1000000000000000000) (by rw [if_pos h])]
      rfl
    · rw [List.filterMap_cons_none (by simp only [greatF]; rw [if_neg h]), ih]
      unfold greats
      rw [List.filterMap_cons_none (by rw [if_neg h])]
def absF : Val → Option Val
  | .d (.int c) => some (.d (.int (absI c)))
  | _ => none
theorem abs_eq : ∀ ns : List Int, (ns.map fun i => Val.d (.int i)).filterMap absF = intL (ns.map absI)
  | [] => rfl
  | n :: ns => by
    simp only [List.map_cons]
    rw [List.filterMap_cons_some (f := absF) (a := Val.d (.int n)) (b := Val.d (.int (absI n))) rfl, abs_eq ns]
    rfl
def stE (cs : List Int) (r t : Int) : List (Key × Val) := [(.inr "great", .ob 0), (.inr "cells", .d (.list (cs.map .int))), (.inr "rest", .d (.int r)), (.inr "turn", .d (.int t))]
theorem p18 : (10 : Int) ^ (18 : Int).toNat = 1000000000000000000 := by decide
theorem raw_begun {Γ : DL.Env} {ns : List Int} (hn : ns.length ≤ 63) {Q : VC} {X : XC} (h : ∀ gs : List Int, Q (.ob 1) [.lst (intL gs), .dic (stE (ns.map absI) 0 0)]) : rawD Γ tm_law_begun 3 [.scr ns] [] Q X := by
  unfold rawD tm_law_begun
  have b : (ns.map fun i => Val.d (.int i)).length ≤ 63 := by simpa using hn
  simp only [startS, List.map_cons, List.map_nil, List.length_cons, List.length_nil, List.replicate, List.cons_append, List.nil_append, wpSs, wpS, comp_eq, compF, wpI, wpE, getS, itemsW]
  refine compW_map (f := greatF) _ [] (fun x hx k' hk => ?_) (by rw [sizeLine_eq]; simp only [List.length_nil]; omega) ?_
  · obtain ⟨c, hc, rfl⟩ := List.mem_map.mp hx
    simp only [stepF, stepF2, optF, patW, wipeS, setS, wpE, wpEs, getS, biW, on2, asD, cmpW, cmpD, binD, subD, powD, ordD, truW, p18]
    simp only [greatF] at hk
    refine ⟨⟨by decide, by decide, by decide⟩, ?_⟩
    simp only [cmpW, cmpD, on2, asD, ordD, p18]
    have ea : (if c < 0 then -c else c) = absI c := rfl
    rw [ea]
    by_cases hb : absI c ≥ 1000000000000000000
    · rw [if_pos hb] at hk
      rw [if_pos (decide_eq_true hb)]
      exact ⟨⟨by decide, by decide, by decide⟩, hk⟩
    · rw [if_neg hb] at hk
      rw [if_neg (by simpa using hb)]
      exact hk
  · rw [greats_eq]
    simp only [List.nil_append, patW, setS, wpEs, wpE, getS, comp_eq, compF, wpI, itemsW]
    refine compW_map (f := absF) _ [] (fun x hx k' hk => ?_) (by rw [sizeLine_eq]; simp only [List.length_nil]; omega) ?_
    · obtain ⟨c, hc, rfl⟩ := List.mem_map.mp hx
      simp only [stepF, stepF2, optF, patW, wipeS, setS, wpE, wpEs, getS, biW]
      exact hk
    · rw [abs_eq]
      simp only [List.nil_append, finF, dats_ints, zipK, List.length_cons, List.length_nil, List.cons_append]
      exact h (greats ns)
end DL
namespace DL
open PySem PySem.Spec PyProof.Rows L2
/-! ### the promises of the law's state -/
def dspB : DSp := fun vs T Q _ => ∃ ns : List Int, vs = [.scr ns] ∧ T = [] ∧ ns.length ≤ 63 ∧ Q (.ob 0) [.law 1000000000000]
def dspD : DSp := fun vs T Q _ => ∃ (n : Nat) (room : Int), vs = [.ob 0, .d (.int room)] ∧ T = [.law (n + 1)] ∧ 0 < room ∧ room < 1073741824 ∧ ∀ v : Int, 0 ≤ v → v < room → Q (.d (.int v)) [.law n]
theorem dspB_mono : MonoS dspB := by
  rintro vs T Q Q' X X' hq hx ⟨ns, h1, h2, h3, h4⟩
  exact ⟨ns, h1, h2, h3, hq _ _ h4⟩
theorem dspD_mono : MonoS dspD := by
  rintro vs T Q Q' X X' hq hx ⟨n, room, h1, h2, h3, h4, h5⟩
  exact ⟨n, room, h1, h2, h3, h4, fun v a b => hq _ _ (h5 v a b)⟩
section
variable {K : PySem.W.Frag}
theorem wrapM {Γ : DL.Env} : ∀ vs H Q E, spOf K 1 dspMx vs H Q E → spOf K 1 (rawD Γ tm_law_mixed 6) vs H Q E :=
  spOf_imp fun vs T Q X ⟨cs, gs, r, t, h1, h2, h3, h4, h5⟩ => by subst h1 h2; exact raw_mixed h3 h4 h5
theorem wrapD {Γ : DL.Env} (hΓ : Γ.calls 0 = dspMx) : ∀ vs H Q E, spOf K 2 dspD vs H Q E → spOf K 2 (rawD Γ tm_law_draw 3) vs H Q E := by
  rintro vs H Q E ⟨G, m, T, vals, w, r, hl, n, room, rfl, rfl, r0, r1, q⟩
  have lm := w.len
  match m, lm with
  | [fp], _ =>
    obtain ⟨a, b, gs, cs, rr, t, rfl, hc, t0, t1, w'⟩ := law_in w
    refine ⟨G, [[a], [b]], stT cs gs rr t, [.ob 0, .d (.int room)], w', ?_, rfl, raw_draw hΓ t0 (by omega) r0 r1 fun v gs' r' t' a0 a1 b0 b1 G' H' m' x e wx rx => ?_⟩
    · cases r with
      | cons p1 p2 =>
        refine .cons ?_ (closs_rel (n := 0) (by omega) (by rfl) p2)
        obtain ⟨a', s, e1, e2⟩ := p1
        simp at e1
        obtain ⟨rfl, _⟩ := e1
        exact ⟨a, [], rfl, e2⟩
    · have l2 := wx.len
      obtain ⟨ex, rfl⟩ := e.ms
      have ex0 : ex = [] := by
        cases ex with
        | nil => rfl
        | cons _ _ => simp [stT] at l2
      subst ex0
      have w3 := law_out (n := n) hc b0 (by omega) wx
      refine q v a0 a1 G' H' [[a, b]] x (Ext.regroup (m := [[a], [b]]) (m' := [[a], [b]]) (by simp) (by simp) (MSub.refl _) e) w3 ?_
      exact rx
theorem law_outB {G H : Hp} {a b : Addr} {gs cs : List Int} {r t : Int} {n : Nat} (hc : cs.length ≤ 63) (h0 : 0 ≤ t) (hn : t + n ≤ 1000000000000) (w : WRel K G H [[b], [a]] [.lst (intL gs), .dic (stE cs r t)]) : WRel K G H [[a], [b]] [.dic (stD cs r t), .lst (intL gs)] := by
  obtain ⟨f1, m1, b', vs, e1, gb, h1, v1⟩ := w.ob 0 _ rfl
  cases m1
  cases e1
  obtain ⟨f2, m2, a', ks, e2, ga, h2, v2⟩ := w.ob 1 _ rfl
  cases m2
  cases e2
  have nd := w.nd
  exact {
    sub := w.sub
    len := rfl
    nd := by
      simp at nd ⊢
      exact fun z => nd z.symm
    al := fun x hx => w.al x (by
      simp at hx ⊢
      exact hx.symm)
    ob := fun k o e => by
      match k, e with
      | 0, e =>
        cases e
        refine ⟨[a], rfl, a, ks, rfl, ga, h2, ?_⟩
        unfold stE at v2
        unfold stD
        cases v2 with
        | cons q1 v2 =>
          refine .cons ⟨q1.1, ?_⟩ (closk_rel (n := 0) (by omega) (by rfl) v2)
          obtain ⟨p, s, e5, e6⟩ := q1.2
          simp at e5
          obtain ⟨rfl, _⟩ := e5
          exact ⟨b, [], rfl, e6⟩
      | 1, e =>
        cases e
        exact ⟨[b], rfl, b, vs, rfl, gb, h1, by rw [vals_ints_inv v1]; exact scr_rel gs⟩
      | k + 2, e => simp at e
    dat := w.dat
    tb := w.tb }
theorem wrapB {Γ : DL.Env} : ∀ vs H Q E, spOf K 1 dspB vs H Q E → spOf K 1 (rawD Γ tm_law_begun 3) vs H Q E := by
  rintro vs H Q E ⟨G, m, T, vals, w, r, hl, ns, rfl, rfl, hn, q⟩
  have lm := w.len
  match m, lm with
  | [], _ =>
    refine ⟨G, [], [], [.scr ns], w, r, rfl, raw_begun hn fun gs G' H' m' x e wx rx => ?_⟩
    have l2 := wx.len
    match m', l2 with
    | [f1, f2], _ =>
      obtain ⟨f1', m1, b, _, e1, _⟩ := wx.ob 0 _ rfl
      cases m1
      obtain ⟨f2', m2, a, _, e2, _⟩ := wx.ob 1 _ rfl
      cases m2
      subst e1 e2
      have w2 := law_out (n := 1000000000000) (by simpa using hn) (by omega) (by omega) (law_outB (n := 1000000000000) (by simpa using hn) (by omega) (by omega) wx)
      refine q G' H' [[a, b]] x (Ext.regroup (m := []) (m' := [[b], [a]]) (by simp) (by simp [or_comm]) ⟨[[a, b]], rfl⟩ e) w2 ?_
      obtain ⟨p, s, e5, e6⟩ := rx
      simp at e5
      obtain ⟨rfl, _⟩ := e5
      exact ⟨a, [b], rfl, e6⟩
end
end DL
namespace DL
open PySem PySem.Spec PyProof.Rows L2
/-! ### promises of two common kinds, and calls of such defs -/
/-- data to data -/
def detD (f : List PyData → Option PyData) : DSp := fun vs T Q _ => ∃ ds r, vs = dv ds ∧ T = [] ∧ f ds = some r ∧ Q (.d r) []
/-- the law's state first; c draws at most -/
def drawD (c : Nat) (pre : List PyData → Prop) (post : List PyData → PyData → Prop) : DSp := fun vs T Q _ => ∃ (n : Nat) (ds : List PyData), vs = .ob 0 :: dv ds ∧ T = [.law (n + c)] ∧ pre ds ∧ ∀ r n', post ds r → n ≤ n' → Q (.d r) [.law n']
theorem detD_mono {f : List PyData → Option PyData} : MonoS (detD f) := by
  rintro vs T Q Q' X X' hq hx ⟨ds, r, h1, h2, h3, h4⟩
  exact ⟨ds, r, h1, h2, h3, hq _ _ h4⟩
theorem drawD_mono {c : Nat} {pre : List PyData → Prop} {post : List PyData → PyData → Prop} : MonoS (drawD c pre post) := by
  rintro vs T Q Q' X X' hq hx ⟨n, ds, h1, h2, h3, h4⟩
  exact ⟨n, ds, h1, h2, h3, fun r n' a b => hq _ _ (h4 r n' a b)⟩
theorem obs_dv : ∀ ds : List PyData, obsOf (dv ds) = []
  | [] => rfl
  | d :: ds => by simp only [dv, obsOf]; exact obs_dv ds
theorem ren_dv (ks : List Nat) : ∀ ds : List PyData, (dv ds).map (renV ks) = dv ds
  | [] => rfl
  | d :: ds => by simp only [dv, List.map_cons, renV, ren_dv ks ds]
theorem call_det {f : List PyData → Option PyData} {ds : List PyData} {r : PyData} {T : Tab} {Q : VC} {X : XC} (h : f ds = some r) (q : Q (.d r) T) : callW (detD f) (dv ds) T Q X := by
  refine .inl ?_
  unfold callF
  simp only [obs_dv, tabOf, ren_dv]
  refine ⟨rfl, ds, r, rfl, rfl, h, by simp, rfl, ?_⟩
  simpa [backV, putT] using q
theorem call_law {dsp : DSp} {ds : List PyData} {m : Nat} {R : Tab} {Q : VC} {X : XC} (mono : MonoS dsp) (q : dsp (.ob 0 :: dv ds) [.law m] (fun v T' => ∃ r n', v = .d r ∧ T' = [.law n'] ∧ Q (.d r) (.law n' :: R)) (fun _ _ => False)) : callW dsp (.ob 0 :: dv ds) (.law m :: R) Q X := by
  refine .inl ?_
  unfold callF
  have eo : obsOf (.ob 0 :: dv ds) = [0] := by simp [obsOf, obs_dv]
  simp only [eo, tabOf, getT, List.map_cons, ren_dv, renV]
  refine ⟨rfl, ?_⟩
  have e0 : List.idxOf 0 [0] = 0 := rfl
  rw [e0]
  refine mono _ _ _ _ _ _ (fun v T' z => ?_) (fun _ _ z => z.elim) q
  obtain ⟨r, n', rfl, rfl, z⟩ := z
  exact ⟨by simp, rfl, by simpa [backV, putT, setT] using z⟩
theorem call_draw {c n : Nat} {pre : List PyData → Prop} {post : List PyData → PyData → Prop} {ds : List PyData} {m : Nat} {R : Tab} {Q : VC} {X : XC} (hm : m = n + c) (hp : pre ds) (q : ∀ r n', post ds r → n ≤ n' → Q (.d r) (.law n' :: R)) :
    callW (drawD c pre post) (.ob 0 :: dv ds) (.law m :: R) Q X := by
  subst hm
  exact call_law drawD_mono ⟨n, ds, rfl, rfl, hp, fun r n' a b => ⟨r, n', rfl, rfl, q r n' a b⟩⟩
theorem call_dspD {room : Int} {m n : Nat} {R : Tab} {Q : VC} {X : XC} (hm : m = n + 1) (h0 : 0 < room) (h1 : room < 1073741824) (q : ∀ v : Int, 0 ≤ v → v < room → Q (.d (.int v)) (.law n :: R)) : callW dspD [.ob 0, .d (.int room)] (.law m :: R) Q X := by
  subst hm
  exact call_law (ds := [.int room]) dspD_mono ⟨n, room, rfl, rfl, h0, h1, fun v a b => ⟨_, n, rfl, rfl, q v a b⟩⟩
/-- the end of a def that gives data -/
theorem cut_d {n : Nat} {Q : VC} {r : PyData} {T : Tab} (hl : n ≤ T.length) (hc : (T.take n).all (closO n) = true) (q : Q (.d r) (T.take n)) : cutW n Q (.d r) T := ⟨hl, hc, q⟩
theorem cut_0 {Q : VC} {r : PyData} {T : Tab} (q : Q (.d r) []) : cutW 0 Q (.d r) T := ⟨Nat.zero_le _, rfl, q⟩
theorem cut_1 {Q : VC} {r : PyData} {n : Nat} {R : Tab} (q : Q (.d r) [.law n]) : cutW 1 Q (.d r) (.law n :: R) := ⟨by simp, rfl, q⟩
/-- _law_pick: an item of a list or a tuple, or a sign of a text, all of data -/
def pickPre : List PyData → Prop
  | [.list xs] => xs ≠ [] ∧ xs.length < 1073741824
  | [.tuple xs] => xs ≠ [] ∧ xs.length < 1073741824
  | [.str s] => 0 < s.length ∧ s.length < 1073741824 ∧ s.length ≤ sizeLine
  | _ => False
def pickPost : List PyData → PyData → Prop
  | [.list xs], r => r ∈ xs
  | [.tuple xs], r => r ∈ xs
  | [.str s], r => ∃ c, c ∈ s.cps.toList ∧ r = .str ⟨#[c]⟩
  | _, _ => False
theorem ixN_nat {n k : Nat} (h : k < n) : ixN n (k : Int) = some k := by
  unfold ixN
  rw [if_pos (by omega), if_pos (by omega)]
  simp
theorem atI_nat {α : Type} {xs : List α} {k : Nat} (h : k < xs.length) : atI xs (k : Int) = some xs[k] := by
  unfold atI
  rw [ixN_nat h]
  exact List.getElem?_eq_getElem h
theorem atI_in {α : Type} {xs : List α} {v : Int} (h0 : 0 ≤ v) (h1 : v < xs.length) : ∃ x, atI xs v = some x ∧ x ∈ xs := by
  obtain ⟨k, rfl⟩ := Int.eq_ofNat_of_zero_le h0
  have hk : k < xs.length := by omega
  exact ⟨xs[k], atI_nat hk, List.getElem_mem hk⟩
theorem raw_pick {Γ : DL.Env} (hΓ : Γ.calls 0 = dspD) {n : Nat} {ds : List PyData} (hp : pickPre ds) {Q : VC} {X : XC} (h : ∀ r, pickPost ds r → Q (.d r) [.law n]) : rawD Γ tm_law_pick 2 (.ob 0 :: dv ds) [.law (n + 1)] (cutW 1 Q) X := by
  unfold rawD tm_law_pick
  have fin : ∀ r R, pickPost ds r → cutW 1 Q (.d r) (.law n :: R) := fun r R hr => cut_1 (h r hr)
  have len0 : ∀ {α : Type} {xs : List α}, xs ≠ [] → (0 : Int) < xs.length := fun {α xs} hx => by
    cases xs with
    | nil => exact absurd rfl hx
    | cons _ _ => simp
  unfold pickPre at hp
  split at hp
  · rename_i xs
    simp only [startS, dv, List.map_cons, List.map_nil, List.length_cons, List.length_nil, List.replicate, List.cons_append, List.nil_append, wpSs, wpS, wpE, wpEs, getS, biW, lenW, hΓ]
    refine call_dspD rfl (len0 hp.1) (by omega) fun v a b => ?_
    obtain ⟨x, e, hx⟩ := atI_in a b
    simp only [idxW, e]
    exact fin x [] hx
  · rename_i xs
    simp only [startS, dv, List.map_cons, List.map_nil, List.length_cons, List.length_nil, List.replicate, List.cons_append, List.nil_append, wpSs, wpS, wpE, wpEs, getS, biW, lenW, hΓ]
    refine call_dspD rfl (len0 hp.1) (by omega) fun v a b => ?_
    obtain ⟨x, e, hx⟩ := atI_in a b
    simp only [idxW, e]
    exact fin x [] hx
  · rename_i s
    simp only [startS, dv, List.map_cons, List.map_nil, List.length_cons, List.length_nil, List.replicate, List.cons_append, List.nil_append, wpSs, wpS, wpE, wpEs, getS, biW, lenW, hΓ]
    refine ⟨hp.2.2, call_dspD rfl (by omega) (by omega) fun v a b => ?_⟩
    have b' : v < s.cps.toList.length := by simpa [Str.length] using b
    obtain ⟨x, e, hx⟩ := atI_in a b'
    simp only [idxW, e]
    exact ⟨hp.2.2, fin _ [] ⟨x, hx, rfl⟩⟩
  · exact hp.elim
end DL
set_option bootstrap.genMatcherCode false
/-! the evaluator: what a term does, as a function, where nothing is drawn -/
namespace DL
open PySem PySem.Spec PyProof.Rows L2
inductive Rs (α : Type) where
  | ok (a : α) (T : Tab)
  | ex (x : DX) (T : Tab)
  | no
namespace Rs
def bind {α β : Type} : Rs α → (α → Tab → Rs β) → Rs β
  | .ok a T, f => f a T
  | .ex x T, _ => .ex x T
  | .no, _ => .no
/-- what comes of it keeps Q, X -/
def post {α : Type} : Rs α → (α → Tab → Prop) → (DX → Tab → Prop) → Prop
  | .ok a T, Q, _ => Q a T
  | .ex x T, _, X => X x T
  | .no, _, _ => False
theorem post_bind {α β : Type} {r : Rs α} {f : α → Tab → Rs β} {Q : β → Tab → Prop} {X : DX → Tab → Prop} (h : (r.bind f).post Q X) : r.post (fun a T => (f a T).post Q X) X := by
  cases r <;> exact h
theorem post_mono {α : Type} {r : Rs α} {Q Q' : α → Tab → Prop} {X : DX → Tab → Prop} (h : ∀ a T, Q a T → Q' a T) (q : r.post Q X) : r.post Q' X := by
  cases r with
  | ok a T => exact h _ _ q
  | ex _ _ => exact q
  | no => exact q
/-- of an option -/
def ofO {α : Type} (o : Option α) (T : Tab) : Rs α := match o with
  | some a => .ok a T
  | none => .no
theorem post_ofO {α : Type} {o : Option α} {T : Tab} {Q : α → Tab → Prop} {X : DX → Tab → Prop} (h : (ofO o T).post Q X) : ∃ a, o = some a ∧ Q a T := by
  cases o with
  | none => exact h.elim
  | some a => exact ⟨a, rfl, h⟩
/-- errors are not let by -/
def noX {α : Type} : Rs α → Rs α
  | .ok a T => .ok a T
  | _ => .no
theorem post_noX {α : Type} {r : Rs α} {Q : α → Tab → Prop} {X X' : DX → Tab → Prop} (h : (noX r).post Q X) : r.post Q X' := by
  cases r with
  | ok a T => exact h
  | ex _ _ => exact h.elim
  | no => exact h
end Rs
inductive Out where
  | nx (sl : Slots) (T : Tab)
  | rt (v : Val) (T : Tab)
  | bk (sl : Slots) (T : Tab)
  | ct (sl : Slots) (T : Tab)
  | ex (x : DX) (T : Tab)
  | no
namespace Out
def post : Out → DEnds → Prop
  | .nx sl T, D => D.nx sl T
  | .rt v T, D => D.rt v T
  | .bk sl T, D => D.bk sl T
  | .ct sl T, D => D.ct sl T
  | .ex x T, D => D.xc x T
  | .no, _ => False
def seq : Out → (Slots → Tab → Out) → Out
  | .nx sl T, f => f sl T
  | o, _ => o
theorem post_seq {o : Out} {f : Slots → Tab → Out} {D : DEnds} (h : (o.seq f).post D) : o.post { D with nx := fun sl T => (f sl T).post D } := by
  cases o <;> exact h
theorem post_mono {o : Out} {D : DEnds} {nx' : Slots → Tab → Prop} (h : ∀ sl T, D.nx sl T → nx' sl T) (q : o.post D) : o.post { D with nx := nx' } := by
  cases o with
  | nx sl T => exact h _ _ q
  | _ => exact q
end Out
/-- an expression's result, handed on -/
def Rs.out {α : Type} : Rs α → (α → Tab → Out) → Out
  | .ok a T, f => f a T
  | .ex x T, _ => .ex x T
  | .no, _ => .no
theorem Rs.post_out {α : Type} {r : Rs α} {f : α → Tab → Out} {D : DEnds} (h : (r.out f).post D) : r.post (fun a T => (f a T).post D) D.xc := by
  cases r <;> exact h
/-! ### the parts, as functions -/
section
open Classical
noncomputable def gd {α : Type} (p : Prop) (a : α) : Option α := if p then some a else none
theorem gd_ok {α : Type} {p : Prop} {a z : α} (h : gd p a = some z) : p ∧ a = z := by
  unfold gd at h
  split at h
  · rename_i hp
    cases h
    exact ⟨hp, rfl⟩
  · cases h
theorem gd_pos {α : Type} {p : Prop} {a : α} (h : p) : gd p a = some a := if_pos h
@[simp] theorem gd_true {α : Type} {a : α} : gd True a = some a := if_pos trivial
noncomputable def binV : Operator → PyData → PyData → Option PyData
  | .Add, .int i, .int j => some (.int (i + j))
  | .Add, .str a, .str b => gd (a.length + b.length ≤ sizeLine) (.str (a ++ b))
  | .Add, .list a, .list b => gd (a.length + b.length ≤ sizeLine) (.list (a ++ b))
  | .Add, .tuple a, .tuple b => gd (a.length + b.length ≤ sizeLine) (.tuple (a ++ b))
  | .Sub, .int i, .int j => some (.int (i - j))
  | .Mult, .int i, .int j => gd (CMul i j) (.int (i * j))
  | .Mult, .str a, .int j => gd (MulOk a j) (.str (Txt.mul a j))
  | .Mult, .list a, .int j => gd (-(2 ^ 63) ≤ j ∧ j < 2 ^ 63 ∧ a.length * j.toNat ≤ sizeLine) (.list (List.replicate j.toNat a).flatten)
  | .FloorDiv, .int i, .int j => gd (CDivN i j) (.int (i.fdiv j))
  | .Mod, .int i, .int j => gd (j ≠ 0) (.int (i.fmod j))
  | .Pow, .int i, .int j => gd (CPow i j) (.int (i ^ j.toNat))
  | _, _, _ => none
theorem binV_ok {o : Operator} {x y z : PyData} {k : Val → Prop} (h : binV o x y = some z) (q : k (.d z)) : binD o x y k := by
  unfold binV at h
  split at h
  all_goals first
    | (cases h; exact q)
    | (obtain ⟨h1, rfl⟩ := gd_ok h; exact ⟨h1, q⟩)
    | (cases h)
noncomputable def bin2 (o : Operator) (T : Tab) (v u : Val) : Option Val := match asD T v, asD T u with
  | some x, some y => (binV o x y).map .d
  | _, _ => none
theorem bin2_ok {o : Operator} {T : Tab} {v u z : Val} {k : Val → Prop} (h : bin2 o T v u = some z) (q : k z) : on2 (binD o) T v u k := by
  unfold bin2 at h
  unfold on2
  split at h
  · rename_i x y e1 e2
    rw [e1, e2]
    obtain ⟨w, h1, rfl⟩ := Option.map_eq_some_iff.mp h
    exact binV_ok h1 q
  · cases h
noncomputable def ordV (f : Int → Int → Bool) (g : List Nat → List Nat → Bool) : PyData → PyData → Option Bool
  | .int i, .int j => some (f i j)
  | .str a, .str b => some (g a.cps.toList b.cps.toList)
  | _, _ => none
theorem ordV_ok {f : Int → Int → Bool} {g : List Nat → List Nat → Bool} {x y : PyData} {b : Bool} {k : Val → Prop} (h : ordV f g x y = some b) (q : k (.d (.bool b))) : ordD f g x y k := by
  unfold ordV at h
  split at h
  · cases h; exact q
  · cases h; exact q
  · cases h
def InOk (x : PyData) (ys : List PyData) : Prop := plainD x = true ∧ plainA ys = true ∧ min (PyData.depthAll ys) x.depth ≤ 100
noncomputable def inV : PyData → PyData → Option Bool
  | x, .list ys => gd (InOk x ys) (ys.any fun z => PyData.eqv z x)
  | x, .tuple ys => gd (InOk x ys) (ys.any fun z => PyData.eqv z x)
  | .str a, .str b => some (strIn a b)
  | _, _ => none
theorem inV_ok {neg : Bool} {x y : PyData} {b : Bool} {k : Val → Prop} (h : inV x y = some b) (q : k (.d (.bool (neg ^^ b)))) : inD neg x y k := by
  unfold inV at h
  split at h
  · obtain ⟨h1, rfl⟩ := gd_ok h; exact ⟨h1, q⟩
  · obtain ⟨h1, rfl⟩ := gd_ok h; exact ⟨h1, q⟩
  · cases h; exact q
  · cases h
def EqG (x y : PyData) : Prop := EqOk x y ∨ DicStr x y
noncomputable def cmpV : CmpOp → PyData → PyData → Option Bool
  | .Eq, x, y => gd (EqG x y) (PyData.eqv x y)
  | .NotEq, x, y => gd (EqOk x y) (!PyData.eqv x y)
  | .Lt, x, y => ordV (fun i j => decide (i < j)) (fun a b => decide (a < b)) x y
  | .LtE, x, y => ordV (fun i j => decide (i ≤ j)) (fun a b => !decide (b < a)) x y
  | .Gt, x, y => ordV (fun i j => decide (j < i)) (fun a b => decide (b < a)) x y
  | .GtE, x, y => ordV (fun i j => decide (j ≤ i)) (fun a b => !decide (a < b)) x y
  | .In, x, y => inV x y
  | .NotIn, x, y => (inV x y).map (!·)
  | _, _, _ => none
theorem cmpV_ok {o : CmpOp} {x y : PyData} {b : Bool} {k : Val → Prop} (h : cmpV o x y = some b) (q : k (.d (.bool b))) : cmpD o x y k := by
  unfold cmpV at h
  split at h
  · obtain ⟨h1, rfl⟩ := gd_ok h; exact ⟨h1, q⟩
  · obtain ⟨h1, rfl⟩ := gd_ok h; exact ⟨h1, q⟩
  · exact ordV_ok h q
  · exact ordV_ok h q
  · exact ordV_ok h q
  · exact ordV_ok h q
  · exact inV_ok h (by simpa using q)
  · obtain ⟨c, h1, rfl⟩ := Option.map_eq_some_iff.mp h
    exact inV_ok h1 (by simpa using q)
  · cases h
def isV (v u : Val) : Option Bool := match u with
  | .d .none => some (isNone v)
  | .d (.bool b) => match v with
    | .d (.bool a) => some (decide (a = b))
    | _ => none
  | _ => none
theorem isV_ok {neg : Bool} {T : Tab} {v u : Val} {b : Bool} {k : Val → Prop} (h : isV v u = some b) (q : k (.d (.bool (neg ^^ b)))) : isW neg T v u k := by
  unfold isV at h
  unfold isW
  split at h
  · cases h; exact q
  · split at h
    · cases h; exact q
    · cases h
  · cases h
noncomputable def cmp2D (o : CmpOp) (T : Tab) (v u : Val) : Option Bool := match asD T v, asD T u with
  | some x, some y => cmpV o x y
  | _, _ => none
noncomputable def cmp2 (o : CmpOp) (T : Tab) (v u : Val) : Option Bool := match o with
  | .Is => isV v u
  | .IsNot => (isV v u).map (!·)
  | o => cmp2D o T v u
theorem cmp2D_ok {o : CmpOp} {T : Tab} {v u : Val} {b : Bool} {k : Val → Prop} (h : cmp2D o T v u = some b) (q : k (.d (.bool b))) : on2 (cmpD o) T v u k := by
  unfold cmp2D at h
  unfold on2
  split at h
  · rename_i x y e1 e2
    rw [e1, e2]
    exact cmpV_ok h q
  · cases h
theorem cmp2_ok {o : CmpOp} {T : Tab} {v u : Val} {b : Bool} {k : Val → Prop} (h : cmp2 o T v u = some b) (q : k (.d (.bool b))) : cmpW o T v u k := by
  unfold cmp2 at h
  cases o
  case Is => exact isV_ok (T := T) h (by simpa using q)
  case IsNot =>
    obtain ⟨c, h1, rfl⟩ := Option.map_eq_some_iff.mp h
    exact isV_ok (T := T) h1 (by simpa using q)
  all_goals exact cmp2D_ok h q
noncomputable def truV (T : Tab) (v : Val) : Option Bool :=
  match v with
  | .d .none => some false
  | .d (.bool b) => some b
  | .d (.int i) => some (i != 0)
  | .d (.str s) => gd (s.length ≤ sizeLine) ((s.length : Int) != 0)
  | .d (.list xs) => some (!xs.isEmpty)
  | .d (.tuple xs) => some (!xs.isEmpty)
  | .d (.dict xs) => some (!xs.isEmpty)
  | .ob n => match getT T n with
    | some (.lst xs) => some (!xs.isEmpty)
    | some (.dic xs) => some (!xs.isEmpty)
    | _ => none
  | _ => none
theorem truV_ok {T : Tab} {v : Val} {b : Bool} {k : Bool → Prop} (h : truV T v = some b) (q : k b) : truW T v k := by
  unfold truV at h
  unfold truW
  split at h
  all_goals first
    | (cases h; exact q)
    | (obtain ⟨h1, rfl⟩ := gd_ok h; exact ⟨h1, q⟩)
    | (split at h <;> first | (cases h; done) | (rename_i e; cases h; simp only [e]; exact q))
    | (cases h)
def itemsV (T : Tab) (v : Val) : Option (List Val × Option (Nat × List Val)) :=
  match v with
  | .d (.list xs) => some (dv xs, none)
  | .d (.tuple xs) => some (dv xs, none)
  | .d (.str s) => some (s.cps.toList.map fun c => .d (.str ⟨#[c]⟩), none)
  | .ob n => match getT T n with
    | some (.lst xs) => some (xs, some (n, xs))
    | _ => none
  | .scr ns => some (ns.map fun i => .d (.int i), none)
  | _ => none
theorem itemsV_ok {T : Tab} {v : Val} {p : List Val × Option (Nat × List Val)} {k : List Val → Option (Nat × List Val) → Prop} (h : itemsV T v = some p) (q : k p.1 p.2) : itemsW T v k := by
  unfold itemsV at h
  unfold itemsW
  split at h
  all_goals first
    | (cases h; exact q)
    | (split at h <;> first | (cases h; done) | (rename_i e; cases h; simp only [e]; exact q))
    | (cases h)
noncomputable def lenV (T : Tab) (v : Val) : Option Val :=
  match v with
  | .d (.list xs) => some (.d (.int xs.length))
  | .d (.tuple xs) => some (.d (.int xs.length))
  | .d (.str s) => gd (s.length ≤ sizeLine) (.d (.int s.length))
  | .d (.dict xs) => some (.d (.int xs.length))
  | .ob n => match getT T n with
    | some (.lst xs) => some (.d (.int xs.length))
    | some (.dic xs) => some (.d (.int xs.length))
    | _ => none
  | .scr ns => some (.d (.int ns.length))
  | _ => none
theorem lenV_ok {T : Tab} {v z : Val} {k : Val → Prop} (h : lenV T v = some z) (q : k z) : lenW T v k := by
  unfold lenV at h
  unfold lenW
  split at h
  all_goals first
    | (cases h; exact q)
    | (obtain ⟨h1, rfl⟩ := gd_ok h; exact ⟨h1, q⟩)
    | (split at h <;> first | (cases h; done) | (rename_i e; cases h; simp only [e]; exact q))
    | (cases h)
noncomputable def idxV (T : Tab) (v u : Val) : Option Val :=
  match u with
  | .d (.int i) => match v with
    | .d (.list xs) => (atI xs i).map .d
    | .d (.tuple xs) => (atI xs i).map .d
    | .d (.str s) => if s.length ≤ sizeLine then (atI s.cps.toList i).map fun c => .d (.str ⟨#[c]⟩) else none
    | .ob n => match getT T n with
      | some (.lst xs) => atI xs i
      | _ => none
    | _ => none
  | _ => none
theorem idxV_ok {T : Tab} {v u z : Val} {k : Val → Prop} (h : idxV T v u = some z) (q : k z) : idxW T v u k := by
  unfold idxV at h
  unfold idxW
  split at h
  · split at h
    · obtain ⟨c, h1, rfl⟩ := Option.map_eq_some_iff.mp h
      simp only [h1]; exact q
    · obtain ⟨c, h1, rfl⟩ := Option.map_eq_some_iff.mp h
      simp only [h1]; exact q
    · split at h
      · rename_i hl
        obtain ⟨c, h1, rfl⟩ := Option.map_eq_some_iff.mp h
        refine ⟨hl, ?_⟩
        simp only [h1]; exact q
      · cases h
    · split at h
      · rename_i e
        simp only [e, h]
        exact q
      · cases h
    · cases h
  · cases h
noncomputable def slcV (T : Tab) (v : Val) (lo hi : Option Int) : Option Val :=
  match asD T v with
  | some (.list xs) => some (.d (.list (cutD xs lo hi)))
  | some (.tuple xs) => some (.d (.tuple (cutD xs lo hi)))
  | some (.str s) => gd (s.length ≤ sizeLine) (.d (.str (cutS s lo hi)))
  | _ => none
theorem slcV_ok {T : Tab} {v z : Val} {lo hi : Option Int} {k : Val → Prop} (h : slcV T v lo hi = some z) (q : k z) : slcW T v lo hi k := by
  unfold slcV at h
  unfold slcW
  split at h
  · rename_i e; cases h; rw [e]; exact q
  · rename_i e; cases h; rw [e]; exact q
  · rename_i e
    obtain ⟨h1, rfl⟩ := gd_ok h
    rw [e]
    exact ⟨h1, q⟩
  · cases h
noncomputable def biV (f : Bi) (T : Tab) (vs : List Val) : Option Val :=
  match f, vs with
  | .len, [v] => lenV T v
  | .int, [.d (.int i)] => some (.d (.int i))
  | .int, [.d (.bool b)] => some (.d (.int (if b then 1 else 0)))
  | .bool, [.d (.bool b)] => some (.d (.bool b))
  | .bool, [.d (.int i)] => some (.d (.bool (i != 0)))
  | .str, [.d (.int i)] => gd (i.natAbs.log2 < 1920) (.d (.str (toString i)))
  | .abs, [.d (.int i)] => some (.d (.int (if i < 0 then -i else i)))
  | .min, [.d (.int i), .d (.int j)] => some (.d (.int (if j < i then j else i)))
  | .max, [.d (.int i), .d (.int j)] => some (.d (.int (if j > i then j else i)))
  | .tuple, [v] => match asD T v with
    | some (.list xs) => some (.d (.tuple xs))
    | some (.tuple xs) => some (.d (.tuple xs))
    | _ => none
  | .sum, [v] => match asD T v with
    | some (.list xs) => (intsD xs).map fun ns => .d (.int ns.sum)
    | _ => none
  | .all, [v] => match asD T v with
    | some (.list xs) => (boolsD xs).map fun bs => .d (.bool (bs.all id))
    | _ => none
  | .any, [v] => match asD T v with
    | some (.list xs) => (boolsD xs).map fun bs => .d (.bool (bs.any id))
    | _ => none
  | _, _ => none
theorem biV_ok {f : Bi} {T : Tab} {vs : List Val} {z : Val} {k : Val → Prop} (h : biV f T vs = some z) (q : k z) : biW f T vs k := by
  unfold biV at h
  unfold biW
  split at h
  case h_1 => exact lenV_ok h q
  case h_6 => obtain ⟨h1, rfl⟩ := gd_ok h; exact ⟨h1, q⟩
  case h_10 =>
    simp only
    split at h
    · rename_i e; cases h; rw [e]; exact q
    · rename_i e; cases h; rw [e]; exact q
    · cases h
  case h_11 =>
    simp only
    split at h
    · rename_i e
      obtain ⟨ns, h1, rfl⟩ := Option.map_eq_some_iff.mp h
      rw [e]
      simp only [h1]; exact q
    · cases h
  case h_12 =>
    simp only
    split at h
    · rename_i e
      obtain ⟨ns, h1, rfl⟩ := Option.map_eq_some_iff.mp h
      rw [e]
      simp only [h1]; exact q
    · cases h
  case h_13 =>
    simp only
    split at h
    · rename_i e
      obtain ⟨ns, h1, rfl⟩ := Option.map_eq_some_iff.mp h
      rw [e]
      simp only [h1]; exact q
    · cases h
  all_goals first | (cases h; done) | (cases h; exact q)
def dicV (T : Tab) (v : Val) : Option (Nat × List (Key × Val)) :=
  match v with
  | .ob n => match getT T n with
    | some (.dic kvs) => some (n, kvs)
    | _ => none
  | _ => none
theorem dicV_ok {T : Tab} {v : Val} {p : Nat × List (Key × Val)} {k : Nat → List (Key × Val) → Prop} (h : dicV T v = some p) (q : k p.1 p.2) : dicAt T v k := by
  unfold dicV at h
  unfold dicAt
  split at h
  · split at h
    · rename_i e; cases h; simp only [e]; exact q
    · cases h
  · cases h
def lstV (T : Tab) (v : Val) : Option (Nat × List Val) :=
  match v with
  | .ob n => match getT T n with
    | some (.lst xs) => some (n, xs)
    | _ => none
  | _ => none
theorem lstV_ok {T : Tab} {v : Val} {p : Nat × List Val} {k : Nat → List Val → Prop} (h : lstV T v = some p) (q : k p.1 p.2) : obLst T v k := by
  unfold lstV at h
  unfold obLst
  split at h
  · split at h
    · rename_i e; cases h; simp only [e]; exact q
    · cases h
  · cases h
noncomputable def popV (xs : List Val) (i : Int) : Option (Val × List Val) := match seqIndex? i xs.length with
  | some j => match xs[j]? with
    | some x => gd (-(2 ^ 63) ≤ i ∧ i < 2 ^ 63) (x, xs.eraseIdx j)
    | none => none
  | none => none
theorem popV_ok {xs : List Val} {i : Int} {p : Val × List Val} {k : Val → List Val → Prop} (h : popV xs i = some p) (q : k p.1 p.2) : popW xs i k := by
  unfold popV at h
  unfold popW
  split at h
  · rename_i e
    rw [e]
    split at h
    · rename_i e2
      simp only [e2]
      obtain ⟨h1, rfl⟩ := gd_ok h
      exact ⟨h1, q⟩
    · cases h
  · cases h
noncomputable def mtV (f : Mt) (T : Tab) (o : Val) (vs : List Val) : Option (Val × Tab) :=
  match f, vs with
  | .append, [v] => match lstV T o with
    | some (n, xs) => gd (xs.length < sizeLine) (.d .none, setT T n (.lst (xs ++ [v])))
    | none => none
  | .extend, [.d (.list ys)] => match lstV T o with
    | some (n, xs) => gd (xs.length + ys.length ≤ sizeLine) (.d .none, setT T n (.lst (xs ++ dv ys)))
    | none => none
  | .pop, [] => match lstV T o with
    | some (n, xs) => (xs[xs.length - 1]?).map fun x => (x, setT T n (.lst xs.dropLast))
    | none => none
  | .clear, [] => match lstV T o with
    | some (n, _) => some (.d .none, setT T n (.lst []))
    | none => none
  | .popAt, [.d (.int i)] => match lstV T o with
    | some (n, xs) => (popV xs i).map fun p => (p.1, setT T n (.lst p.2))
    | none => none
  | .upper, [] => match o with
    | .d (.str a) => gd (a.length ≤ 5592405) (.d (.str (Txt.upper a)), T)
    | _ => none
  | .split, [.d (.str b)] => match o with
    | .d (.str a) => gd ((b.length == 0) = false ∧ a.length + 2 ≤ sizeLine) (.d (.list ((Txt.split a b).map .str)), T)
    | _ => none
  | _, _ => none
theorem mtV_ok {f : Mt} {T : Tab} {o : Val} {vs : List Val} {p : Val × Tab} {k : Val → Tab → Prop} (h : mtV f T o vs = some p) (q : k p.1 p.2) : mtW f T o vs k := by
  unfold mtV at h
  unfold mtW
  split at h
  · split at h
    · rename_i n xs e
      obtain ⟨h1, rfl⟩ := gd_ok h
      refine lstV_ok (p := (n, xs)) e ?_
      exact ⟨h1, q⟩
    · cases h
  · split at h
    · rename_i n xs e
      obtain ⟨h1, rfl⟩ := gd_ok h
      refine lstV_ok (p := (n, xs)) e ?_
      exact ⟨h1, q⟩
    · cases h
  · split at h
    · rename_i n xs e
      obtain ⟨x, h1, rfl⟩ := Option.map_eq_some_iff.mp h
      refine lstV_ok (p := (n, xs)) e ?_
      simp only [arg0, popL, h1]
      exact q
    · cases h
  · split at h
    · rename_i n xs e
      cases h
      exact lstV_ok (p := (n, xs)) e q
    · cases h
  · split at h
    · rename_i n xs e
      obtain ⟨p', h1, rfl⟩ := Option.map_eq_some_iff.mp h
      refine lstV_ok (p := (n, xs)) e ?_
      exact popV_ok (k := fun x ys => k x (setT T n (.lst ys))) h1 q
    · cases h
  · split at h
    · obtain ⟨h1, rfl⟩ := gd_ok h
      exact ⟨h1, q⟩
    · cases h
  · split at h
    · obtain ⟨h1, rfl⟩ := gd_ok h
      exact ⟨h1, q⟩
    · cases h
  · cases h
mutual
def patV : Pat → Val → Slots → Option Slots
  | .nm i, v, sl => some (setS sl i (some v))
  | .tp ps, v, sl => match v with
    | .d (.tuple xs) => if xs.length = ps.length then patsV ps (dv xs) sl else none
    | .d (.list xs) => if xs.length = ps.length then patsV ps (dv xs) sl else none
    | _ => none
def patsV : List Pat → List Val → Slots → Option Slots
  | [], vs, sl => match vs with
    | [] => some sl
    | _ => none
  | p :: ps, vs, sl => match vs with
    | v :: r => match patV p v sl with
      | some sl1 => patsV ps r sl1
      | none => none
    | _ => none
end
mutual
theorem patV_ok {T : Tab} {k : Slots → Prop} : ∀ (p : Pat) {v : Val} {sl sl' : Slots}, patV p v sl = some sl' → k sl' → patW p v sl T k
  | .nm i, v, sl, sl', h, q => by
    simp only [patV] at h
    cases h
    exact q
  | .tp ps, v, sl, sl', h, q => by
    simp only [patV] at h
    simp only [patW]
    split at h
    · split at h
      · rename_i e; exact ⟨e, patsV_ok ps h q⟩
      · cases h
    · split at h
      · rename_i e; exact ⟨e, patsV_ok ps h q⟩
      · cases h
    · cases h
theorem patsV_ok {T : Tab} {k : Slots → Prop} : ∀ (ps : List Pat) {vs : List Val} {sl sl' : Slots}, patsV ps vs sl = some sl' → k sl' → patsW ps vs sl T k
  | [], vs, sl, sl', h, q => by
    simp only [patsV] at h
    simp only [patsW]
    split at h
    · cases h; exact q
    · cases h
  | p :: ps, vs, sl, sl', h, q => by
    simp only [patsV] at h
    simp only [patsW]
    split at h
    · rename_i v r
      simp only
      cases e : patV p v sl with
      | none => rw [e] at h; cases h
      | some sl1 =>
        rw [e] at h
        exact patV_ok p e (patsV_ok ps h q)
    · cases h
end
def isxV (sub : Str → Str → Option Bool) (c : Str) (T : Tab) (v : Val) : Option Bool :=
  match v with
  | .ex x => sub x.cls c
  | v => match tyName T v with
    | some _ => some false
    | none => none
theorem isxV_ok {sub : Str → Str → Option Bool} {c : Str} {T : Tab} {v : Val} {b : Bool} {k : Bool → Prop} (h : isxV sub c T v = some b) (q : k b) : isxW sub c T v k := by
  unfold isxV at h
  unfold isxW
  split at h
  · simp only [h]; exact q
  · split at h
    · rename_i e
      cases h
      simp only [e]
      exact q
    · cases h
end
end DL
namespace DL
open PySem PySem.Spec PyProof.Rows L2
abbrev FR := Option (Except DX PyData)
abbrev FN := List PyData → FR
structure PEnv where
  fn : Nat → FN
  globs : Nat → PyData
  sub : Str → Str → Option Bool := fun _ _ => none
  fuel : Nat := 0
/-- data to data, or an error -/
def detX (f : FN) : DSp := fun vs T Q X => ∃ ds, vs = dv ds ∧ T = [] ∧ match f ds with
  | some (.ok r) => Q (.d r) []
  | some (.error x) => X x []
  | none => False
def PEnv.env (P : PEnv) : DL.Env := { calls := fun i => detX (P.fn i), globs := P.globs, sub := P.sub }
structure EnvOk (Γ : DL.Env) (P : PEnv) : Prop where
  globs : Γ.globs = P.globs
  sub : Γ.sub = P.sub
  calls : ∀ i ds r, P.fn i ds = some r → Γ.calls i = detX (P.fn i)
theorem PEnv.env_ok (P : PEnv) : EnvOk P.env P := ⟨rfl, rfl, fun _ _ _ _ => rfl⟩
theorem detX_mono {f : FN} : MonoS (detX f) := by
  rintro vs T Q Q' X X' hq hx ⟨ds, h1, h2, h3⟩
  refine ⟨ds, h1, h2, ?_⟩
  split at h3
  · exact hq _ _ h3
  · exact hx _ _ h3
  · exact h3
def callV (f : FN) (vs : List Val) (T : Tab) : Rs Val := match dats vs with
  | some ds => match f ds with
    | some (.ok r) => .ok (.d r) T
    | some (.error x) => .ex x T
    | none => .no
  | none => .no
theorem dats_some : ∀ {vs : List Val} {ds : List PyData}, dats vs = some ds → vs = dv ds
  | [], ds, h => by cases h; rfl
  | v :: vs, ds, h => by
    cases v with
    | d x =>
      have h1 : (dats vs).map (fun l => x :: l) = some ds := h
      obtain ⟨l, h2, rfl⟩ := Option.map_eq_some_iff.mp h1
      rw [dats_some h2]
      rfl
    | _ => cases h
theorem callV_ok {dsp : DSp} {f : FN} {vs : List Val} {T : Tab} {Q : VC} {X : XC} (hd : ∀ ds r, f ds = some r → dsp = detX f) (h : (callV f vs T).post Q X) : callW dsp vs T Q X := by
  unfold callV at h
  split at h
  · rename_i ds e
    cases dats_some e
    cases e2 : f ds with
    | none => rw [e2] at h; exact h.elim
    | some r =>
      rw [hd ds r e2]
      refine .inl ?_
      unfold callF
      simp only [obs_dv, tabOf, ren_dv]
      refine ⟨rfl, ds, rfl, rfl, ?_⟩
      rw [e2] at h ⊢
      cases r with
      | ok r => exact ⟨by simp, rfl, by simpa [backV, putT, Rs.post] using h⟩
      | error x => exact ⟨by simp, rfl, by simpa [putT, Rs.post] using h⟩
  · exact h.elim
section
open Classical
noncomputable def stillV (T : Tab) : Option (Nat × List Val) → Bool
  | none => true
  | some (n, xs) => decide (getT T n = some (.lst xs))
theorem still_of {T : Tab} {src : Option (Nat × List Val)} (h : stillV T src = true) : still T src := by
  cases src with
  | none => trivial
  | some p =>
    obtain ⟨n, xs⟩ := p
    simp only [stillV, decide_eq_true_eq] at h
    exact h
@[simp] noncomputable def loopE (src : Option (Nat × List Val)) (step : Val → Slots → Tab → Out) : List Val → Slots → Tab → Out
  | [], sl, T => if stillV T src = true then .nx sl T else .no
  | x :: r, sl, T => if stillV T src = true then match step x sl T with
    | .nx sl T => loopE src step r sl T
    | .ct sl T => loopE src step r sl T
    | .bk sl T => .nx sl T
    | .rt v T => .rt v T
    | .ex x T => .ex x T
    | .no => .no
   else .no
theorem loopE_ok {src : Option (Nat × List Val)} {step : Val → Slots → Tab → Out} {stp : Val → DS} (hs : ∀ x sl T D, (step x sl T).post D → stp x D sl T) : ∀ {xs : List Val} {sl : Slots} {T : Tab} {D : DEnds}, (loopE src step xs sl T).post D → loopW src stp xs D sl T
  | [], sl, T, D, h => by
    unfold loopE at h
    split at h
    · rename_i e; exact ⟨still_of e, h⟩
    · exact h.elim
  | x :: r, sl, T, D, h => by
    unfold loopE at h
    split at h
    · rename_i e
      refine ⟨still_of e, hs _ _ _ _ ?_⟩
      split at h
      · rename_i e2; rw [e2]; exact loopE_ok hs h
      · rename_i e2; rw [e2]; exact loopE_ok hs h
      · rename_i e2; rw [e2]; exact h
      · rename_i e2; rw [e2]; exact h
      · rename_i e2; rw [e2]; exact h
      · exact h.elim
    · exact h.elim
@[simp] noncomputable def compE (src : Option (Nat × List Val)) (step : Val → Tab → Rs (Option Val)) : List Val → List Val → Tab → Rs (List Val)
  | [], acc, T => if stillV T src = true then .ok acc T else .no
  | x :: r, acc, T => if stillV T src = true then match step x T with
    | .ok (some v) T1 => if acc.length < sizeLine then compE src step r (acc ++ [v]) T1 else .no
    | .ok none T1 => compE src step r acc T1
    | _ => .no
   else .no
theorem compE_ok {src : Option (Nat × List Val)} {step : Val → Tab → Rs (Option Val)} {stp : Val → Tab → (Option Val → Tab → Prop) → Prop} (hs : ∀ x T k, (step x T).post k (fun _ _ => False) → stp x T k) {k : List Val → Tab → Prop} {X : XC} : ∀ {xs acc : List Val} {T : Tab}, (compE src step xs acc T).post k X → compW src stp xs acc T k
  | [], acc, T, h => by
    unfold compE at h
    split at h
    · rename_i e; exact ⟨still_of e, h⟩
    · exact h.elim
  | x :: r, acc, T, h => by
    unfold compE at h
    split at h
    · rename_i e
      refine ⟨still_of e, hs _ _ _ ?_⟩
      split at h
      · rename_i e2
        rw [e2]
        split at h
        · rename_i hl; exact ⟨hl, compE_ok hs h⟩
        · exact h.elim
      · rename_i e2; rw [e2]; exact compE_ok hs h
      · exact h.elim
    · exact h.elim
@[simp] noncomputable def compOE (src : Option (Nat × List Val)) (step : Val → List Val → Tab → Rs (List Val)) : List Val → List Val → Tab → Rs (List Val)
  | [], acc, T => if stillV T src = true then .ok acc T else .no
  | x :: r, acc, T => if stillV T src = true then match step x acc T with
    | .ok acc1 T1 => compOE src step r acc1 T1
    | _ => .no
   else .no
theorem compOE_ok {src : Option (Nat × List Val)} {step : Val → List Val → Tab → Rs (List Val)} {stp : Val → List Val → Tab → (List Val → Tab → Prop) → Prop} (hs : ∀ x acc T k, (step x acc T).post k (fun _ _ => False) → stp x acc T k) {k : List Val → Tab → Prop} {X : XC} : ∀ {xs acc : List Val} {T : Tab}, (compOE src step xs acc T).post k X → compO src stp xs acc T k
  | [], acc, T, h => by
    unfold compOE at h
    split at h
    · rename_i e; exact ⟨still_of e, h⟩
    · exact h.elim
  | x :: r, acc, T, h => by
    unfold compOE at h
    split at h
    · rename_i e
      refine ⟨still_of e, hs _ _ _ _ ?_⟩
      split at h
      · rename_i e2
        rw [e2]
        exact compOE_ok hs h
      · exact h.elim
    · exact h.elim
def whileE (c : Slots → Tab → Rs Bool) (b : Slots → Tab → Out) : Nat → Slots → Tab → Out
  | 0, _, _ => .no
  | n + 1, sl, T => (c sl T).out fun t T1 => if t = true then match b sl T1 with
    | .nx sl T => whileE c b n sl T
    | .ct sl T => whileE c b n sl T
    | .bk sl T => .nx sl T
    | .rt v T => .rt v T
    | .ex x T => .ex x T
    | .no => .no
   else .nx sl T1
theorem whileE_ok {c : Slots → Tab → Rs Bool} {b : Slots → Tab → Out} {cw : XC → Slots → Tab → (Bool → Tab → Prop) → Prop} {bw : DS} (hc : ∀ sl T k X, (c sl T).post k X → cw X sl T k) (hb : ∀ sl T D, (b sl T).post D → bw D sl T) : ∀ {n : Nat} {sl : Slots} {T : Tab} {D : DEnds}, (whileE c b n sl T).post D → whileW (cw D.xc) bw n D sl T
  | 0, sl, T, D, h => h.elim
  | n + 1, sl, T, D, h => by
    unfold whileE at h
    have h := Rs.post_out h
    refine hc _ _ _ _ (Rs.post_mono (fun t T1 q => ?_) h)
    split at q
    · rename_i et
      rw [if_pos et]
      refine hb _ _ _ ?_
      split at q
      · rename_i e2; rw [e2]; exact whileE_ok hc hb q
      · rename_i e2; rw [e2]; exact whileE_ok hc hb q
      · rename_i e2; rw [e2]; exact q
      · rename_i e2; rw [e2]; exact q
      · rename_i e2; rw [e2]; exact q
      · exact q.elim
    · rename_i et
      rw [if_neg et]
      exact q
/-- (a, *b) -/
noncomputable def tupSV (v u : Val) : Option Val := match v, u with
  | .d x, .d (.tuple xs) => gd (xs.length < sizeLine) (.d (.tuple (x :: xs)))
  | .d x, .d (.list xs) => gd (xs.length < sizeLine) (.d (.tuple (x :: xs)))
  | _, _ => none
def fnOf (o : Option Val) (tb : List (Str × Nat)) : Option Nat := match o with
  | some (.fn x) => tb.lookup x
  | _ => none
noncomputable def tstV (T : Tab) (t : Option Val) : Option Bool := match t with
  | none => some true
  | some t => truV T t
/-! ### terms -/
mutual
@[simp] noncomputable def evE (P : PEnv) : E → Slots → Tab → Rs Val
  | .var i, sl, T => Rs.ofO (getS sl i) T
  | .cst x, _, T => .ok (.d x) T
  | .glb n, _, T => .ok (.d (P.globs n)) T
  | .tup es, sl, T => (evEs P es sl T).bind fun vs T1 => match dats vs with
    | some ds => if ds.length ≤ sizeLine then .ok (.d (.tuple ds)) T1 else .no
    | none => .no
  | .lst es, sl, T => (evEs P es sl T).bind fun vs T1 => match dats vs with
    | some ds => if ds.length ≤ sizeLine then .ok (.d (.list ds)) T1 else .no
    | none => .no
  | .lstO es, sl, T => (evEs P es sl T).bind fun vs T1 => if vs.length ≤ sizeLine then .ok (.ob T1.length) (T1 ++ [.lst vs]) else .no
  | .bin o a b, sl, T => (evE P a sl T).bind fun v T1 => (evE P b sl T1).bind fun u T2 => Rs.ofO (bin2 o T2 v u) T2
  | .cmp o a b, sl, T => (evE P a sl T).bind fun v T1 => (evE P b sl T1).bind fun u T2 => Rs.ofO ((cmp2 o T2 v u).map fun b => .d (.bool b)) T2
  | .chain o o' a b c, sl, T => (evE P a sl T).bind fun v T1 => (evE P b sl T1).bind fun u T2 => match cmp2 o T2 v u with
    | some t => if t = true then (evE P c sl T2).bind fun w T3 => Rs.ofO ((cmp2 o' T3 u w).map fun b => .d (.bool b)) T3 else .ok (.d (.bool false)) T2
    | none => .no
  | .neg a, sl, T => (evE P a sl T).bind fun v T1 => match v with
    | .d (.int i) => .ok (.d (.int (-i))) T1
    | _ => .no
  | .not a, sl, T => (evE P a sl T).bind fun v T1 => Rs.ofO ((truV T1 v).map fun b => .d (.bool (!b))) T1
  | .and a b, sl, T => (evE P a sl T).bind fun v T1 => match truV T1 v with
    | some t => if t = true then evE P b sl T1 else .ok v T1
    | none => .no
  | .or a b, sl, T => (evE P a sl T).bind fun v T1 => match truV T1 v with
    | some t => if t = true then .ok v T1 else evE P b sl T1
    | none => .no
  | .ife c a b, sl, T => (evE P c sl T).bind fun v T1 => match truV T1 v with
    | some t => if t = true then evE P a sl T1 else evE P b sl T1
    | none => .no
  | .idx a i, sl, T => (evE P a sl T).bind fun v T1 => (evE P i sl T1).bind fun u T2 => Rs.ofO (idxV T2 v u) T2
  | .slc a lo hi, sl, T => (evE P a sl T).bind fun v T1 => (evO P lo sl T1).bind fun l T2 => match optI l with
    | some l => (evO P hi sl T2).bind fun h T3 => match optI h with
      | some h => Rs.ofO (slcV T3 v l h) T3
      | none => .no
    | none => .no
  | .isi a ts, sl, T => (evE P a sl T).bind fun v T1 => Rs.ofO ((tyName T1 v).map fun t => .d (.bool (isTy t ts))) T1
  | .bi f es, sl, T => (evEs P es sl T).bind fun vs T1 => Rs.ofO (biV f T1 vs) T1
  | .mt f o es, sl, T => (evE P o sl T).bind fun v T1 => if mtB f T1 v = true then (evEs P es sl T1).bind fun vs T2 => match mtV f T2 v vs with
    | some p => .ok p.1 p.2
    | none => .no
   else .no
  | .call f es, sl, T => (evEs P es sl T).bind fun vs T1 => callV (P.fn f) vs T1
  | .call0 f, _, T => Rs.noX (callV (P.fn f) [] T)
  | .callK _ f pm es ks, sl, T => (evEs P es sl T).bind fun vs T1 => (evEs P ks sl T1).bind fun ws T2 => callV (P.fn f) (vs ++ prm pm ws) T2
  | .tupS a b, sl, T => (evE P a sl T).bind fun v T1 => (evE P b sl T1).bind fun u T2 => Rs.ofO (tupSV v u) T2
  | .fnv x, _, T => .ok (.fn x) T
  | .callV i tb es, sl, T => match fnOf (getS sl i) tb with
    | some f => (evEs P es sl T).bind fun vs T1 => callV (P.fn f) vs T1
    | none => .no
  | .dgt a i, sl, T => (evE P a sl T).bind fun v T1 => (evE P i sl T1).bind fun u T2 => match dicV T2 v, keyV u with
    | some p, some k => Rs.ofO (kvG p.2 k) T2
    | _, _ => .no
  | .get2 o k d, sl, T => (evE P o sl T).bind fun v T1 => match dicV T1 v with
    | some _ => (evE P k sl T1).bind fun u T2 => (evE P d sl T2).bind fun w T3 => match dicV T3 v, keyV u with
      | some p, some k => .ok ((kvG p.2 k).getD w) T3
      | _, _ => .no
    | none => .no
  | .kin neg k d, sl, T => (evE P k sl T).bind fun u T1 => (evE P d sl T1).bind fun v T2 => match dicV T2 v, keyV u with
    | some p, some k => .ok (.d (.bool (neg ^^ (kvG p.2 k).isSome))) T2
    | _, _ => .no
  | .dicO ks es, sl, T => (evEs P es sl T).bind fun vs T1 => .ok (.ob T1.length) (T1 ++ [.dic (zipK ks vs)])
  | .caught cc e, sl, T => match evE P e sl T with
    | .ok _ T1 => .ok (.d .none) T1
    | .ex x T1 => if P.sub x.cls cc = some true then .ok (.ex x) T1 else .no
    | .no => .no
  | .isx a c, sl, T => (evE P a sl T).bind fun v T1 => Rs.ofO ((isxV P.sub c T1 v).map fun b => .d (.bool b)) T1
  | .dct0, _, T => .ok (.d (.dict [])) T
  | .mkl a, sl, T => (evE P a sl T).bind fun v T1 => match itemsV T1 v with
    | some p => if isStrV v = false then .ok (.ob T1.length) (T1 ++ [.lst p.1]) else .no
    | none => .no
  | .comp own elt p it c live, sl, T => (evI P it sl T).bind fun p0 T1 => (compE p0.2 (fun x T => match patV p x (wipeS sl own) with
      | some sl1 => (evO P c sl1 T).bind fun t T1 => match t with
        | none => (evE P elt sl1 T1).bind fun v T2 => .ok (some v) T2
        | some t => match truV T1 t with
          | some b => if b = true then (evE P elt sl1 T1).bind fun v T2 => .ok (some v) T2 else .ok none T1
          | none => .no
      | none => .no) p0.1 [] T1).bind fun ys T2 => match live with
        | true => .ok (.ob T2.length) (T2 ++ [.lst ys])
        | false => match dats ys with
          | some ds => .ok (.d (.list ds)) T2
          | none => .no
  | .comp2 own elt p it c own1 p1 it1 c1 live, sl, T => (evI P it sl T).bind fun p0 T1 => (compOE p0.2 (fun x acc T => match patV p x (wipeS sl own) with
      | some sl1 => (evO P c sl1 T).bind fun t T1 => match tstV T1 t with
        | some b => if b = true then (evI P it1 sl1 T1).bind fun p2 T2 => compE p2.2 (fun y T => match patV p1 y (wipeS sl1 own1) with
            | some sl2 => (evO P c1 sl2 T).bind fun t T1 => match t with
              | none => (evE P elt sl2 T1).bind fun v T2 => .ok (some v) T2
              | some t => match truV T1 t with
                | some b => if b = true then (evE P elt sl2 T1).bind fun v T2 => .ok (some v) T2 else .ok none T1
                | none => .no
            | none => .no) p2.1 acc T2 else .ok acc T1
        | none => .no
      | none => .no) p0.1 [] T1).bind fun ys T2 => match live with
        | true => .ok (.ob T2.length) (T2 ++ [.lst ys])
        | false => match dats ys with
          | some ds => .ok (.d (.list ds)) T2
          | none => .no
  | .frz a, sl, T => (evE P a sl T).bind fun v T1 => match v with
    | .ob n => match getT T1 n with
      | some (.lst xs) => match dats xs with
        | some ds => .ok (.d (.list ds)) (setT T1 n .dead)
        | none => .no
      | _ => .no
    | v => .ok v T1
  | .fld a f c, sl, T => (evE P a sl T).bind fun v T1 => Rs.ofO ((fldV c f v).map .d) T1
@[simp] noncomputable def evEs (P : PEnv) : Es → Slots → Tab → Rs (List Val)
  | .nil, _, T => .ok [] T
  | .cons e r, sl, T => (evE P e sl T).bind fun v T1 => (evEs P r sl T1).bind fun vs T2 => .ok (v :: vs) T2
@[simp] noncomputable def evO (P : PEnv) : Oe → Slots → Tab → Rs (Option Val)
  | .none, _, T => .ok none T
  | .some e, sl, T => (evE P e sl T).bind fun v T1 => .ok (some v) T1
@[simp] noncomputable def evI (P : PEnv) : Itr → Slots → Tab → Rs (List Val × Option (Nat × List Val))
  | .seq a, sl, T => (evE P a sl T).bind fun v T1 => Rs.ofO (itemsV T1 v) T1
  | .rng1 a, sl, T => (evE P a sl T).bind fun v T1 => match v with
    | .d (.int j) => if -(2 ^ 62) ≤ j ∧ j < 2 ^ 62 then .ok (rangeL 0 j.toNat, none) T1 else .no
    | _ => .no
  | .rng2 a b, sl, T => (evE P a sl T).bind fun v T1 => (evE P b sl T1).bind fun u T2 => match v, u with
    | .d (.int i), .d (.int j) => if -(2 ^ 62) ≤ i ∧ i < 2 ^ 62 ∧ -(2 ^ 62) ≤ j ∧ j < 2 ^ 62 then .ok (rangeL i (j - i).toNat, none) T2 else .no
    | _, _ => .no
  | .rng3 _ _ _, _, _ => .no
  | .enum a, sl, T => (evE P a sl T).bind fun v T1 => match v with
    | .d (.list xs) => .ok (enumL 0 (dv xs), none) T1
    | .ob n => match getT T1 n with
      | some (.lst xs) => if allD xs = true then .ok (enumL 0 xs, some (n, xs)) T1 else .no
      | _ => .no
    | _ => .no
  | .zip a b, sl, T => (evE P a sl T).bind fun v T1 => (evE P b sl T1).bind fun u T2 => match v, u with
    | .d (.list xs), .d (.list ys) => .ok (zipL (dv xs) (dv ys), none) T2
    | .d (.tuple xs), .d (.tuple ys) => .ok (zipL (dv xs) (dv ys), none) T2
    | _, _ => .no
end
mutual
@[simp] noncomputable def evS (P : PEnv) : S → Slots → Tab → Out
  | .set p e, sl, T => (evE P e sl T).out fun v T1 => match patV p v sl with
    | some sl1 => .nx sl1 T1
    | none => .no
  | .par is es, sl, T => (evEs P es sl T).out fun vs T1 => match parW is vs sl with
    | some sl1 => .nx sl1 T1
    | none => .no
  | .put _ _ _, _, _ => .no
  | .dput o i e, sl, T => (evE P e sl T).out fun v T1 => (evE P o sl T1).out fun x T2 => (evE P i sl T2).out fun y T3 => match dicV T3 x, keyV y with
    | some p, some k => if p.2.length < sizeLine then .nx sl (setT T3 p.1 (.dic (kvP p.2 k v))) else .no
    | _, _ => .no
  | .exp e, sl, T => (evE P e sl T).out fun _ T1 => .nx sl T1
  | .ite c a b, sl, T => (evE P c sl T).out fun v T1 => match truV T1 v with
    | some t => if t = true then evSs P a sl T1 else evSs P b sl T1
    | none => .no
  | .whl c b, sl, T => whileE (fun sl T => (evE P c sl T).bind fun v T1 => Rs.ofO (truV T1 v) T1) (fun sl T => evSs P b sl T) P.fuel sl T
  | .loop p it b, sl, T => (evI P it sl T).out fun p0 T1 => loopE p0.2 (fun x sl T => match patV p x sl with
    | some sl1 => evSs P b sl1 T
    | none => .no) p0.1 sl T1
  | .ret e, sl, T => (evE P e sl T).out fun v T1 => .rt v T1
  | .retN, _, T => .rt (.d .none) T
  | .brk, sl, T => .bk sl T
  | .cnt, sl, T => .ct sl T
  | .pass, sl, T => .nx sl T
  | .never, _, _ => .no
  | .raiseX c, _, T => .ex ⟨c, []⟩ T
  | .raise c ps es, sl, T => (evEs P es sl T).out fun vs T1 => match dats vs with
    | some ds => if ps.length = ds.length then .ex ⟨c, (ps.zip ds).reverse⟩ T1 else .no
    | none => .no
@[simp] noncomputable def evSs (P : PEnv) : Ss → Slots → Tab → Out
  | .nil, sl, T => .nx sl T
  | .cons s r, sl, T => (evS P s sl T).seq fun sl T => evSs P r sl T
end
end
end DL
namespace DL
open PySem PySem.Spec PyProof.Rows L2
theorem ofO_post {α : Type} {o : Option α} {T : Tab} {Q : α → Tab → Prop} {X : DX → Tab → Prop} {G : Prop} (h : (Rs.ofO o T).post Q X) (k : ∀ a, o = some a → Q a T → G) : G := by
  obtain ⟨a, e, q⟩ := Rs.post_ofO h
  exact k a e q
theorem ofM_post {α β : Type} {o : Option α} {f : α → β} {T : Tab} {Q : β → Tab → Prop} {X : DX → Tab → Prop} {G : Prop} (h : (Rs.ofO (o.map f) T).post Q X) (k : ∀ a, o = some a → Q (f a) T → G) : G := by
  obtain ⟨a, e, q⟩ := Rs.post_ofO h
  obtain ⟨b, e2, rfl⟩ := Option.map_eq_some_iff.mp e
  exact k b e2 q
theorem isxW_of {sub : Str → Str → Option Bool} {c : Str} {T : Tab} {v : Val} {b : Bool} {k : Bool → Prop} (h : isxV sub c T v = some b) (q : k b) : isxW sub c T v k := isxV_ok h q
section
variable {Γ : DL.Env} {P : PEnv}
theorem tupSV_ok {v u z : Val} {Q : VC} {T : Tab} (h : tupSV v u = some z) (q : Q z T) : (match (generalizing := false) v, u with
    | .d x, .d (.tuple xs) => xs.length < sizeLine ∧ Q (.d (.tuple (x :: xs))) T
    | .d x, .d (.list xs) => xs.length < sizeLine ∧ Q (.d (.tuple (x :: xs))) T
    | _, _ => False) := by
  unfold tupSV at h
  split at h
  · obtain ⟨h1, rfl⟩ := gd_ok h; exact ⟨h1, q⟩
  · obtain ⟨h1, rfl⟩ := gd_ok h; exact ⟨h1, q⟩
  · cases h
theorem fnOf_some {o : Option Val} {tb : List (Str × Nat)} {f : Nat} (h : fnOf o tb = some f) : ∃ x, o = some (.fn x) ∧ tb.lookup x = some f := by
  unfold fnOf at h
  split at h
  · exact ⟨_, rfl, h⟩
  · cases h
theorem tstV_ok {T : Tab} {t : Option Val} {b : Bool} {k : Bool → Prop} (h : tstV T t = some b) (q : k b) : tstW T t k := by
  unfold tstV at h
  unfold tstW
  cases t with
  | none => cases h; exact q
  | some t => exact truV_ok h q
mutual
theorem sndE (hΓ : EnvOk Γ P) : ∀ (e : E) (sl : Slots) (T : Tab) (Q : VC) (X : XC), (evE P e sl T).post Q X → wpE Γ e sl T Q X
  | .var i, sl, T, Q, X, h => by
    simp only [evE] at h
    refine ofO_post h fun v e q => ?_
    simp only [wpE, e]
    exact q
  | .cst x, sl, T, Q, X, h => by
    simp only [evE] at h
    simp only [wpE]
    exact h
  | .glb n, sl, T, Q, X, h => by
    simp only [evE] at h
    simp only [wpE, hΓ.globs]
    exact h
  | .tup es, sl, T, Q, X, h => by
    simp only [evE] at h
    simp only [wpE]
    refine sndEs hΓ es _ _ _ _ (Rs.post_mono (fun vs T1 q => ?_) (Rs.post_bind h))
    split at q
    · rename_i ds e
      rw [e]
      split at q
      · rename_i hl; exact ⟨hl, q⟩
      · exact q.elim
    · exact q.elim
  | .lst es, sl, T, Q, X, h => by
    simp only [evE] at h
    simp only [wpE]
    refine sndEs hΓ es _ _ _ _ (Rs.post_mono (fun vs T1 q => ?_) (Rs.post_bind h))
    split at q
    · rename_i ds e
      rw [e]
      split at q
      · rename_i hl; exact ⟨hl, q⟩
      · exact q.elim
    · exact q.elim
  | .lstO es, sl, T, Q, X, h => by
    simp only [evE] at h
    simp only [wpE]
    refine sndEs hΓ es _ _ _ _ (Rs.post_mono (fun vs T1 q => ?_) (Rs.post_bind h))
    split at q
    · rename_i hl; exact ⟨hl, q⟩
    · exact q.elim
  | .bin o a b, sl, T, Q, X, h => by
    simp only [evE] at h
    simp only [wpE]
    refine sndE hΓ a _ _ _ _ (Rs.post_mono (fun v T1 q => ?_) (Rs.post_bind h))
    refine sndE hΓ b _ _ _ _ (Rs.post_mono (fun u T2 q => ?_) (Rs.post_bind q))
    exact ofO_post q fun z e q => bin2_ok e q
  | .cmp o a b, sl, T, Q, X, h => by
    simp only [evE] at h
    simp only [wpE]
    refine sndE hΓ a _ _ _ _ (Rs.post_mono (fun v T1 q => ?_) (Rs.post_bind h))
    refine sndE hΓ b _ _ _ _ (Rs.post_mono (fun u T2 q => ?_) (Rs.post_bind q))
    exact ofM_post q fun z e q => cmp2_ok e q
  | .chain o o' a b c, sl, T, Q, X, h => by
    simp only [evE] at h
    simp only [wpE]
    refine sndE hΓ a _ _ _ _ (Rs.post_mono (fun v T1 q => ?_) (Rs.post_bind h))
    refine sndE hΓ b _ _ _ _ (Rs.post_mono (fun u T2 q => ?_) (Rs.post_bind q))
    split at q
    · rename_i t e
      refine cmp2_ok e ?_
      cases t with
      | true =>
        rw [if_pos rfl] at q
        refine sndE hΓ c _ _ _ _ (Rs.post_mono (fun w T3 q => ?_) (Rs.post_bind q))
        exact ofM_post q fun z e q => cmp2_ok e q
      | false =>
        rw [if_neg Bool.false_ne_true] at q
        exact q
    · exact q.elim
  | .neg a, sl, T, Q, X, h => by
    simp only [evE] at h
    simp only [wpE]
    refine sndE hΓ a _ _ _ _ (Rs.post_mono (fun v T1 q => ?_) (Rs.post_bind h))
    split at q
    · exact q
    · exact q.elim
  | .not a, sl, T, Q, X, h => by
    simp only [evE] at h
    simp only [wpE]
    refine sndE hΓ a _ _ _ _ (Rs.post_mono (fun v T1 q => ?_) (Rs.post_bind h))
    exact ofM_post q fun z e q => truV_ok e q
  | .and a b, sl, T, Q, X, h => by
    simp only [evE] at h
    simp only [wpE]
    refine sndE hΓ a _ _ _ _ (Rs.post_mono (fun v T1 q => ?_) (Rs.post_bind h))
    split at q
    · rename_i t e
      refine truV_ok e ?_
      cases t with
      | true => rw [if_pos rfl] at q ⊢; exact sndE hΓ b _ _ _ _ q
      | false => rw [if_neg Bool.false_ne_true] at q ⊢; exact q
    · exact q.elim
  | .or a b, sl, T, Q, X, h => by
    simp only [evE] at h
    simp only [wpE]
    refine sndE hΓ a _ _ _ _ (Rs.post_mono (fun v T1 q => ?_) (Rs.post_bind h))
    split at q
    · rename_i t e
      refine truV_ok e ?_
      cases t with
      | true => rw [if_pos rfl] at q ⊢; exact q
      | false => rw [if_neg Bool.false_ne_true] at q ⊢; exact sndE hΓ b _ _ _ _ q
    · exact q.elim
  | .ife c a b, sl, T, Q, X, h => by
    simp only [evE] at h
    simp only [wpE]
    refine sndE hΓ c _ _ _ _ (Rs.post_mono (fun v T1 q => ?_) (Rs.post_bind h))
    split at q
    · rename_i t e
      refine truV_ok e ?_
      cases t with
      | true => rw [if_pos rfl] at q ⊢; exact sndE hΓ a _ _ _ _ q
      | false => rw [if_neg Bool.false_ne_true] at q ⊢; exact sndE hΓ b _ _ _ _ q
    · exact q.elim
  | .idx a i, sl, T, Q, X, h => by
    simp only [evE] at h
    simp only [wpE]
    refine sndE hΓ a _ _ _ _ (Rs.post_mono (fun v T1 q => ?_) (Rs.post_bind h))
    refine sndE hΓ i _ _ _ _ (Rs.post_mono (fun u T2 q => ?_) (Rs.post_bind q))
    exact ofO_post q fun z e q => idxV_ok e q
  | .slc a lo hi, sl, T, Q, X, h => by
    simp only [evE] at h
    simp only [wpE]
    refine sndE hΓ a _ _ _ _ (Rs.post_mono (fun v T1 q => ?_) (Rs.post_bind h))
    refine sndO hΓ lo _ _ _ _ (Rs.post_mono (fun l T2 q => ?_) (Rs.post_bind q))
    split at q
    · rename_i l' e
      rw [e]
      refine sndO hΓ hi _ _ _ _ (Rs.post_mono (fun l T2 q => ?_) (Rs.post_bind q))
      split at q
      · rename_i h' e
        rw [e]
        exact ofO_post q fun z e q => slcV_ok e q
      · exact q.elim
    · exact q.elim
  | .isi a ts, sl, T, Q, X, h => by
    simp only [evE] at h
    simp only [wpE]
    refine sndE hΓ a _ _ _ _ (Rs.post_mono (fun v T1 q => ?_) (Rs.post_bind h))
    refine ofM_post q fun z e q => ?_
    rw [e]
    exact q
  | .bi f es, sl, T, Q, X, h => by
    simp only [evE] at h
    simp only [wpE]
    refine sndEs hΓ es _ _ _ _ (Rs.post_mono (fun v T1 q => ?_) (Rs.post_bind h))
    exact ofO_post q fun z e q => biV_ok e q
  | .mt f o es, sl, T, Q, X, h => by
    simp only [evE] at h
    simp only [wpE]
    refine sndE hΓ o _ _ _ _ (Rs.post_mono (fun v T1 q => ?_) (Rs.post_bind h))
    split at q
    · rename_i em
      refine ⟨em, sndEs hΓ es _ _ _ _ (Rs.post_mono (fun v T1 q => ?_) (Rs.post_bind q))⟩
      split at q
      · rename_i p e
        exact mtV_ok e q
      · exact q.elim
    · exact q.elim
  | .call f es, sl, T, Q, X, h => by
    simp only [evE] at h
    simp only [wpE]
    refine sndEs hΓ es _ _ _ _ (Rs.post_mono (fun v T1 q => ?_) (Rs.post_bind h))
    exact callV_ok (hΓ.calls f) q
  | .call0 f, sl, T, Q, X, h => by
    simp only [evE] at h
    simp only [wpE]
    exact callV_ok (hΓ.calls f) (Rs.post_noX h)
  | .callK _ f pm es ks, sl, T, Q, X, h => by
    simp only [evE] at h
    simp only [wpE]
    refine sndEs hΓ es _ _ _ _ (Rs.post_mono (fun v T1 q => ?_) (Rs.post_bind h))
    refine sndEs hΓ ks _ _ _ _ (Rs.post_mono (fun v T1 q => ?_) (Rs.post_bind q))
    exact callV_ok (hΓ.calls f) q
  | .tupS a b, sl, T, Q, X, h => by
    simp only [evE] at h
    simp only [wpE]
    refine sndE hΓ a _ _ _ _ (Rs.post_mono (fun v T1 q => ?_) (Rs.post_bind h))
    refine sndE hΓ b _ _ _ _ (Rs.post_mono (fun u T2 q => ?_) (Rs.post_bind q))
    exact ofO_post q fun z e q => tupSV_ok e q
  | .fnv x, sl, T, Q, X, h => by
    simp only [evE] at h
    simp only [wpE]
    exact h
  | .callV i tb es, sl, T, Q, X, h => by
    simp only [evE] at h
    simp only [wpE]
    cases e : fnOf (getS sl i) tb with
    | none => rw [e] at h; exact h.elim
    | some f =>
      rw [e] at h
      obtain ⟨x, e1, e2⟩ := fnOf_some e
      rw [e1]
      simp only [e2]
      exact sndEs hΓ es _ _ _ _ (Rs.post_mono (fun v T1 q => callV_ok (hΓ.calls f) q) (Rs.post_bind h))
  | .comp2 own elt p it c own1 p1 it1 c1 live, sl, T, Q, X, h => by
    simp only [evE] at h
    simp only [wpE]
    refine sndI hΓ it _ _ _ _ (Rs.post_mono (fun p0 T1 q => ?_) (Rs.post_bind h))
    have q := Rs.post_bind q
    refine compOE_ok (X := X) (fun x acc T k q => ?_) (Rs.post_mono (fun ys T2 q => ?_) q)
    · cases e : patV p x (wipeS sl own) with
      | none => rw [e] at q; exact q.elim
      | some sl1 =>
        rw [e] at q
        refine patV_ok p e ?_
        refine sndO hΓ c _ _ _ _ (Rs.post_mono (fun t T1 q => ?_) (Rs.post_bind q))
        cases eb : tstV T1 t with
        | none => rw [eb] at q; exact q.elim
        | some b =>
          rw [eb] at q
          refine tstV_ok eb ?_
          cases b with
          | false => simp only [Bool.false_eq_true, if_false] at q ⊢; exact q
          | true =>
            simp only [if_true] at q ⊢
            refine sndI hΓ it1 _ _ _ _ (Rs.post_mono (fun p2 T2 q => ?_) (Rs.post_bind q))
            refine compE_ok (X := fun _ _ => False) (fun y T k q => ?_) q
            cases e : patV p1 y (wipeS sl1 own1) with
            | none => rw [e] at q; exact q.elim
            | some sl2 =>
              rw [e] at q
              refine patV_ok p1 e ?_
              refine sndO hΓ c1 _ _ _ _ (Rs.post_mono (fun t T1 q => ?_) (Rs.post_bind q))
              cases t with
              | none => exact sndE hΓ elt _ _ _ _ (Rs.post_mono (fun v T2 q => q) (Rs.post_bind q))
              | some t =>
                simp only at q
                split at q
                · rename_i b e
                  refine truV_ok e ?_
                  cases b with
                  | true => rw [if_pos rfl] at q ⊢; exact sndE hΓ elt _ _ _ _ (Rs.post_mono (fun v T2 q => q) (Rs.post_bind q))
                  | false => rw [if_neg Bool.false_ne_true] at q ⊢; exact q
                · exact q.elim
    · cases live with
      | true => exact q
      | false =>
        simp only at q
        simp only
        split at q
        · rename_i ds e; first | (rw [e]; exact q) | exact q
        · exact q.elim
  | .dgt a i, sl, T, Q, X, h => by
    simp only [evE] at h
    simp only [wpE]
    refine sndE hΓ a _ _ _ _ (Rs.post_mono (fun v T1 q => ?_) (Rs.post_bind h))
    refine sndE hΓ i _ _ _ _ (Rs.post_mono (fun u T2 q => ?_) (Rs.post_bind q))
    split at q
    · rename_i p k e1 e2
      refine dicV_ok e1 ?_
      rw [e2]
      refine ofO_post q fun z e q => ?_
      simp only [e]
      exact q
    · exact q.elim
  | .get2 o k d, sl, T, Q, X, h => by
    simp only [evE] at h
    simp only [wpE]
    refine sndE hΓ o _ _ _ _ (Rs.post_mono (fun v T1 q => ?_) (Rs.post_bind h))
    split at q
    · rename_i p0 e0
      refine dicV_ok e0 ?_
      refine sndE hΓ k _ _ _ _ (Rs.post_mono (fun u T2 q => ?_) (Rs.post_bind q))
      refine sndE hΓ d _ _ _ _ (Rs.post_mono (fun w T3 q => ?_) (Rs.post_bind q))
      split at q
      · rename_i p k e1 e2
        refine dicV_ok e1 ?_
        rw [e2]
        cases e : kvG p.2 k with
        | none => simp only [e]; rw [e] at q; exact q
        | some x => simp only [e]; rw [e] at q; exact q
      · exact q.elim
    · exact q.elim
  | .kin neg k d, sl, T, Q, X, h => by
    simp only [evE] at h
    simp only [wpE]
    refine sndE hΓ k _ _ _ _ (Rs.post_mono (fun v T1 q => ?_) (Rs.post_bind h))
    refine sndE hΓ d _ _ _ _ (Rs.post_mono (fun u T2 q => ?_) (Rs.post_bind q))
    split at q
    · rename_i p k e1 e2
      refine dicV_ok e1 ?_
      rw [e2]
      exact q
    · exact q.elim
  | .dicO ks es, sl, T, Q, X, h => by
    simp only [evE] at h
    simp only [wpE]
    exact sndEs hΓ es _ _ _ _ (Rs.post_mono (fun v T1 q => q) (Rs.post_bind h))
  | .caught cc e, sl, T, Q, X, h => by
    simp only [evE] at h
    simp only [wpE]
    refine sndE hΓ e _ _ _ _ ?_
    cases e1 : evE P e sl T with
    | ok v T1 => rw [e1] at h; exact h
    | ex x T1 =>
      rw [e1] at h
      simp only at h
      split at h
      · rename_i es
        rw [hΓ.sub]
        exact ⟨es, h⟩
      · exact h.elim
    | no => rw [e1] at h; exact h.elim
  | .isx a c, sl, T, Q, X, h => by
    simp only [evE] at h
    simp only [wpE, hΓ.sub]
    refine sndE hΓ a _ _ _ _ (Rs.post_mono (fun v T1 q => ?_) (Rs.post_bind h))
    exact ofM_post q fun z e q => isxV_ok e q
  | .dct0, sl, T, Q, X, h => by
    simp only [evE] at h
    simp only [wpE]
    exact h
  | .mkl a, sl, T, Q, X, h => by
    simp only [evE] at h
    simp only [wpE]
    refine sndE hΓ a _ _ _ _ (Rs.post_mono (fun v T1 q => ?_) (Rs.post_bind h))
    split at q
    · rename_i p e
      refine itemsV_ok e ?_
      split at q
      · rename_i e2; exact ⟨e2, q⟩
      · exact q.elim
    · exact q.elim
  | .comp own elt p it c live, sl, T, Q, X, h => by
    simp only [evE] at h
    simp only [wpE]
    refine sndI hΓ it _ _ _ _ (Rs.post_mono (fun p0 T1 q => ?_) (Rs.post_bind h))
    have q := Rs.post_bind q
    refine compE_ok (X := X) (fun x T k q => ?_) (Rs.post_mono (fun ys T2 q => ?_) q)
    · cases e : patV p x (wipeS sl own) with
      | none => rw [e] at q; exact q.elim
      | some sl1 =>
        rw [e] at q
        refine patV_ok p e ?_
        refine sndO hΓ c _ _ _ _ (Rs.post_mono (fun t T1 q => ?_) (Rs.post_bind q))
        cases t with
        | none => exact sndE hΓ elt _ _ _ _ (Rs.post_mono (fun v T2 q => q) (Rs.post_bind q))
        | some t =>
          simp only at q
          split at q
          · rename_i b e
            refine truV_ok e ?_
            cases b with
            | true => rw [if_pos rfl] at q ⊢; exact sndE hΓ elt _ _ _ _ (Rs.post_mono (fun v T2 q => q) (Rs.post_bind q))
            | false => rw [if_neg Bool.false_ne_true] at q ⊢; exact q
          · exact q.elim
    · cases live with
      | true => exact q
      | false =>
        simp only at q
        simp only
        split at q
        · rename_i ds e; rw [e]; exact q
        · exact q.elim
  | .frz a, sl, T, Q, X, h => by
    simp only [evE] at h
    simp only [wpE]
    refine sndE hΓ a _ _ _ _ (Rs.post_mono (fun v T1 q => ?_) (Rs.post_bind h))
    cases v with
    | ob n =>
      simp only at q
      split at q
      · rename_i xs e
        simp only [e]
        split at q
        · rename_i ds e2
          rw [e2]
          exact q
        · exact q.elim
      · exact q.elim
    | _ => exact q
  | .fld a f c, sl, T, Q, X, h => by
    simp only [evE] at h
    simp only [wpE]
    refine sndE hΓ a _ _ _ _ (Rs.post_mono (fun v T1 q => ?_) (Rs.post_bind h))
    obtain ⟨z, e, q⟩ := Rs.post_ofO q
    obtain ⟨y, e2, rfl⟩ := Option.map_eq_some_iff.mp e
    simp only [e2]
    exact q
theorem sndEs (hΓ : EnvOk Γ P) : ∀ (es : Es) (sl : Slots) (T : Tab) (Q : List Val → Tab → Prop) (X : XC), (evEs P es sl T).post Q X → wpEs Γ es sl T Q X
  | .nil, sl, T, Q, X, h => by
    simp only [evEs] at h
    simp only [wpEs]
    exact h
  | .cons e r, sl, T, Q, X, h => by
    simp only [evEs] at h
    simp only [wpEs]
    refine sndE hΓ e _ _ _ _ (Rs.post_mono (fun v T1 q => ?_) (Rs.post_bind h))
    exact sndEs hΓ r _ _ _ _ (Rs.post_mono (fun vs T2 q => q) (Rs.post_bind q))
theorem sndO (hΓ : EnvOk Γ P) : ∀ (e : Oe) (sl : Slots) (T : Tab) (Q : Option Val → Tab → Prop) (X : XC), (evO P e sl T).post Q X → wpO Γ e sl T Q X
  | .none, sl, T, Q, X, h => by
    simp only [evO] at h
    simp only [wpO]
    exact h
  | .some e, sl, T, Q, X, h => by
    simp only [evO] at h
    simp only [wpO]
    exact sndE hΓ e _ _ _ _ (Rs.post_mono (fun vs T2 q => q) (Rs.post_bind h))
theorem sndI (hΓ : EnvOk Γ P) : ∀ (e : Itr) (sl : Slots) (T : Tab) (Q : List Val → Option (Nat × List Val) → Tab → Prop) (X : XC), (evI P e sl T).post (fun p T => Q p.1 p.2 T) X → wpI Γ e sl T Q X
  | .seq a, sl, T, Q, X, h => by
    simp only [evI] at h
    simp only [wpI]
    refine sndE hΓ a _ _ _ _ (Rs.post_mono (fun v T1 q => ?_) (Rs.post_bind h))
    exact ofO_post q fun z e q => itemsV_ok e q
  | .rng1 a, sl, T, Q, X, h => by
    simp only [evI] at h
    simp only [wpI]
    refine sndE hΓ a _ _ _ _ (Rs.post_mono (fun v T1 q => ?_) (Rs.post_bind h))
    split at q
    · split at q
      · rename_i e; exact ⟨e, q⟩
      · exact q.elim
    · exact q.elim
  | .rng2 a b, sl, T, Q, X, h => by
    simp only [evI] at h
    simp only [wpI]
    refine sndE hΓ a _ _ _ _ (Rs.post_mono (fun v T1 q => ?_) (Rs.post_bind h))
    refine sndE hΓ b _ _ _ _ (Rs.post_mono (fun v T1 q => ?_) (Rs.post_bind q))
    split at q
    · split at q
      · rename_i e; exact ⟨e, q⟩
      · exact q.elim
    · exact q.elim
  | .rng3 _ _ _, sl, T, Q, X, h => by
    simp only [evI] at h
    exact h.elim
  | .enum a, sl, T, Q, X, h => by
    simp only [evI] at h
    simp only [wpI]
    refine sndE hΓ a _ _ _ _ (Rs.post_mono (fun v T1 q => ?_) (Rs.post_bind h))
    split at q
    · exact q
    · simp only
      split at q
      · rename_i e
        simp only [e]
        split at q
        · rename_i e2; exact ⟨e2, q⟩
        · exact q.elim
      · exact q.elim
    · exact q.elim
  | .zip a b, sl, T, Q, X, h => by
    simp only [evI] at h
    simp only [wpI]
    refine sndE hΓ a _ _ _ _ (Rs.post_mono (fun v T1 q => ?_) (Rs.post_bind h))
    refine sndE hΓ b _ _ _ _ (Rs.post_mono (fun v T1 q => ?_) (Rs.post_bind q))
    split at q
    · exact q
    · exact q
    · exact q.elim
end
mutual
theorem sndS (hΓ : EnvOk Γ P) : ∀ (s : S) (sl : Slots) (T : Tab) (D : DEnds), (evS P s sl T).post D → wpS Γ s D sl T
  | .set p e, sl, T, D, h => by
    simp only [evS] at h
    simp only [wpS]
    refine sndE hΓ e _ _ _ _ (Rs.post_mono (fun v T1 q => ?_) (Rs.post_out h))
    split at q
    · rename_i e; exact patV_ok p e q
    · exact q.elim
  | .par is es, sl, T, D, h => by
    simp only [evS] at h
    simp only [wpS]
    refine sndEs hΓ es _ _ _ _ (Rs.post_mono (fun v T1 q => ?_) (Rs.post_out h))
    split at q
    · rename_i e; rw [e]; exact q
    · exact q.elim
  | .put _ _ _, sl, T, D, h => by
    simp only [evS] at h
    exact h.elim
  | .dput o i e, sl, T, D, h => by
    simp only [evS] at h
    simp only [wpS]
    refine sndE hΓ e _ _ _ _ (Rs.post_mono (fun v T1 q => ?_) (Rs.post_out h))
    refine sndE hΓ o _ _ _ _ (Rs.post_mono (fun x T2 q => ?_) (Rs.post_out q))
    refine sndE hΓ i _ _ _ _ (Rs.post_mono (fun y T3 q => ?_) (Rs.post_out q))
    split at q
    · rename_i p k e1 e2
      refine dicV_ok e1 ?_
      rw [e2]
      split at q
      · rename_i hl; exact ⟨hl, q⟩
      · exact q.elim
    · exact q.elim
  | .exp e, sl, T, D, h => by
    simp only [evS] at h
    simp only [wpS]
    exact sndE hΓ e _ _ _ _ (Rs.post_mono (fun v T1 q => q) (Rs.post_out h))
  | .ite c a b, sl, T, D, h => by
    simp only [evS] at h
    simp only [wpS]
    refine sndE hΓ c _ _ _ _ (Rs.post_mono (fun v T1 q => ?_) (Rs.post_out h))
    split at q
    · rename_i t e
      refine truV_ok e ?_
      cases t with
      | true => rw [if_pos rfl] at q ⊢; exact sndSs hΓ a _ _ _ q
      | false => rw [if_neg Bool.false_ne_true] at q ⊢; exact sndSs hΓ b _ _ _ q
    · exact q.elim
  | .whl c b, sl, T, D, h => by
    simp only [evS] at h
    simp only [wpS]
    refine ⟨P.fuel, ?_⟩
    refine whileE_ok (cw := fun X sl T k => wpE Γ c sl T (fun v T1 => truW T1 v fun t => k t T1) X) (fun sl T k X q => ?_) (fun sl T D q => sndSs hΓ b sl T D q) h
    refine sndE hΓ c _ _ _ _ (Rs.post_mono (fun v T1 q => ?_) (Rs.post_bind q))
    exact ofO_post q fun z e q => truV_ok e q
  | .loop p it b, sl, T, D, h => by
    simp only [evS] at h
    simp only [wpS]
    refine sndI hΓ it _ _ _ _ (Rs.post_mono (fun p0 T1 q => ?_) (Rs.post_out h))
    refine loopE_ok (fun x sl T D q => ?_) q
    split at q
    · rename_i e
      exact patV_ok p e (sndSs hΓ b _ _ _ q)
    · exact q.elim
  | .ret e, sl, T, D, h => by
    simp only [evS] at h
    simp only [wpS]
    exact sndE hΓ e _ _ _ _ (Rs.post_mono (fun v T1 q => q) (Rs.post_out h))
  | .retN, sl, T, D, h => by
    simp only [evS] at h
    simp only [wpS]
    exact h
  | .brk, sl, T, D, h => by
    simp only [evS] at h
    simp only [wpS]
    exact h
  | .cnt, sl, T, D, h => by
    simp only [evS] at h
    simp only [wpS]
    exact h
  | .pass, sl, T, D, h => by
    simp only [evS] at h
    simp only [wpS]
    exact h
  | .never, sl, T, D, h => by
    simp only [evS] at h
    exact h.elim
  | .raiseX c, sl, T, D, h => by
    simp only [evS] at h
    simp only [wpS]
    exact h
  | .raise c ps es, sl, T, D, h => by
    simp only [evS] at h
    simp only [wpS]
    refine sndEs hΓ es _ _ _ _ (Rs.post_mono (fun vs T1 q => ?_) (Rs.post_out h))
    split at q
    · rename_i ds e
      unfold raiseWF
      rw [e]
      split at q
      · rename_i e2
        exact ⟨e2, q⟩
      · exact q.elim
    · exact q.elim
theorem sndSs (hΓ : EnvOk Γ P) : ∀ (b : Ss) (sl : Slots) (T : Tab) (D : DEnds), (evSs P b sl T).post D → wpSs Γ b D sl T
  | .nil, sl, T, D, h => by
    simp only [evSs] at h
    simp only [wpSs]
    exact h
  | .cons s r, sl, T, D, h => by
    simp only [evSs] at h
    simp only [wpSs]
    refine sndS hΓ s _ _ _ ?_
    have h2 := Out.post_seq h
    exact Out.post_mono (D := { D with nx := fun sl T => (evSs P r sl T).post D }) (fun sl T q => sndSs hΓ r _ _ _ q) h2
end
end
/-- a def, as a function of data -/
def Out.fin : Out → FR
  | .rt (.d r) _ => some (.ok r)
  | .nx _ _ => some (.ok .none)
  | .ex x _ => some (.error x)
  | _ => none
noncomputable def evD (P : PEnv) (b : Ss) (n : Nat) : FN := fun ds => (evSs P b (startS n (dv ds)) []).fin
theorem evD_raw {Γ : DL.Env} {P : PEnv} (hΓ : EnvOk Γ P) {b : Ss} {n : Nat} {f : FN} (h : ∀ ds r, f ds = some r → evD P b n ds = some r) : ∀ vs T Q X, detX f vs T Q X → rawD Γ b n vs T (cutW T.length Q) (cutX T.length X) := by
  rintro vs T Q X ⟨ds, rfl, rfl, q⟩
  unfold rawD
  refine sndSs hΓ b _ _ _ ?_
  cases e : f ds with
  | none => rw [e] at q; exact q.elim
  | some r =>
    have h1 := h ds r e
    rw [e] at q
    unfold evD at h1
    cases e2 : evSs P b (startS n (dv ds)) [] with
    | nx sl T =>
      rw [e2] at h1
      cases h1
      exact cut_0 q
    | rt v T =>
      rw [e2] at h1
      cases v with
      | d x => cases h1; exact cut_0 q
      | _ => cases h1
    | ex x T =>
      rw [e2] at h1
      cases h1
      exact ⟨Nat.zero_le _, rfl, q⟩
    | bk _ _ => rw [e2] at h1; cases h1
    | ct _ _ => rw [e2] at h1; cases h1
    | no => rw [e2] at h1; cases h1
end DL
namespace DL
open PySem PySem.Spec PyProof.Rows L2
/-! ### what simp knows of the evaluator -/
@[simp] theorem rs_bool {c : Prop} [Decidable c] {p q : Bool} {T : Tab} : (if c then Rs.ok (Val.d (.bool p)) T else Rs.ok (Val.d (.bool q)) T) = Rs.ok (Val.d (.bool (if c then p else q))) T := by
  by_cases h : c <;> simp [h]
@[simp] theorem rt_bool {c : Prop} [Decidable c] {p q : Bool} {T : Tab} : (if c then Out.rt (Val.d (.bool p)) T else Out.rt (Val.d (.bool q)) T) = Out.rt (Val.d (.bool (if c then p else q))) T := by
  by_cases h : c <;> simp [h]
@[simp] theorem seq_rt {c : Prop} [Decidable c] {v : Val} {o : Out} {T : Tab} {f : Slots → Tab → Out} : (if c then Out.rt v T else o).seq f = if c then Out.rt v T else o.seq f := by
  by_cases h : c <;> simp [h, Out.seq]
@[simp] theorem seq_ex {c : Prop} [Decidable c] {v : DX} {o : Out} {T : Tab} {f : Slots → Tab → Out} : (if c then Out.ex v T else o).seq f = if c then Out.ex v T else o.seq f := by
  by_cases h : c <;> simp [h, Out.seq]
@[simp] theorem fin_ite {c : Prop} [Decidable c] {a b : Out} : (if c then a else b).fin = if c then a.fin else b.fin := by
  by_cases h : c <;> simp [h]
@[simp] theorem fin_rt {x : PyData} {T : Tab} : (Out.rt (.d x) T).fin = some (.ok x) := rfl
@[simp] theorem fin_nx {sl : Slots} {T : Tab} : (Out.nx sl T).fin = some (.ok .none) := rfl
@[simp] theorem fin_ex {x : DX} {T : Tab} : (Out.ex x T).fin = some (.error x) := rfl
@[simp] theorem fr_bool {c : Prop} [Decidable c] {p q : Bool} : (if c then (some (.ok (.bool p)) : FR) else some (.ok (.bool q))) = some (.ok (.bool (if c then p else q))) := by
  by_cases h : c <;> simp [h]
@[simp] theorem plain_strs' {l : List Str} : plainA (l.map .str) = true := by
  induction l with
  | nil => rfl
  | cons g gs ih => simp [plainA, plainD, ih]
@[simp] theorem eqg_int {x : PyData} {i : Int} : EqG x (.int i) ↔ plainD x = true := by
  unfold EqG EqOk
  constructor
  · rintro (h | h)
    · exact h.1
    · cases x <;> simp [DicStr] at h
  · intro h
    exact .inl ⟨h, rfl, by simp [PyData.depth]⟩
@[simp] theorem eqg_str {x : PyData} {s : Str} : EqG x (.str s) := by
  unfold EqG EqOk
  cases x with
  | dict _ => exact .inr trivial
  | list _ => exact .inr trivial
  | tuple _ => exact .inr trivial
  | _ => exact .inl ⟨rfl, rfl, by simp [PyData.depth]⟩
@[simp] theorem eqok_int {i j : Int} : EqOk (.int i) (.int j) := ⟨rfl, rfl, by simp [PyData.depth]⟩
@[simp] theorem eqok_str {i j : Str} : EqOk (.str i) (.str j) := ⟨rfl, rfl, by simp [PyData.depth]⟩
theorem inok_flat {x : PyData} {ys : List PyData} (hd : x.depth = 0) (hx : plainD x = true) (h : plainA ys = true) : InOk x ys := ⟨hx, h, by rw [hd]; omega⟩
@[simp] theorem inok_str {s : Str} {ys : List PyData} : InOk (.str s) ys ↔ plainA ys = true := ⟨fun h => h.2.1, fun h => inok_flat (by simp [PyData.depth]) rfl h⟩
@[simp] theorem inok_int {s : Int} {ys : List PyData} : InOk (.int s) ys ↔ plainA ys = true := ⟨fun h => h.2.1, fun h => inok_flat (by simp [PyData.depth]) rfl h⟩
@[simp] theorem gd_if {α : Type} {p : Prop} {a : α} (h : p) : gd p a = some a := if_pos h
@[simp] theorem getS_z {x : Option Val} {r : Slots} : getS (x :: r) 0 = x := rfl
@[simp] theorem getS_s {x : Option Val} {r : Slots} {n : Nat} : getS (x :: r) (n + 1) = getS r n := rfl
@[simp] theorem setS_z {x : Option Val} {r : Slots} {v : Option Val} : setS (x :: r) 0 v = v :: r := rfl
@[simp] theorem setS_s {x : Option Val} {r : Slots} {n : Nat} {v : Option Val} : setS (x :: r) (n + 1) v = x :: setS r n v := rfl
@[simp] theorem getT_z {x : Ob} {r : Tab} : getT (x :: r) 0 = some x := rfl
@[simp] theorem getT_s {x : Ob} {r : Tab} {n : Nat} : getT (x :: r) (n + 1) = getT r n := rfl
@[simp] theorem getT_n {n : Nat} : getT [] n = none := rfl
@[simp] theorem setT_z {x : Ob} {r : Tab} {v : Ob} : setT (x :: r) 0 v = v :: r := rfl
@[simp] theorem setT_s {x : Ob} {r : Tab} {n : Nat} {v : Ob} : setT (x :: r) (n + 1) v = x :: setT r n v := rfl
@[simp] theorem dv_nil : dv [] = [] := rfl
@[simp] theorem dv_cons {x : PyData} {r : List PyData} : dv (x :: r) = .d x :: dv r := rfl
@[simp] theorem dats_nil : dats [] = some [] := rfl
@[simp] theorem dats_cons {x : PyData} {r : List Val} : dats (.d x :: r) = (dats r).map (fun l => x :: l) := rfl
@[simp] theorem asD_d {T : Tab} {x : PyData} : asD T (.d x) = some x := rfl
@[simp] theorem startS_eq {n : Nat} {vs : List Val} : startS n vs = vs.map some ++ List.replicate (n - vs.length) none := rfl
@[simp] theorem ty_none {T : Tab} : tyName T (.d .none) = some "NoneType" := rfl
@[simp] theorem ty_bool {T : Tab} {x : Bool} : tyName T (.d (.bool x)) = some "bool" := rfl
@[simp] theorem ty_int {T : Tab} {x : Int} : tyName T (.d (.int x)) = some "int" := rfl
@[simp] theorem ty_str {T : Tab} {x : Str} : tyName T (.d (.str x)) = some "str" := rfl
@[simp] theorem ty_list {T : Tab} {x : List PyData} : tyName T (.d (.list x)) = some "list" := rfl
@[simp] theorem ty_tuple {T : Tab} {x : List PyData} : tyName T (.d (.tuple x)) = some "tuple" := rfl
@[simp] theorem ty_dict {T : Tab} {x : List (PyData × PyData)} : tyName T (.d (.dict x)) = some "dict" := rfl
@[simp] theorem isTy_eq {t : String} {ts : List String} : isTy t ts = ts.any fun u => t == u || (t == "bool" && u == "int") := rfl
@[simp] theorem eqv_int {i j : Int} : PyData.eqv (.int i) (.int j) = (i == j) := by simp [PyData.eqv]
@[simp] theorem eqv_str {i j : Str} : PyData.eqv (.str i) (.str j) = (i == j) := by simp [PyData.eqv]
@[simp] theorem plainA_nil : plainA [] = true := rfl
@[simp] theorem plainA_cons {x : PyData} {r : List PyData} : plainA (x :: r) = (plainD x && plainA r) := rfl
@[simp] theorem plainD_int {i : Int} : plainD (.int i) = true := rfl
@[simp] theorem plainD_str {i : Str} : plainD (.str i) = true := rfl
@[simp] theorem plainD_bool {i : Bool} : plainD (.bool i) = true := rfl
@[simp] theorem plainD_none : plainD .none = true := rfl
@[simp] theorem plainD_list {i : List PyData} : plainD (.list i) = plainA i := rfl
@[simp] theorem plainD_tuple {i : List PyData} : plainD (.tuple i) = plainA i := rfl
@[simp] theorem plainD_dict {i : List (PyData × PyData)} : plainD (.dict i) = false := rfl
@[simp] theorem v_rb_ok {α β : Type} {a : α} {T : Tab} {f : α → Tab → Rs β} : (Rs.ok a T).bind f = f a T := rfl
@[simp] theorem v_rb_ex {α β : Type} {x : DX} {T : Tab} {f : α → Tab → Rs β} : (Rs.ex x T : Rs α).bind f = .ex x T := rfl
@[simp] theorem v_rb_no {α β : Type} {f : α → Tab → Rs β} : (Rs.no : Rs α).bind f = .no := rfl
@[simp] theorem v_ofO_some {α : Type} {a : α} {T : Tab} : Rs.ofO (some a) T = .ok a T := rfl
@[simp] theorem v_ofO_none {α : Type} {T : Tab} : Rs.ofO (none : Option α) T = .no := rfl
@[simp] theorem v_noX_ok {α : Type} {a : α} {T : Tab} : Rs.noX (.ok a T) = .ok a T := rfl
@[simp] theorem v_sq_nx {sl : Slots} {T : Tab} {f : Slots → Tab → Out} : (Out.nx sl T).seq f = f sl T := rfl
@[simp] theorem v_sq_rt {v : Val} {T : Tab} {f : Slots → Tab → Out} : (Out.rt v T).seq f = .rt v T := rfl
@[simp] theorem v_sq_bk {sl : Slots} {T : Tab} {f : Slots → Tab → Out} : (Out.bk sl T).seq f = .bk sl T := rfl
@[simp] theorem v_sq_ct {sl : Slots} {T : Tab} {f : Slots → Tab → Out} : (Out.ct sl T).seq f = .ct sl T := rfl
@[simp] theorem v_sq_ex {x : DX} {T : Tab} {f : Slots → Tab → Out} : (Out.ex x T).seq f = .ex x T := rfl
@[simp] theorem v_sq_no {f : Slots → Tab → Out} : (Out.no).seq f = .no := rfl
@[simp] theorem v_ro_ok {α : Type} {a : α} {T : Tab} {f : α → Tab → Out} : (Rs.ok a T).out f = f a T := rfl
@[simp] theorem v_ro_ex {α : Type} {x : DX} {T : Tab} {f : α → Tab → Out} : (Rs.ex x T : Rs α).out f = .ex x T := rfl
@[simp] theorem v_ro_no {α : Type} {f : α → Tab → Out} : (Rs.no : Rs α).out f = .no := rfl
@[simp] theorem v_bin_add_i {i j : Int} : binV .Add (.int i) (.int j) = some (.int (i + j)) := rfl
@[simp] theorem v_bin_add_s {a b : Str} : binV .Add (.str a) (.str b) = gd (a.length + b.length ≤ sizeLine) (.str (a ++ b)) := rfl
@[simp] theorem v_bin_add_l {a b : List PyData} : binV .Add (.list a) (.list b) = gd (a.length + b.length ≤ sizeLine) (.list (a ++ b)) := rfl
@[simp] theorem v_bin_add_t {a b : List PyData} : binV .Add (.tuple a) (.tuple b) = gd (a.length + b.length ≤ sizeLine) (.tuple (a ++ b)) := rfl
@[simp] theorem v_bin_sub {i j : Int} : binV .Sub (.int i) (.int j) = some (.int (i - j)) := rfl
@[simp] theorem v_bin_mul_i {i j : Int} : binV .Mult (.int i) (.int j) = gd (CMul i j) (.int (i * j)) := rfl
@[simp] theorem v_bin_mul_s {a : Str} {j : Int} : binV .Mult (.str a) (.int j) = gd (MulOk a j) (.str (Txt.mul a j)) := rfl
@[simp] theorem v_bin_mul_l {a : List PyData} {j : Int} : binV .Mult (.list a) (.int j) = gd (-(2 ^ 63) ≤ j ∧ j < 2 ^ 63 ∧ a.length * j.toNat ≤ sizeLine) (.list (List.replicate j.toNat a).flatten) := rfl
@[simp] theorem v_bin_fd {i j : Int} : binV .FloorDiv (.int i) (.int j) = gd (CDivN i j) (.int (i.fdiv j)) := rfl
@[simp] theorem v_bin_mod {i j : Int} : binV .Mod (.int i) (.int j) = gd (j ≠ 0) (.int (i.fmod j)) := rfl
@[simp] theorem v_bin_pow {i j : Int} : binV .Pow (.int i) (.int j) = gd (CPow i j) (.int (i ^ j.toNat)) := rfl
@[simp] theorem v_bin2_d {o : Operator} {T : Tab} {x y : PyData} : bin2 o T (.d x) (.d y) = (binV o x y).map .d := rfl
@[simp] theorem v_ord_i {f : Int → Int → Bool} {g : List Nat → List Nat → Bool} {i j : Int} : ordV f g (.int i) (.int j) = some (f i j) := rfl
@[simp] theorem v_ord_s {f : Int → Int → Bool} {g : List Nat → List Nat → Bool} {a b : Str} : ordV f g (.str a) (.str b) = some (g a.cps.toList b.cps.toList) := rfl
@[simp] theorem v_in_s {a b : Str} : inV (.str a) (.str b) = some (strIn a b) := rfl
@[simp] theorem v_cm_eq {x y : PyData} : cmpV .Eq x y = gd (EqG x y) (PyData.eqv x y) := rfl
@[simp] theorem v_cm_ne {x y : PyData} : cmpV .NotEq x y = gd (EqOk x y) (!PyData.eqv x y) := rfl
@[simp] theorem v_cm_lt {x y : PyData} : cmpV .Lt x y = ordV (fun i j => decide (i < j)) (fun a b => decide (a < b)) x y := rfl
@[simp] theorem v_cm_le {x y : PyData} : cmpV .LtE x y = ordV (fun i j => decide (i ≤ j)) (fun a b => !decide (b < a)) x y := rfl
@[simp] theorem v_cm_gt {x y : PyData} : cmpV .Gt x y = ordV (fun i j => decide (j < i)) (fun a b => decide (b < a)) x y := rfl
@[simp] theorem v_cm_ge {x y : PyData} : cmpV .GtE x y = ordV (fun i j => decide (j ≤ i)) (fun a b => !decide (a < b)) x y := rfl
@[simp] theorem v_cm_in {x y : PyData} : cmpV .In x y = inV x y := rfl
@[simp] theorem v_cm_ni {x y : PyData} : cmpV .NotIn x y = (inV x y).map (!·) := rfl
@[simp] theorem v_is_n {v : Val} : isV v (.d .none) = some (isNone v) := rfl
@[simp] theorem v_is_b {a b : Bool} : isV (.d (.bool a)) (.d (.bool b)) = some (decide (a = b)) := rfl
@[simp] theorem v_isn_none : isNone (.d .none) = true := rfl
@[simp] theorem v_isn_bool {b : Bool} : isNone (.d (.bool b)) = false := rfl
@[simp] theorem v_isn_int {b : Int} : isNone (.d (.int b)) = false := rfl
@[simp] theorem v_isn_str {b : Str} : isNone (.d (.str b)) = false := rfl
@[simp] theorem v_isn_list {b : List PyData} : isNone (.d (.list b)) = false := rfl
@[simp] theorem v_isn_tup {b : List PyData} : isNone (.d (.tuple b)) = false := rfl
@[simp] theorem v_isn_dict {b : List (PyData × PyData)} : isNone (.d (.dict b)) = false := rfl
@[simp] theorem v_isn_ex {x : DX} : isNone (.ex x) = false := rfl
@[simp] theorem v_isn_ob {k : Nat} : isNone (.ob k) = false := rfl
@[simp] theorem v_c2_is {T : Tab} {v u : Val} : cmp2 .Is T v u = isV v u := rfl
@[simp] theorem v_c2_ni {T : Tab} {v u : Val} : cmp2 .IsNot T v u = (isV v u).map (!·) := rfl
@[simp] theorem v_c2_eq {T : Tab} {v u : Val} : cmp2 .Eq T v u = cmp2D .Eq T v u := rfl
@[simp] theorem v_c2_ne {T : Tab} {v u : Val} : cmp2 .NotEq T v u = cmp2D .NotEq T v u := rfl
@[simp] theorem v_c2_lt {T : Tab} {v u : Val} : cmp2 .Lt T v u = cmp2D .Lt T v u := rfl
@[simp] theorem v_c2_le {T : Tab} {v u : Val} : cmp2 .LtE T v u = cmp2D .LtE T v u := rfl
@[simp] theorem v_c2_gt {T : Tab} {v u : Val} : cmp2 .Gt T v u = cmp2D .Gt T v u := rfl
@[simp] theorem v_c2_ge {T : Tab} {v u : Val} : cmp2 .GtE T v u = cmp2D .GtE T v u := rfl
@[simp] theorem v_c2_in {T : Tab} {v u : Val} : cmp2 .In T v u = cmp2D .In T v u := rfl
@[simp] theorem v_c2_nin {T : Tab} {v u : Val} : cmp2 .NotIn T v u = cmp2D .NotIn T v u := rfl
@[simp] theorem v_c2d {o : CmpOp} {T : Tab} {x y : PyData} : cmp2D o T (.d x) (.d y) = cmpV o x y := rfl
@[simp] theorem v_tr_none {T : Tab} : truV T (.d .none) = some false := rfl
@[simp] theorem v_tr_bool {T : Tab} {b : Bool} : truV T (.d (.bool b)) = some b := rfl
@[simp] theorem v_tr_int {T : Tab} {i : Int} : truV T (.d (.int i)) = some (i != 0) := rfl
@[simp] theorem v_tr_str {T : Tab} {s : Str} : truV T (.d (.str s)) = gd (s.length ≤ sizeLine) ((s.length : Int) != 0) := rfl
@[simp] theorem v_tr_list {T : Tab} {xs : List PyData} : truV T (.d (.list xs)) = some (!xs.isEmpty) := rfl
@[simp] theorem v_tr_tup {T : Tab} {xs : List PyData} : truV T (.d (.tuple xs)) = some (!xs.isEmpty) := rfl
@[simp] theorem v_it_list {T : Tab} {xs : List PyData} : itemsV T (.d (.list xs)) = some (dv xs, none) := rfl
@[simp] theorem v_it_tup {T : Tab} {xs : List PyData} : itemsV T (.d (.tuple xs)) = some (dv xs, none) := rfl
@[simp] theorem v_it_str {T : Tab} {s : Str} : itemsV T (.d (.str s)) = some (s.cps.toList.map fun c => .d (.str ⟨#[c]⟩), none) := rfl
@[simp] theorem v_it_scr {T : Tab} {ns : List Int} : itemsV T (.scr ns) = some (ns.map fun i => .d (.int i), none) := rfl
@[simp] theorem v_ln_list {T : Tab} {xs : List PyData} : lenV T (.d (.list xs)) = some (.d (.int xs.length)) := rfl
@[simp] theorem v_ln_tup {T : Tab} {xs : List PyData} : lenV T (.d (.tuple xs)) = some (.d (.int xs.length)) := rfl
@[simp] theorem v_ln_str {T : Tab} {s : Str} : lenV T (.d (.str s)) = gd (s.length ≤ sizeLine) (.d (.int s.length)) := rfl
@[simp] theorem v_ln_scr {T : Tab} {ns : List Int} : lenV T (.scr ns) = some (.d (.int ns.length)) := rfl
@[simp] theorem v_ix_list {T : Tab} {xs : List PyData} {i : Int} : idxV T (.d (.list xs)) (.d (.int i)) = (atI xs i).map .d := rfl
@[simp] theorem v_ix_tup {T : Tab} {xs : List PyData} {i : Int} : idxV T (.d (.tuple xs)) (.d (.int i)) = (atI xs i).map .d := rfl
@[simp] theorem v_ix_str {T : Tab} {s : Str} {i : Int} : idxV T (.d (.str s)) (.d (.int i)) = if s.length ≤ sizeLine then (atI s.cps.toList i).map fun c => .d (.str ⟨#[c]⟩) else none := rfl
@[simp] theorem v_sl_list {T : Tab} {xs : List PyData} {lo hi : Option Int} : slcV T (.d (.list xs)) lo hi = some (.d (.list (cutD xs lo hi))) := rfl
@[simp] theorem v_sl_tup {T : Tab} {xs : List PyData} {lo hi : Option Int} : slcV T (.d (.tuple xs)) lo hi = some (.d (.tuple (cutD xs lo hi))) := rfl
@[simp] theorem v_sl_str {T : Tab} {s : Str} {lo hi : Option Int} : slcV T (.d (.str s)) lo hi = gd (s.length ≤ sizeLine) (.d (.str (cutS s lo hi))) := rfl
@[simp] theorem v_oi_none : optI none = some none := rfl
@[simp] theorem v_oi_some {i : Int} : optI (some (.d (.int i))) = some (some i) := rfl
@[simp] theorem v_bi_len {T : Tab} {v : Val} : biV .len T [v] = lenV T v := rfl
@[simp] theorem v_bi_int {T : Tab} {i : Int} : biV .int T [.d (.int i)] = some (.d (.int i)) := rfl
@[simp] theorem v_bi_intb {T : Tab} {b : Bool} : biV .int T [.d (.bool b)] = some (.d (.int (if b then 1 else 0))) := rfl
@[simp] theorem v_bi_bool {T : Tab} {b : Bool} : biV .bool T [.d (.bool b)] = some (.d (.bool b)) := rfl
@[simp] theorem v_bi_booli {T : Tab} {i : Int} : biV .bool T [.d (.int i)] = some (.d (.bool (i != 0))) := rfl
@[simp] theorem v_bi_str {T : Tab} {i : Int} : biV .str T [.d (.int i)] = gd (i.natAbs.log2 < 1920) (.d (.str (toString i))) := rfl
@[simp] theorem v_bi_abs {T : Tab} {i : Int} : biV .abs T [.d (.int i)] = some (.d (.int (if i < 0 then -i else i))) := rfl
@[simp] theorem v_bi_min {T : Tab} {i j : Int} : biV .min T [.d (.int i), .d (.int j)] = some (.d (.int (if j < i then j else i))) := rfl
@[simp] theorem v_bi_max {T : Tab} {i j : Int} : biV .max T [.d (.int i), .d (.int j)] = some (.d (.int (if j > i then j else i))) := rfl
@[simp] theorem v_bi_tup {T : Tab} {xs : List PyData} : biV .tuple T [.d (.list xs)] = some (.d (.tuple xs)) := rfl
@[simp] theorem v_bi_tupt {T : Tab} {xs : List PyData} : biV .tuple T [.d (.tuple xs)] = some (.d (.tuple xs)) := rfl
@[simp] theorem v_bi_sum {T : Tab} {xs : List PyData} : biV .sum T [.d (.list xs)] = (intsD xs).map fun ns => .d (.int ns.sum) := rfl
@[simp] theorem v_bi_all {T : Tab} {xs : List PyData} : biV .all T [.d (.list xs)] = (boolsD xs).map fun bs => .d (.bool (bs.all id)) := rfl
@[simp] theorem v_bi_any {T : Tab} {xs : List PyData} : biV .any T [.d (.list xs)] = (boolsD xs).map fun bs => .d (.bool (bs.any id)) := rfl
@[simp] theorem v_dic_ob {T : Tab} {n : Nat} : dicV T (.ob n) = (match getT T n with | some (.dic kvs) => some (n, kvs) | _ => none) := rfl
@[simp] theorem v_lst_ob {T : Tab} {n : Nat} : lstV T (.ob n) = (match getT T n with | some (.lst xs) => some (n, xs) | _ => none) := rfl
@[simp] theorem v_tr_ob {T : Tab} {n : Nat} : truV T (.ob n) = (match getT T n with | some (.lst xs) => some (!xs.isEmpty) | some (.dic xs) => some (!xs.isEmpty) | _ => none) := rfl
@[simp] theorem v_it_ob {T : Tab} {n : Nat} : itemsV T (.ob n) = (match getT T n with | some (.lst xs) => some (xs, some (n, xs)) | _ => none) := rfl
@[simp] theorem v_ln_ob {T : Tab} {n : Nat} : lenV T (.ob n) = (match getT T n with | some (.lst xs) => some (.d (.int xs.length)) | some (.dic xs) => some (.d (.int xs.length)) | _ => none) := rfl
@[simp] theorem v_ix_ob {T : Tab} {n : Nat} {i : Int} : idxV T (.ob n) (.d (.int i)) = (match getT T n with | some (.lst xs) => atI xs i | _ => none) := rfl
@[simp] theorem v_mt_app {T : Tab} {o v : Val} : mtV .append T o [v] = (match lstV T o with | some (n, xs) => gd (xs.length < sizeLine) (.d .none, setT T n (.lst (xs ++ [v]))) | none => none) := rfl
@[simp] theorem v_mt_ext {T : Tab} {o : Val} {ys : List PyData} : mtV .extend T o [.d (.list ys)] = (match lstV T o with | some (n, xs) => gd (xs.length + ys.length ≤ sizeLine) (.d .none, setT T n (.lst (xs ++ dv ys))) | none => none) := rfl
@[simp] theorem v_mt_pop0 {T : Tab} {o : Val} : mtV .pop T o [] = (match lstV T o with | some (n, xs) => (xs[xs.length - 1]?).map fun x => (x, setT T n (.lst xs.dropLast)) | none => none) := rfl
@[simp] theorem v_mt_clear {T : Tab} {o : Val} : mtV .clear T o [] = (match lstV T o with | some (n, _) => some (.d .none, setT T n (.lst [])) | none => none) := rfl
@[simp] theorem v_mt_pop {T : Tab} {o : Val} {i : Int} : mtV .popAt T o [.d (.int i)] = (match lstV T o with | some (n, xs) => (popV xs i).map fun p => (p.1, setT T n (.lst p.2)) | none => none) := rfl
@[simp] theorem v_mt_upper {T : Tab} {a : Str} : mtV .upper T (.d (.str a)) [] = gd (a.length ≤ 5592405) (.d (.str (Txt.upper a)), T) := rfl
@[simp] theorem v_mt_split {T : Tab} {a b : Str} : mtV .split T (.d (.str a)) [.d (.str b)] = gd ((b.length == 0) = false ∧ a.length + 2 ≤ sizeLine) (.d (.list ((Txt.split a b).map .str)), T) := rfl
@[simp] theorem v_mb_app {T : Tab} {n : Nat} : mtB .append T (.ob n) = (match getT T n with | some (.lst _) => true | _ => false) := rfl
@[simp] theorem v_mb_ext {T : Tab} {n : Nat} : mtB .extend T (.ob n) = (match getT T n with | some (.lst _) => true | _ => false) := rfl
@[simp] theorem v_mb_pop0 {T : Tab} {n : Nat} : mtB .pop T (.ob n) = (match getT T n with | some (.lst _) => true | _ => false) := rfl
@[simp] theorem v_mb_clear {T : Tab} {n : Nat} : mtB .clear T (.ob n) = (match getT T n with | some (.lst _) => true | _ => false) := rfl
@[simp] theorem v_mb_pop {T : Tab} {n : Nat} : mtB .popAt T (.ob n) = (match getT T n with | some (.lst _) => true | _ => false) := rfl
@[simp] theorem v_mb_upper {T : Tab} {a : Str} : mtB .upper T (.d (.str a)) = true := rfl
@[simp] theorem v_mb_split {T : Tab} {a : Str} : mtB .split T (.d (.str a)) = true := rfl
@[simp] theorem v_pt_nm {i : Nat} {v : Val} {sl : Slots} : patV (.nm i) v sl = some (setS sl i (some v)) := by simp only [patV, patsV]
@[simp] theorem v_pt_tup {ps : List Pat} {xs : List PyData} {sl : Slots} : patV (.tp ps) (.d (.tuple xs)) sl = if xs.length = ps.length then patsV ps (dv xs) sl else none := by simp only [patV, patsV]
@[simp] theorem v_pt_list {ps : List Pat} {xs : List PyData} {sl : Slots} : patV (.tp ps) (.d (.list xs)) sl = if xs.length = ps.length then patsV ps (dv xs) sl else none := by simp only [patV, patsV]
@[simp] theorem v_ps_nil {sl : Slots} : patsV [] [] sl = some sl := by simp only [patV, patsV]
@[simp] theorem v_ps_cons {p : Pat} {ps : List Pat} {v : Val} {r : List Val} {sl : Slots} : patsV (p :: ps) (v :: r) sl = (match patV p v sl with | some sl1 => patsV ps r sl1 | none => none) := by
  first
  | (rw [patsV]; done)
  | (rw [patsV]; cases patV p v sl <;> rfl)
@[simp] theorem v_st_none {T : Tab} : stillV T none = true := rfl
@[simp] theorem v_st_some {T : Tab} {n : Nat} {xs : List Val} : stillV T (some (n, xs)) = true ↔ getT T n = some (.lst xs) := by
  simp only [stillV, decide_eq_true_eq]
@[simp] theorem v_key_int {i : Int} : keyV (.d (.int i)) = some (.inl i) := rfl
@[simp] theorem v_key_str {i : Str} : keyV (.d (.str i)) = some (.inr i) := rfl
@[simp] theorem v_call_eq {f : FN} {vs : List Val} {T : Tab} : callV f vs T = (match dats vs with | some ds => (match f ds with | some (.ok r) => Rs.ok (.d r) T | some (.error x) => .ex x T | none => .no) | none => .no) := rfl
@[simp] theorem v_wp_nil {sl : Slots} : wipeS sl [] = sl := rfl
@[simp] theorem v_wp_cons {sl : Slots} {v : Nat} {vs : List Nat} : wipeS sl (v :: vs) = setS (wipeS sl vs) v none := rfl
@[simp] theorem v_pa_nil {sl : Slots} : parW [] [] sl = some sl := rfl
@[simp] theorem v_pa_cons {i : Nat} {is : List Nat} {v : Val} {vs : List Val} {sl : Slots} : parW (i :: is) (v :: vs) sl = parW is vs (setS sl i (some v)) := rfl
@[simp] theorem v_ie_nil : intsD [] = some [] := rfl
@[simp] theorem v_be_nil : boolsD [] = some [] := rfl
@[simp] theorem v_ix_xs {c : Str} {sub : Str → Str → Option Bool} {T : Tab} {x : DX} : isxV sub c T (.ex x) = sub x.cls c := rfl
@[simp] theorem v_ix_xd {c : Str} {sub : Str → Str → Option Bool} {T : Tab} {x : PyData} : isxV sub c T (.d x) = (match tyName T (.d x) with | some _ => some false | none => none) := rfl
@[simp] theorem v_in_l {x : PyData} {ys : List PyData} : inV x (.list ys) = gd (InOk x ys) (ys.any fun z => PyData.eqv z x) := by
  cases x <;> rfl
@[simp] theorem v_in_t {x : PyData} {ys : List PyData} : inV x (.tuple ys) = gd (InOk x ys) (ys.any fun z => PyData.eqv z x) := by
  cases x <;> rfl
@[simp] theorem v_gd_out {α : Type} {p : Prop} {a : α} {T : Tab} : Rs.ofO (gd p a) T = (@ite _ p (Classical.propDecidable p) (Rs.ok a T) Rs.no) := by
  unfold gd
  split <;> simp [*]
theorem compE_map {α : Type} {step : Val → Tab → Rs (Option Val)} {T : Tab} {g : α → Val} {h : α → Val} : ∀ {cs : List α} {acc : List Val}, (∀ c ∈ cs, step (g c) T = .ok (some (h c)) T) → acc.length + cs.length ≤ sizeLine → compE none step (cs.map g) acc T = .ok (acc ++ cs.map h) T
  | [], acc, _, _ => by simp [compE]
  | c :: cs, acc, hs, hl => by
    simp only [List.length_cons] at hl
    have h1 := hs c (by simp)
    simp only [List.map_cons, compE, h1, v_st_none, if_true]
    rw [if_pos (by omega), compE_map (fun d hd => hs d (by simp [hd])) (by simp; omega)]
    simp
theorem compE_filter {α : Type} {step : Val → Tab → Rs (Option Val)} {T : Tab} {g : α → Val} {p : α → Bool} {h : α → Val} : ∀ {cs : List α} {acc : List Val}, (∀ c ∈ cs, step (g c) T = .ok (if p c = true then some (h c) else none) T) → acc.length + cs.length ≤ sizeLine → compE none step (cs.map g) acc T = .ok (acc ++ (cs.filter p).map h) T
  | [], acc, _, _ => by simp [compE]
  | c :: cs, acc, hs, hl => by
    simp only [List.length_cons] at hl
    have h1 := hs c (by simp)
    cases e : p c with
    | true =>
      rw [e, if_pos rfl] at h1
      simp only [List.map_cons, compE, h1, v_st_none, if_true]
      rw [if_pos (by omega), compE_filter (fun d hd => hs d (by simp [hd])) (by simp; omega)]
      simp [e]
    | false =>
      rw [e, if_neg Bool.false_ne_true] at h1
      simp only [List.map_cons, compE, h1, v_st_none, if_true]
      rw [compE_filter (fun d hd => hs d (by simp [hd])) (by omega)]
      simp [e]
theorem dv_map : ∀ xs : List PyData, dv xs = xs.map Val.d
  | [] => rfl
  | x :: xs => by simp [dv_map xs]
theorem compE_dv {step : Val → Tab → Rs (Option Val)} {T : Tab} {h : PyData → Val} {xs : List PyData} {acc : List Val} (hs : ∀ c ∈ xs, step (.d c) T = .ok (some (h c)) T) (hl : acc.length + xs.length ≤ sizeLine) : compE none step (dv xs) acc T = .ok (acc ++ xs.map h) T := by
  rw [dv_map, compE_map hs hl]
theorem compE_dvf {step : Val → Tab → Rs (Option Val)} {T : Tab} {p : PyData → Bool} {h : PyData → Val} {xs : List PyData} {acc : List Val} (hs : ∀ c ∈ xs, step (.d c) T = .ok (if p c = true then some (h c) else none) T) (hl : acc.length + xs.length ≤ sizeLine) : compE none step (dv xs) acc T = .ok (acc ++ (xs.filter p).map h) T := by
  rw [dv_map, compE_filter hs hl]
@[simp] theorem dats_dv' {xs : List PyData} : dats (dv xs) = some xs := by
  induction xs with
  | nil => rfl
  | cons x xs ih => simp [ih]
@[simp] theorem dats_map {α : Type} {f : α → PyData} {xs : List α} : dats (xs.map fun c => .d (f c)) = some (xs.map f) := by
  induction xs with
  | nil => rfl
  | cons x xs ih => simp [ih]
@[simp] theorem bools_map' {α : Type} {f : α → Bool} {xs : List α} : boolsD (xs.map fun c => .bool (f c)) = some (xs.map f) := by
  induction xs with
  | nil => rfl
  | cons x xs ih => simp [boolsD, ih]
@[simp] theorem ints_map' {α : Type} {f : α → Int} {xs : List α} : intsD (xs.map fun c => .int (f c)) = some (xs.map f) := by
  induction xs with
  | nil => rfl
  | cons x xs ih => simp [intsD, ih]
@[simp] theorem any_strs' {l : List Str} {s : Str} : ((l.map PyData.str).any fun z => PyData.eqv z (.str s)) = l.any fun z => z == s := by
  induction l with
  | nil => rfl
  | cons g gs ih => simp [ih]
@[simp] theorem any_eqv {l : List Str} {s : Str} : l.any ((fun z => PyData.eqv z (.str s)) ∘ PyData.str) = l.any fun z => z == s := by
  induction l with
  | nil => rfl
  | cons g gs ih => simp [ih]
@[simp] theorem atI_0 {α : Type} {a : α} {r : List α} : atI (a :: r) 0 = some a := atI_nat (xs := a :: r) (k := 0) (by simp)
@[simp] theorem atI_1 {α : Type} {a b : α} {r : List α} : atI (a :: b :: r) 1 = some b := atI_nat (xs := a :: b :: r) (k := 1) (by simp)
@[simp] theorem atI_2 {α : Type} {a b c : α} {r : List α} : atI (a :: b :: c :: r) 2 = some c := atI_nat (xs := a :: b :: c :: r) (k := 2) (by simp)
@[simp] theorem atI_3 {α : Type} {a b c d : α} {r : List α} : atI (a :: b :: c :: d :: r) 3 = some d := atI_nat (xs := a :: b :: c :: d :: r) (k := 3) (by simp)
@[simp] theorem atI_4 {α : Type} {a b c d e : α} {r : List α} : atI (a :: b :: c :: d :: e :: r) 4 = some e := atI_nat (xs := a :: b :: c :: d :: e :: r) (k := 4) (by simp)
@[simp] theorem atI_n {α : Type} {xs : List α} {k : Nat} (h : k < xs.length) : atI xs (k : Int) = some xs[k] := atI_nat h
@[simp] theorem eqok_nil {xs : List PyData} : EqOk (.list xs) (.list []) ↔ plainA xs = true := by
  unfold EqOk
  constructor
  · exact fun h => h.1
  · exact fun h => ⟨h, rfl, by simp [PyData.depth, PyData.depthAll] <;> omega⟩
@[simp] theorem eqg_nil {xs : List PyData} : EqG (.list xs) (.list []) ↔ plainA xs = true := by
  unfold EqG
  simp [DicStr]
@[simp] theorem eqv_nil {xs : List PyData} : PyData.eqv (.list xs) (.list []) = xs.isEmpty := by
  cases xs <;> simp [PyData.eqv, PyData.eqvAll]
@[simp] theorem intsD_dv {xs : List Int} : intsD (xs.map .int) = some xs := by
  induction xs with
  | nil => rfl
  | cons x xs ih => simp [intsD, ih]
theorem dv_len' {xs : List PyData} : (dv xs).length = xs.length := by rw [dv_map]; simp
theorem dv_app' {xs : List PyData} {y : PyData} : dv xs ++ [.d y] = dv (xs ++ [y]) := by rw [dv_map, dv_map]; simp
@[simp] theorem loop_nil {step : Val → Slots → Tab → Out} {sl : Slots} {T : Tab} : loopE none step [] sl T = .nx sl T := by simp [loopE]
theorem loop_cons {step : Val → Slots → Tab → Out} {x : Val} {r : List Val} {sl : Slots} {T : Tab} : loopE none step (x :: r) sl T = match step x sl T with
    | .nx sl T => loopE none step r sl T
    | .ct sl T => loopE none step r sl T
    | .bk sl T => .nx sl T
    | .rt v T => .rt v T
    | .ex x T => .ex x T
    | .no => .no := by
  rw [loopE]
  first
  | (simp only [v_st_none, if_true]; done)
  | (simp only [v_st_none, if_true]; cases step x sl T <;> rfl)
@[simp] theorem c2_do {o : CmpOp} {T : Tab} {x : PyData} {n : Nat} : cmp2D o T (.d x) (.ob n) = (asD T (.ob n)).bind fun y => cmpV o x y := by
  unfold cmp2D
  simp only [asD_d]
  cases asD T (.ob n) <;> rfl
@[simp] theorem c2_od {o : CmpOp} {T : Tab} {x : PyData} {n : Nat} : cmp2D o T (.ob n) (.d x) = (asD T (.ob n)).bind fun y => cmpV o y x := by
  unfold cmp2D
  simp only [asD_d]
  cases asD T (.ob n) <;> rfl
@[simp] theorem size_k {n : Nat} (h : n ≤ 1000) : n ≤ sizeLine := by rw [sizeLine_eq]; omega
@[simp] theorem size_lt {n : Nat} (h : n ≤ 1000) : n < sizeLine := by rw [sizeLine_eq]; omega
@[simp] theorem ite_and' {p q : Bool} : (if p = true then q else p) = (p && q) := by cases p <;> rfl
@[simp] theorem ite_or' {p q : Bool} : (if p = true then p else q) = (p || q) := by cases p <;> rfl
@[simp] theorem plain_mapf {α : Type} {f : α → Str} {xs : List α} : plainA (xs.map fun c => .str (f c)) = true := by
  induction xs with
  | nil => rfl
  | cons x xs ih => simp [ih]
theorem filter_empty {α : Type} {p : α → Bool} {xs : List α} : (xs.filter fun c => !p c).isEmpty = xs.all p := by
  induction xs with
  | nil => rfl
  | cons x xs ih => cases h : p x <;> simp [h] <;> simpa using ih
@[simp] theorem eqv_ns {s : Str} : PyData.eqv .none (.str s) = false := by simp [PyData.eqv]
@[simp] theorem eqv_bs {b : Bool} {s : Str} : PyData.eqv (.bool b) (.str s) = false := by simp [PyData.eqv]
@[simp] theorem eqv_is {b : Int} {s : Str} : PyData.eqv (.int b) (.str s) = false := by simp [PyData.eqv]
@[simp] theorem eqv_ls {b : List PyData} {s : Str} : PyData.eqv (.list b) (.str s) = false := by simp [PyData.eqv]
@[simp] theorem eqv_ts {b : List PyData} {s : Str} : PyData.eqv (.tuple b) (.str s) = false := by simp [PyData.eqv]
@[simp] theorem eqv_ds {b : List (PyData × PyData)} {s : Str} : PyData.eqv (.dict b) (.str s) = false := by simp [PyData.eqv]
@[simp] theorem dp_none : PyData.depth .none = 0 := by simp [PyData.depth]
@[simp] theorem dp_bool {b : Bool} : PyData.depth (.bool b) = 0 := by simp [PyData.depth]
@[simp] theorem dp_int {b : Int} : PyData.depth (.int b) = 0 := by simp [PyData.depth]
@[simp] theorem dp_str {b : Str} : PyData.depth (.str b) = 0 := by simp [PyData.depth]
@[simp] theorem dp_list {b : List PyData} : PyData.depth (.list b) = PyData.depthAll b + 1 := by simp [PyData.depth]
@[simp] theorem dp_tup {b : List PyData} : PyData.depth (.tuple b) = PyData.depthAll b + 1 := by simp [PyData.depth]
@[simp] theorem dp_nil : PyData.depthAll [] = 0 := by simp [PyData.depthAll]
@[simp] theorem dp_cons {x : PyData} {b : List PyData} : PyData.depthAll (x :: b) = max x.depth (PyData.depthAll b) := by simp [PyData.depthAll]
@[simp] theorem eqok_refl {x : PyData} (h1 : plainD x = true) (h2 : x.depth ≤ 100) : EqOk x x := ⟨h1, h1, by omega⟩
@[simp] theorem eqv_refl {x : PyData} (h1 : plainD x = true) : PyData.eqv x x = true := eqv_self x h1
end DL
/-! the weakest preconditions, by the evaluator's functions: for what is drawn -/
namespace DL
open PySem PySem.Spec PyProof.Rows L2
/-- what is asked of an option -/
def optW {α : Type} (o : Option α) (k : α → Prop) : Prop := match o with
  | some a => k a
  | none => False
theorem optW_congr {α : Type} {o o' : Option α} {k : α → Prop} (h : o = o') : optW o k = optW o' k := by rw [h]
@[simp] theorem ow_some {α : Type} {a : α} {k : α → Prop} : optW (some a) k = k a := rfl
@[simp] theorem ow_none {α : Type} {k : α → Prop} : optW none k = False := rfl
@[simp] theorem ow_map {α β : Type} {o : Option α} {f : α → β} {k : β → Prop} : optW (o.map f) k = optW o (fun a => k (f a)) := by cases o <;> rfl
@[simp] theorem ow_ite {α : Type} {c : Prop} [Decidable c] {a b : Option α} {k : α → Prop} : optW (if c then a else b) k = if c then optW a k else optW b k := by by_cases h : c <;> simp [h]
theorem ow_iff {α : Type} {o : Option α} {k : α → Prop} : (∃ a, o = some a ∧ k a) ↔ optW o k := by
  cases o with
  | none => simp
  | some a => simp
theorem gd_iff {α : Type} {p : Prop} {a z : α} : gd p a = some z ↔ p ∧ a = z := by
  unfold gd
  split <;> simp [*]
theorem w_bin_ {o : Operator} {T : Tab} {v u : Val} {k : Val → Prop} : on2 (binD o) T v u k ↔ ∃ z, bin2 o T v u = some z ∧ k z := by
  constructor
  · intro h
    unfold on2 at h
    unfold bin2
    split at h
    · rename_i x y e1 e2
      rw [e1, e2]
      simp only
      cases o <;> simp only [binD] at h
      all_goals first
        | exact h.elim
        | (cases x <;> cases y <;> simp only [addD, subD, mulD, fdivD, modD, powD] at h <;> first
            | exact h.elim
            | exact ⟨_, rfl, h⟩
            | exact ⟨_, by simp only [binV]; rw [gd_pos h.1]; rfl, h.2⟩)
    · exact h.elim
  · rintro ⟨z, e, q⟩
    exact bin2_ok e q
theorem ord_iff {f : Int → Int → Bool} {g : List Nat → List Nat → Bool} {x y : PyData} {k : Val → Prop} (h : ordD f g x y k) : ∃ b, ordV f g x y = some b ∧ k (.d (.bool b)) := by
  cases x <;> cases y <;> first
    | exact h.elim
    | exact ⟨_, rfl, h⟩
theorem in_iff {neg : Bool} {x y : PyData} {k : Val → Prop} (h : inD neg x y k) : ∃ b, inV x y = some b ∧ k (.d (.bool (neg ^^ b))) := by
  unfold inD at h
  split at h
  · exact ⟨_, by rw [v_in_l]; exact gd_pos h.1, h.2⟩
  · exact ⟨_, by rw [v_in_t]; exact gd_pos h.1, h.2⟩
  · split at h
    · exact ⟨_, rfl, h⟩
    · exact h.elim
  · exact h.elim
theorem cmp_iff {o : CmpOp} {x y : PyData} {k : Val → Prop} (h : cmpD o x y k) : ∃ b, cmpV o x y = some b ∧ k (.d (.bool b)) := by
  cases o <;> simp only [cmpD] at h
  case Eq => exact ⟨_, gd_pos h.1, h.2⟩
  case NotEq => exact ⟨_, gd_pos h.1, h.2⟩
  case Lt => exact ord_iff h
  case LtE => exact ord_iff h
  case Gt => exact ord_iff h
  case GtE => exact ord_iff h
  case In =>
    obtain ⟨b, e, q⟩ := in_iff h
    exact ⟨b, e, by simpa using q⟩
  case NotIn =>
    obtain ⟨b, e, q⟩ := in_iff h
    exact ⟨!b, by simp only [cmpV, e]; rfl, by simpa using q⟩
theorem is_iff {neg : Bool} {T : Tab} {v u : Val} {k : Val → Prop} (h : isW neg T v u k) : ∃ b, isV v u = some b ∧ k (.d (.bool (neg ^^ b))) := by
  unfold isW at h
  unfold isV
  split at h
  · exact ⟨_, rfl, h⟩
  · split at h
    · exact ⟨_, rfl, h⟩
    · exact h.elim
  · exact h.elim
theorem cmp2D_iff {o : CmpOp} {T : Tab} {v u : Val} {k : Val → Prop} (h : on2 (cmpD o) T v u k) : ∃ b, cmp2D o T v u = some b ∧ k (.d (.bool b)) := by
  unfold on2 at h
  unfold cmp2D
  split at h
  · rename_i x y e1 e2
    rw [e1, e2]
    exact cmp_iff h
  · exact h.elim
theorem w_cmp_ {o : CmpOp} {T : Tab} {v u : Val} {k : Val → Prop} : cmpW o T v u k ↔ ∃ b, cmp2 o T v u = some b ∧ k (.d (.bool b)) := by
  constructor
  · intro h
    cases o
    case Is =>
      obtain ⟨b, e, q⟩ := is_iff (T := T) h
      exact ⟨b, e, by simpa using q⟩
    case IsNot =>
      obtain ⟨b, e, q⟩ := is_iff (T := T) h
      exact ⟨!b, by simp only [cmp2, e]; rfl, by simpa using q⟩
    all_goals exact cmp2D_iff h
  · rintro ⟨b, e, q⟩
    exact cmp2_ok e q
theorem w_tru_ {T : Tab} {v : Val} {k : Bool → Prop} : truW T v k ↔ ∃ b, truV T v = some b ∧ k b := by
  constructor
  · intro h
    unfold truW at h
    unfold truV
    split at h
    all_goals first
      | exact ⟨_, rfl, h⟩
      | exact ⟨_, gd_pos h.1, h.2⟩
      | exact h.elim
      | (split at h <;> first | exact h.elim | (rename_i e; simp only [e]; exact ⟨_, rfl, h⟩))
  · rintro ⟨b, e, q⟩
    exact truV_ok e q
theorem w_items_ {T : Tab} {v : Val} {k : List Val → Option (Nat × List Val) → Prop} : itemsW T v k ↔ ∃ p, itemsV T v = some p ∧ k p.1 p.2 := by
  constructor
  · intro h
    unfold itemsW at h
    unfold itemsV
    split at h
    all_goals first
      | exact ⟨_, rfl, h⟩
      | exact h.elim
      | (split at h <;> first | exact h.elim | (rename_i e; simp only [e]; exact ⟨_, rfl, h⟩))
  · rintro ⟨b, e, q⟩
    exact itemsV_ok e q
theorem len_iff {T : Tab} {v : Val} {k : Val → Prop} (h : lenW T v k) : ∃ z, lenV T v = some z ∧ k z := by
  unfold lenW at h
  unfold lenV
  split at h
  all_goals first
    | exact ⟨_, rfl, h⟩
    | exact ⟨_, gd_pos h.1, h.2⟩
    | exact h.elim
    | (split at h <;> first | exact h.elim | (rename_i e; simp only [e]; exact ⟨_, rfl, h⟩))
theorem w_bi_ {f : Bi} {T : Tab} {vs : List Val} {k : Val → Prop} : biW f T vs k ↔ ∃ z, biV f T vs = some z ∧ k z := by
  constructor
  · intro h
    unfold biW at h
    unfold biV
    split at h
    all_goals first
      | exact len_iff h
      | exact ⟨_, rfl, h⟩
      | exact ⟨_, gd_pos h.1, h.2⟩
      | exact h.elim
      | (split at h <;> first | exact h.elim | (rename_i e; simp only [e]; exact ⟨_, rfl, h⟩) | (rename_i e; split at h <;> first | exact h.elim | (rename_i e2; simp only [e, e2]; exact ⟨_, rfl, h⟩)))
  · rintro ⟨b, e, q⟩
    exact biV_ok e q
theorem w_idx_ {T : Tab} {v u : Val} {k : Val → Prop} : idxW T v u k ↔ ∃ z, idxV T v u = some z ∧ k z := by
  constructor
  · intro h
    unfold idxW at h
    unfold idxV
    split at h
    · split at h
      · split at h
        · rename_i e; exact ⟨_, by simp only [e]; rfl, h⟩
        · exact h.elim
      · split at h
        · rename_i e; exact ⟨_, by simp only [e]; rfl, h⟩
        · exact h.elim
      · obtain ⟨h1, h⟩ := h
        split at h
        · rename_i e; exact ⟨_, by simp only [e]; rw [if_pos h1]; rfl, h⟩
        · exact h.elim
      · split at h
        · rename_i e
          split at h
          · rename_i e2; exact ⟨_, by simp only [e, e2], h⟩
          · exact h.elim
        · exact h.elim
      · exact h.elim
    · exact h.elim
  · rintro ⟨b, e, q⟩
    exact idxV_ok e q
theorem w_slc_ {T : Tab} {v : Val} {lo hi : Option Int} {k : Val → Prop} : slcW T v lo hi k ↔ ∃ z, slcV T v lo hi = some z ∧ k z := by
  constructor
  · intro h
    unfold slcW at h
    unfold slcV
    split at h
    · rename_i e; rw [e]; exact ⟨_, rfl, h⟩
    · rename_i e; rw [e]; exact ⟨_, rfl, h⟩
    · rename_i e; rw [e]; exact ⟨_, gd_pos h.1, h.2⟩
    · exact h.elim
  · rintro ⟨b, e, q⟩
    exact slcV_ok e q
theorem w_dic_ {T : Tab} {v : Val} {k : Nat → List (Key × Val) → Prop} : dicAt T v k ↔ ∃ p, dicV T v = some p ∧ k p.1 p.2 := by
  constructor
  · intro h
    unfold dicAt at h
    unfold dicV
    split at h
    · split at h
      · rename_i e; simp only [e]; exact ⟨_, rfl, h⟩
      · exact h.elim
    · exact h.elim
  · rintro ⟨b, e, q⟩
    exact dicV_ok e q
theorem lst_iff {T : Tab} {v : Val} {k : Nat → List Val → Prop} (h : obLst T v k) : ∃ p, lstV T v = some p ∧ k p.1 p.2 := by
  unfold obLst at h
  unfold lstV
  split at h
  · split at h
    · rename_i e; simp only [e]; exact ⟨_, rfl, h⟩
    · exact h.elim
  · exact h.elim
theorem w_mt_ {f : Mt} {T : Tab} {o : Val} {vs : List Val} {k : Val → Tab → Prop} : mtW f T o vs k ↔ ∃ p, mtV f T o vs = some p ∧ k p.1 p.2 := by
  constructor
  · intro h
    cases f <;> simp only [mtW] at h
    case append =>
      obtain ⟨⟨n, xs⟩, e, h⟩ := lst_iff h
      unfold arg1 at h
      split at h
      · exact ⟨_, by simp only [mtV, e]; exact gd_pos h.1, h.2⟩
      · exact h.elim
    case extend =>
      obtain ⟨⟨n, xs⟩, e, h⟩ := lst_iff h
      unfold arg1 at h
      split at h
      · unfold lstD at h
        split at h
        · exact ⟨_, by simp only [mtV, e]; exact gd_pos h.1, h.2⟩
        · exact h.elim
      · exact h.elim
    case pop =>
      obtain ⟨⟨n, xs⟩, e, h⟩ := lst_iff h
      unfold arg0 at h
      split at h
      · unfold popL at h
        split at h
        · rename_i x e1
          exact ⟨(x, setT T n (.lst xs.dropLast)), by simp only [mtV, e, e1]; rfl, h⟩
        · exact h.elim
      · exact h.elim
    case clear =>
      obtain ⟨⟨n, xs⟩, e, h⟩ := lst_iff h
      unfold arg0 at h
      split at h
      · exact ⟨(.d .none, setT T n (.lst [])), by simp only [mtV, e], h⟩
      · exact h.elim
    case popAt =>
      obtain ⟨⟨n, xs⟩, e, h⟩ := lst_iff h
      unfold arg1 at h
      split at h
      · unfold intV at h
        split at h
        · unfold popW at h
          split at h
          · rename_i e1
            split at h
            · rename_i e2
              exact ⟨_, by simp only [mtV, e, popV, e1, e2]; rw [gd_pos h.1]; rfl, h.2⟩
            · exact h.elim
          · exact h.elim
        · exact h.elim
      · exact h.elim
    case upper =>
      unfold strV at h
      split at h
      · unfold arg0 at h
        split at h
        · exact ⟨_, by simp only [mtV]; exact gd_pos h.1, h.2⟩
        · exact h.elim
      · exact h.elim
    case split =>
      unfold strV at h
      split at h
      · unfold arg1 at h
        split at h
        · split at h
          · exact ⟨_, by simp only [mtV]; exact gd_pos h.1, h.2⟩
          · exact h.elim
        · exact h.elim
      · exact h.elim
    all_goals exact h.elim
  · rintro ⟨b, e, q⟩
    exact mtV_ok e q
mutual
theorem pat_iff {T : Tab} {k : Slots → Prop} : ∀ (p : Pat) {v : Val} {sl : Slots}, patW p v sl T k → ∃ s, patV p v sl = some s ∧ k s
  | .nm i, v, sl, h => by
    simp only [patW] at h
    exact ⟨_, by simp only [patV], h⟩
  | .tp ps, v, sl, h => by
    simp only [patW] at h
    simp only [patV]
    split at h
    · simp only [if_pos h.1]; exact pats_iff ps h.2
    · simp only [if_pos h.1]; exact pats_iff ps h.2
    · exact h.elim
theorem pats_iff {T : Tab} {k : Slots → Prop} : ∀ (ps : List Pat) {vs : List Val} {sl : Slots}, patsW ps vs sl T k → ∃ s, patsV ps vs sl = some s ∧ k s
  | [], vs, sl, h => by
    simp only [patsW] at h
    simp only [patsV]
    split at h
    · exact ⟨_, rfl, h⟩
    · exact h.elim
  | p :: ps, vs, sl, h => by
    simp only [patsW] at h
    simp only [patsV]
    split at h
    · obtain ⟨s, e, q⟩ := pat_iff p h
      simp only [e]
      exact pats_iff ps q
    · exact h.elim
end
theorem w_pat_ {T : Tab} {p : Pat} {v : Val} {sl : Slots} {k : Slots → Prop} : patW p v sl T k ↔ ∃ s, patV p v sl = some s ∧ k s :=
  ⟨pat_iff p, fun ⟨s, e, q⟩ => patV_ok p e q⟩
theorem w_isx_ {sub : Str → Str → Option Bool} {c : Str} {T : Tab} {v : Val} {k : Bool → Prop} : isxW sub c T v k ↔ ∃ b, isxV sub c T v = some b ∧ k b := by
  constructor
  · intro h
    unfold isxW at h
    unfold isxV
    split at h
    · split at h
      · rename_i e; exact ⟨_, e, h⟩
      · exact h.elim
    · split at h
      · rename_i e; simp only [e]; exact ⟨_, rfl, h⟩
      · exact h.elim
  · rintro ⟨b, e, q⟩
    exact isxV_ok e q
@[simp] theorem w_bin {o : Operator} {T : Tab} {v u : Val} {k : Val → Prop} : on2 (binD o) T v u k = optW (bin2 o T v u) fun z => k z := propext (w_bin_.trans ow_iff)
@[simp] theorem w_cmp {o : CmpOp} {T : Tab} {v u : Val} {k : Val → Prop} : cmpW o T v u k = optW (cmp2 o T v u) fun b => k (.d (.bool b)) := propext (w_cmp_.trans ow_iff)
@[simp] theorem w_tru {T : Tab} {v : Val} {k : Bool → Prop} : truW T v k = optW (truV T v) fun b => k b := propext (w_tru_.trans ow_iff)
@[simp] theorem w_items {T : Tab} {v : Val} {k : List Val → Option (Nat × List Val) → Prop} : itemsW T v k = optW (itemsV T v) fun p => k p.1 p.2 := propext (w_items_.trans ow_iff)
@[simp] theorem w_bi {f : Bi} {T : Tab} {vs : List Val} {k : Val → Prop} : biW f T vs k = optW (biV f T vs) fun z => k z := propext (w_bi_.trans ow_iff)
@[simp] theorem w_idx {T : Tab} {v u : Val} {k : Val → Prop} : idxW T v u k = optW (idxV T v u) fun z => k z := propext (w_idx_.trans ow_iff)
@[simp] theorem w_slc {T : Tab} {v : Val} {lo hi : Option Int} {k : Val → Prop} : slcW T v lo hi k = optW (slcV T v lo hi) fun z => k z := propext (w_slc_.trans ow_iff)
@[simp] theorem w_dic {T : Tab} {v : Val} {k : Nat → List (Key × Val) → Prop} : dicAt T v k = optW (dicV T v) fun p => k p.1 p.2 := propext (w_dic_.trans ow_iff)
@[simp] theorem w_mt {f : Mt} {T : Tab} {o : Val} {vs : List Val} {k : Val → Tab → Prop} : mtW f T o vs k = optW (mtV f T o vs) fun p => k p.1 p.2 := propext (w_mt_.trans ow_iff)
@[simp] theorem w_isx {sub : Str → Str → Option Bool} {c : Str} {T : Tab} {v : Val} {k : Bool → Prop} : isxW sub c T v k = optW (isxV sub c T v) fun b => k b := propext (w_isx_.trans ow_iff)
@[simp] theorem w_pat {T : Tab} {p : Pat} {v : Val} {sl : Slots} {k : Slots → Prop} : patW p v sl T k = optW (patV p v sl) k := propext (w_pat_.trans ow_iff)
@[simp] theorem ow_gd {α : Type} {p : Prop} {a : α} {k : α → Prop} : optW (gd p a) k = (p ∧ k a) := propext (ow_iff.symm.trans ⟨fun ⟨_, h, q⟩ => by obtain ⟨h1, rfl⟩ := gd_iff.mp h; exact ⟨h1, q⟩, fun ⟨h1, q⟩ => ⟨_, gd_iff.mpr ⟨h1, rfl⟩, q⟩⟩)
theorem wpS_congr {Γ : DL.Env} {s : S} {D : DEnds} {sl sl' : Slots} {T T' : Tab} (hs : sl = sl') (hT : T = T') : wpS Γ s D sl T = wpS Γ s D sl' T' := by rw [hs, hT]
theorem wpSs_congr {Γ : DL.Env} {s : Ss} {D : DEnds} {sl sl' : Slots} {T T' : Tab} (hs : sl = sl') (hT : T = T') : wpSs Γ s D sl T = wpSs Γ s D sl' T' := by rw [hs, hT]
theorem wpE_congr {Γ : DL.Env} {e : E} {sl sl' : Slots} {T T' : Tab} {Q : VC} {X : XC} (hs : sl = sl') (hT : T = T') : wpE Γ e sl T Q X = wpE Γ e sl' T' Q X := by rw [hs, hT]
theorem wpEs_congr {Γ : DL.Env} {e : Es} {sl sl' : Slots} {T T' : Tab} {Q : List Val → Tab → Prop} {X : XC} (hs : sl = sl') (hT : T = T') : wpEs Γ e sl T Q X = wpEs Γ e sl' T' Q X := by rw [hs, hT]
theorem wpO_congr {Γ : DL.Env} {e : Oe} {sl sl' : Slots} {T T' : Tab} {Q : Option Val → Tab → Prop} {X : XC} (hs : sl = sl') (hT : T = T') : wpO Γ e sl T Q X = wpO Γ e sl' T' Q X := by rw [hs, hT]
theorem wpI_congr {Γ : DL.Env} {e : Itr} {sl sl' : Slots} {T T' : Tab} {Q : List Val → Option (Nat × List Val) → Tab → Prop} {X : XC} (hs : sl = sl') (hT : T = T') : wpI Γ e sl T Q X = wpI Γ e sl' T' Q X := by rw [hs, hT]
theorem cutW_congr {n : Nat} {Q : VC} {v v' : Val} {T T' : Tab} (h : v = v') (hT : T = T') : cutW n Q v T = cutW n Q v' T' := by rw [h, hT]
/-- what is asked of a result -/
def frW (r : FR) (T : Tab) (Q : VC) (X : XC) : Prop := match r with
  | some (.ok r) => Q (.d r) T
  | some (.error x) => X x T
  | none => False
@[simp] theorem fr_ok {r : PyData} {T : Tab} {Q : VC} {X : XC} : frW (some (.ok r)) T Q X = Q (.d r) T := rfl
@[simp] theorem fr_err {x : DX} {T : Tab} {Q : VC} {X : XC} : frW (some (.error x)) T Q X = X x T := rfl
@[simp] theorem fr_none {T : Tab} {Q : VC} {X : XC} : frW none T Q X = False := rfl
theorem frW_congr {r r' : FR} {T : Tab} {Q : VC} {X : XC} (h : r = r') : frW r T Q X = frW r' T Q X := by rw [h]
@[simp] theorem fr_ite {c : Prop} [Decidable c] {a b : FR} {T : Tab} {Q : VC} {X : XC} : frW (if c then a else b) T Q X = if c then frW a T Q X else frW b T Q X := by
  by_cases h : c <;> simp [h]
theorem call_x {f : FN} {ds : List PyData} {T : Tab} {Q : VC} {X : XC} (h : frW (f ds) T Q X) : callW (detX f) (dv ds) T Q X := by
  refine callV_ok (f := f) (fun _ _ _ => rfl) ?_
  unfold callV
  rw [dats_dv']
  simp only
  unfold frW at h
  split at h <;> rename_i e <;> simp [e, Rs.post] <;> exact h
theorem dats_inv {ks : List Nat} : ∀ {vs : List Val} {ds : List PyData}, vs.map (renV ks) = dv ds → vs = dv ds
  | [], [], _ => rfl
  | [], _ :: _, h => by cases h
  | _ :: _, [], h => by cases h
  | v :: vs, d :: ds, h => by
    simp only [List.map_cons, dv_cons, List.cons.injEq] at h
    obtain ⟨h1, h2⟩ := h
    rw [dats_inv h2]
    cases v <;> first | (cases h1; rfl) | (simp [renV] at h1)
theorem fr_back {f : FN} {ds : List PyData} {T : Tab} {Q : VC} {X : XC} (h : callW (detX f) (dv ds) T Q X) : frW (f ds) T Q X := by
  rcases h with h | h
  · unfold callF at h
    simp only [obs_dv, tabOf, ren_dv] at h
    obtain ⟨_, ds', e, _, h⟩ := h
    have e' : ds = ds' := by
      have : dats (dv ds) = dats (dv ds') := by rw [e]
      simpa using this
    subst e'
    unfold frW
    split at h <;> rename_i e2 <;> try simp only [e2]
    · simpa [backV, putT] using h
    · simpa [putT] using h
    · exact h
  · obtain ⟨ds', e, e1, h⟩ := h
    have e' : ds = ds' := by
      have : dats (dv ds) = dats (dv ds') := by rw [e]
      simpa using this
    subst e' e1
    exact h
theorem call_iff {f : FN} {ds : List PyData} {T : Tab} {Q : VC} {X : XC} : callW (detX f) (dv ds) T Q X ↔ frW (f ds) T Q X := ⟨fr_back, call_x⟩
@[simp] theorem call_0 {f : FN} {T : Tab} {Q : VC} {X : XC} : callW (detX f) [] T Q X ↔ frW (f []) T Q X := call_iff (ds := [])
@[simp] theorem call_1 {f : FN} {a : PyData} {T : Tab} {Q : VC} {X : XC} : callW (detX f) [.d a] T Q X ↔ frW (f [a]) T Q X := call_iff (ds := [a])
@[simp] theorem call_2 {f : FN} {a b : PyData} {T : Tab} {Q : VC} {X : XC} : callW (detX f) [.d a, .d b] T Q X ↔ frW (f [a, b]) T Q X := call_iff (ds := [a, b])
@[simp] theorem call_3 {f : FN} {a b c : PyData} {T : Tab} {Q : VC} {X : XC} : callW (detX f) [.d a, .d b, .d c] T Q X ↔ frW (f [a, b, c]) T Q X := call_iff (ds := [a, b, c])
@[simp] theorem call_4 {f : FN} {a b c d : PyData} {T : Tab} {Q : VC} {X : XC} : callW (detX f) [.d a, .d b, .d c, .d d] T Q X ↔ frW (f [a, b, c, d]) T Q X := call_iff (ds := [a, b, c, d])
@[simp] theorem call_5 {f : FN} {a b c d e : PyData} {T : Tab} {Q : VC} {X : XC} : callW (detX f) [.d a, .d b, .d c, .d d, .d e] T Q X ↔ frW (f [a, b, c, d, e]) T Q X := call_iff (ds := [a, b, c, d, e])
/-- simp does not look behind a call -/
theorem callW_congr {dsp dsp' : DSp} {vs vs' : List Val} {T T' : Tab} {Q : VC} {X : XC} (hd : dsp = dsp') (h : vs = vs') (hT : T = T') : callW dsp vs T Q X = callW dsp' vs' T' Q X := by
  rw [hd, h, hT]
theorem loopW_congr {src src' : Option (Nat × List Val)} {step : Val → DS} {xs xs' : List Val} {D : DEnds} {sl sl' : Slots} {T T' : Tab} (h0 : src = src') (h : xs = xs') (hs : sl = sl') (hT : T = T') : loopW src step xs D sl T = loopW src' step xs' D sl' T' := by
  rw [h0, h, hs, hT]
theorem compW_congr {src src' : Option (Nat × List Val)} {step : Val → Tab → (Option Val → Tab → Prop) → Prop} {xs xs' acc acc' : List Val} {T T' : Tab} {k : List Val → Tab → Prop} (h0 : src = src') (h : xs = xs') (hs : acc = acc') (hT : T = T') : compW src step xs acc T k = compW src' step xs' acc' T' k := by
  rw [h0, h, hs, hT]
theorem whileW_congr {c : Slots → Tab → (Bool → Tab → Prop) → Prop} {b : DS} {n n' : Nat} {D : DEnds} {sl sl' : Slots} {T T' : Tab} (h : n = n') (hs : sl = sl') (hT : T = T') : whileW c b n D sl T = whileW c b n' D sl' T' := by
  rw [h, hs, hT]
/-- a loop's invariant: what is left, the slots, the table -/
theorem loop_inv {I : List Val → Slots → Tab → Prop} {step : Val → DS} {D : DEnds} (hs : ∀ x r sl T nx, I (x :: r) sl T → (∀ sl T, I r sl T → nx sl T) → step x { D with nx := nx, ct := nx, bk := D.nx } sl T) (he : ∀ sl T, I [] sl T → D.nx sl T) : ∀ {xs : List Val} {sl : Slots} {T : Tab}, I xs sl T → loopW none step xs D sl T
  | [], sl, T, h => ⟨trivial, he _ _ h⟩
  | x :: r, sl, T, h => ⟨trivial, hs x r sl T _ h fun sl T q => loop_inv hs he q⟩
/-- a comprehension's: what is left, what is made -/
theorem comp_inv {I : List Val → List Val → Tab → Prop} {step : Val → Tab → (Option Val → Tab → Prop) → Prop} {k : List Val → Tab → Prop}
    (hs : ∀ x r acc T (k' : Option Val → Tab → Prop), I (x :: r) acc T → (∀ v T, acc.length < sizeLine → I r (acc ++ [v]) T → k' (some v) T) → (∀ T, I r acc T → k' none T) → step x T k') (hl : ∀ xs acc T, I xs acc T → acc.length + xs.length ≤ sizeLine) (he : ∀ acc T, I [] acc T → k acc T) :
    ∀ {xs acc : List Val} {T : Tab}, I xs acc T → compW none step xs acc T k
  | [], acc, T, h => ⟨trivial, he _ _ h⟩
  | x :: r, acc, T, h => by
    have h1 := hl _ _ _ h
    simp only [List.length_cons] at h1
    exact ⟨trivial, hs x r acc T _ h (fun v T _ q => ⟨by omega, comp_inv hs hl he q⟩) fun T q => comp_inv hs hl he q⟩
end DL
namespace DL
open PySem PySem.Spec PyProof.Rows L2
/-! ### lengths of texts -/
@[simp] theorem len_app (a b : Str) : (a ++ b).length = a.length + b.length := by
  simp [Str.length, Str.cps_append]
theorem len_cut (z : Str) (lo hi : Option Int) : (cutS z lo hi).length ≤ z.length := by
  unfold cutS Str.length
  simp
  omega
theorem len_mul (x : Str) (n : Int) : (Txt.mul x n).length ≤ x.length * n.toNat := by
  unfold Txt.mul
  split
  · simp [Str.empty, Str.length]
  · split
    · rename_i h1 h2
      simp at h2
      rcases h2 with h2 | h2
      · subst h2; simp
      · rw [h2]; simp
    · have go : ∀ (k : Nat) (acc : Array Nat), ((List.replicate k x.cps).foldl (· ++ ·) acc).size = acc.size + x.cps.size * k := by
        intro k
        induction k with
        | zero => intro acc; simp
        | succ k ih =>
          intro acc
          rw [List.replicate_succ, List.foldl_cons, ih]
          simp [Nat.mul_succ]
          omega
      have := go n.toNat #[]
      simp only [Str.length]
      rw [this]
      simp
theorem mulok {x : Str} {n : Int} (hx : x.length ≤ 1000) (h0 : 0 ≤ n) (hn : n ≤ 1000) : MulOk x n := by
  refine ⟨?_, fun h1 h2 => ?_, fun h1 h2 => ?_⟩
  · simp; omega
  · have h3 : (1000 : Int) ≤ (2 ^ 63 - 1) / n := Int.le_ediv_of_mul_le (by omega) (by omega)
    omega
  · have h3 : x.length * n.toNat ≤ 1000 * 1000 := Nat.mul_le_mul hx (by omega)
    unfold Builtin.Str.tooLong
    simp
    have := sizeLine_eq
    omega
theorem len_int {i : Int} (h0 : 0 ≤ i) (h : i < 10 ^ 9) : (Str.ofString (toString i)).length ≤ 9 := toString_length_le h0 (by decide) h
theorem log_int {i : Int} (h0 : 0 ≤ i) (h : i < 10 ^ 9) : i.natAbs.log2 < 1920 := by
  have h1 : i.natAbs < 2 ^ 30 := by omega
  by_cases hz : i.natAbs = 0
  · rw [hz]; decide
  · have := (Nat.log2_lt hz).mpr h1
    omega
/-! ### data of bounded width -/
mutual
def okB : PyData → Bool
  | .str s => decide (s.length ≤ 1000)
  | .list xs => decide (xs.length ≤ 1000) && okA xs
  | .tuple xs => decide (xs.length ≤ 1000) && okA xs
  | .dict kvs => kvs.isEmpty
  | .none => true
  | .bool _ => true
  | .int _ => true
def okA : List PyData → Bool
  | [] => true
  | x :: xs => okB x && okA xs
end
@[simp] theorem ok_str {s : Str} : okB (.str s) = decide (s.length ≤ 1000) := by simp [okB]
@[simp] theorem ok_list {xs : List PyData} : okB (.list xs) = (decide (xs.length ≤ 1000) && okA xs) := by simp [okB]
@[simp] theorem ok_tup {xs : List PyData} : okB (.tuple xs) = (decide (xs.length ≤ 1000) && okA xs) := by simp [okB]
@[simp] theorem ok_none : okB .none = true := by simp [okB]
@[simp] theorem ok_bool {b : Bool} : okB (.bool b) = true := by simp [okB]
@[simp] theorem ok_int {b : Int} : okB (.int b) = true := by simp [okB]
@[simp] theorem ok_dict0 : okB (.dict []) = true := by simp [okB]
@[simp] theorem ok_nil : okA [] = true := by simp [okA]
@[simp] theorem ok_cons {x : PyData} {xs : List PyData} : okA (x :: xs) = (okB x && okA xs) := by simp [okA]
@[simp] theorem ok_app {xs ys : List PyData} : okA (xs ++ ys) = (okA xs && okA ys) := by
  induction xs with
  | nil => simp
  | cons x xs ih => simp [ih, Bool.and_assoc]
theorem ok_mem {xs : List PyData} : okA xs = true ↔ ∀ x ∈ xs, okB x = true := by
  induction xs with
  | nil => simp
  | cons x xs ih => simp [ih]
theorem ok_cut {xs : List PyData} {lo hi : Option Int} (h : okA xs = true) : okA (cutD xs lo hi) = true := by
  rw [ok_mem] at h ⊢
  intro x hx
  unfold cutD at hx
  exact h x (List.mem_of_mem_drop (List.mem_of_mem_take hx))
theorem cutD_len {xs : List PyData} {lo hi : Option Int} : (cutD xs lo hi).length ≤ xs.length := by
  unfold cutD
  simp
  omega
theorem ok_mapS {α : Type} {f : α → Str} {xs : List α} (h : ∀ x ∈ xs, (f x).length ≤ 1000) : okA (xs.map fun x => .str (f x)) = true := by
  rw [ok_mem]
  intro y hy
  obtain ⟨x, hx, rfl⟩ := List.mem_map.mp hy
  simpa using h x hx
/-! ### draws -/
theorem draw_at {α : Type} {xs : List α} {v : Int} (h0 : 0 ≤ v) (h1 : v < xs.length) : ∃ x ∈ xs, atI xs v = some x := by
  obtain ⟨x, e, m⟩ := atI_in h0 h1
  exact ⟨x, m, e⟩
/-! ### statement by statement -/
theorem step {Γ : DL.Env} {s : S} {r : Ss} {D : DEnds} {sl : Slots} {T : Tab} (h : ∀ R : Slots → Tab → Prop, (∀ sl T, wpSs Γ r D sl T → R sl T) → wpS Γ s { D with nx := R } sl T) : wpSs Γ (.cons s r) D sl T := by
  simp only [wpSs]
  exact h _ fun _ _ q => q
/-- a while: the fuel, an invariant over the measure -/
theorem wp_whl {Γ : DL.Env} {c : E} {b : Ss} {D : DEnds} {I : Nat → Slots → Tab → Prop} (hs : ∀ k sl T nx, I k sl T → (∀ j sl T, j < k → I j sl T → nx sl T) → wpE Γ c sl T (fun v T1 => truW T1 v fun t => if t = true then wpSs Γ b { D with nx := nx, ct := nx, bk := D.nx } sl T1 else D.nx sl T1) D.xc) {k : Nat} {sl : Slots} {T : Tab} (h : I k sl T) : wpS Γ (.whl c b) D sl T := by
  simp only [wpS]
  refine ⟨k + 1, ?_⟩
  have go : ∀ (n k : Nat) (sl : Slots) (T : Tab), k < n → I k sl T → whileW (fun sl T k => wpE Γ c sl T (fun v T1 => truW T1 v fun t => k t T1) D.xc) (wpSs Γ b) n D sl T := by
    intro n
    induction n with
    | zero => intro k sl T h; omega
    | succ n ih =>
      intro k sl T hk hI
      exact hs k sl T _ hI fun j sl T hj hI => ih j sl T (by omega) hI
  exact go _ k sl T (by omega) h
/-! ### small facts -/
theorem pigeon {α : Type} [DecidableEq α] : ∀ {L M : List α}, L.Nodup → (∀ x ∈ L, x ∈ M) → L.length ≤ M.length
  | [], M, _, _ => by simp
  | x :: L, M, hn, hm => by
    rw [List.nodup_cons] at hn
    have h1 : ∀ y ∈ L, y ∈ M.erase x := fun y hy => (List.mem_erase_of_ne (fun (e : y = x) => hn.1 (by rw [← e]; exact hy))).mpr (hm y (by simp [hy]))
    have h2 := pigeon hn.2 h1
    have h3 := List.length_erase_of_mem (hm x (by simp))
    have h4 := List.length_pos_of_mem (hm x (by simp))
    simp only [List.length_cons]
    omega
theorem rangeL_map : ∀ (n : Nat) (lo : Int), rangeL lo n = (List.range n).map fun (k : Nat) => Val.d (.int (lo + k))
  | 0, lo => rfl
  | n + 1, lo => by
    rw [List.range_succ_eq_map]
    simp only [rangeL, List.map_cons, List.map_map, rangeL_map n (lo + 1)]
    simp
    intro a _
    omega
theorem app_inj {p a b : Str} (h : p ++ a = p ++ b) : a = b := by
  have h1 : (p ++ a).cps = (p ++ b).cps := by rw [h]
  rw [Str.cps_append, Str.cps_append] at h1
  have h3 : p.cps.toList ++ a.cps.toList = p.cps.toList ++ b.cps.toList := by
    have := congrArg Array.toList h1
    simpa only [Array.toList_append] using this
  have h2 : a.cps = b.cps := Array.ext' (List.append_cancel_left h3)
  cases a; cases b; simp at h2; rw [h2]
theorem c2g {o : CmpOp} {T : Tab} {x y : PyData} {u : Val} (h : asD T u = some y) : cmp2D o T (.d x) u = cmpV o x y := by
  unfold cmp2D
  rw [h]
  rfl
def noP (Γ : DL.Env) : PEnv := { fn := fun _ _ => none, globs := Γ.globs, sub := Γ.sub }
theorem noP_ok (Γ : DL.Env) : EnvOk Γ (noP Γ) := ⟨rfl, rfl, fun _ _ _ h => by cases h⟩
abbrev spPick : DSp := drawD 1 pickPre pickPost
theorem call_pick {xs : List PyData} {m n : Nat} {R : Tab} {Q : VC} {X : XC} (hm : m = n + 1) (h0 : xs ≠ []) (h1 : xs.length < 1073741824) (q : ∀ r n', r ∈ xs → n ≤ n' → Q (.d r) (.law n' :: R)) : callW spPick [.ob 0, .d (.list xs)] (.law m :: R) Q X :=
  call_draw (ds := [.list xs]) hm ⟨h0, h1⟩ fun r n' hr hn => q r n' hr hn
theorem rng_small {i : Int} (h0 : 0 ≤ i) (h : i ≤ 1000) : -(2 ^ 62) ≤ i ∧ i < 2 ^ 62 := ⟨by omega, by omega⟩
@[simp] theorem po_nx {sl : Slots} {T : Tab} {D : DEnds} : (Out.nx sl T).post D = D.nx sl T := rfl
@[simp] theorem po_rt {v : Val} {T : Tab} {D : DEnds} : (Out.rt v T).post D = D.rt v T := rfl
@[simp] theorem po_ex {x : DX} {T : Tab} {D : DEnds} : (Out.ex x T).post D = D.xc x T := rfl
@[simp] theorem po_ite {c : Prop} [Decidable c] {a b : Out} {D : DEnds} : (if c then a else b).post D = if c then a.post D else b.post D := by by_cases h : c <;> simp [h]
def oneP (Γ : DL.Env) (j : Nat) (f : FN) : PEnv := { fn := fun i => if i = j then f else fun _ => none, globs := Γ.globs, sub := Γ.sub }
theorem oneP_ok {Γ : DL.Env} {j : Nat} {f : FN} (h : Γ.calls j = detX f) : EnvOk Γ (oneP Γ j f) := ⟨rfl, rfl, fun i ds r e => by
  unfold oneP at e ⊢
  simp only at e ⊢
  by_cases hi : i = j
  · subst hi; simpa using h
  · simp [hi] at e⟩
@[simp] theorem oneP_fn {Γ : DL.Env} {j : Nat} {f : FN} : (oneP Γ j f).fn j = f := by simp [oneP]
theorem len_cut1 {s : Str} (h : 1 ≤ s.length) : (cutS s none (some 1)).length = 1 := by
  unfold cutS Str.length HT.sIx
  have h8 : s.cps.size = s.length := rfl
  simp
  omega
@[simp] theorem rs_opt {α : Type} {c : Prop} [Decidable c] {a b : Option α} {T : Tab} : (if c then Rs.ok a T else Rs.ok b T) = Rs.ok (if c then a else b) T := by
  by_cases h : c <;> simp [h]
theorem comp_wp {α : Type} {step : Val → Tab → (Option Val → Tab → Prop) → Prop} {T : Tab} {g h : α → Val} {k : List Val → Tab → Prop} : ∀ {cs : List α} {acc : List Val}, (∀ c ∈ cs, ∀ k' : Option Val → Tab → Prop, k' (some (h c)) T → step (g c) T k') → acc.length + cs.length ≤ sizeLine → k (acc ++ cs.map h) T → compW none step (cs.map g) acc T k
  | [], acc, _, _, q => ⟨trivial, by simpa using q⟩
  | c :: cs, acc, hs, hl, q => by
    simp only [List.length_cons] at hl
    refine ⟨trivial, hs c (by simp) _ ⟨by omega, comp_wp (fun d hd => hs d (by simp [hd])) (by simp; omega) (by simpa using q)⟩⟩
@[simp] theorem b2_od {o : Operator} {T : Tab} {y : PyData} {n : Nat} : bin2 o T (.ob n) (.d y) = (asD T (.ob n)).bind fun x => (binV o x y).map .d := by
  unfold bin2
  simp only [asD_d]
  cases asD T (.ob n) <;> rfl
@[simp] theorem b2_do {o : Operator} {T : Tab} {y : PyData} {n : Nat} : bin2 o T (.d y) (.ob n) = (asD T (.ob n)).bind fun x => (binV o y x).map .d := by
  unfold bin2
  simp only [asD_d]
  cases asD T (.ob n) <;> rfl
theorem gen_list {P : List PyData → Prop} {l : List PyData} {k : Nat} (h : ∀ l, okA l = true → l.length = k → P l) (ho : okA l = true) (hl : l.length = k) : P l := h l ho hl
@[simp] theorem eqg_t0 {xs : List PyData} : EqG (.tuple xs) (.tuple []) := .inr trivial
@[simp] theorem eqv_t0 {xs : List PyData} : PyData.eqv (.tuple xs) (.tuple []) = xs.isEmpty := by
  cases xs <;> simp [PyData.eqv, PyData.eqvAll]
theorem cut_lo {xs : List PyData} {v : Int} (h0 : 0 ≤ v) (h1 : v ≤ xs.length) : (cutD xs none (some v)).length = v.toNat := by
  have e1 : HT.sIx xs.length 0 none = 0 := rfl
  have e2 : HT.sIx xs.length xs.length (some v) = min v.toNat xs.length := by
    show (if v < 0 then (v + (xs.length : Int)).toNat else min v.toNat xs.length) = _
    rw [if_neg (by omega)]
  unfold cutD
  rw [e1, e2, List.drop_zero, List.length_take, Nat.sub_zero]
  omega
theorem cut_hi {xs : List PyData} {v : Int} (h0 : 0 ≤ v) (h1 : v ≤ xs.length) : (cutD xs (some v) none).length = xs.length - v.toNat := by
  have e1 : HT.sIx xs.length xs.length none = xs.length := rfl
  have e2 : HT.sIx xs.length 0 (some v) = min v.toNat xs.length := by
    show (if v < 0 then (v + (xs.length : Int)).toNat else min v.toNat xs.length) = _
    rw [if_neg (by omega)]
  unfold cutD
  rw [e1, e2, List.length_take, List.length_drop]
  omega
end DL
/-! defs that keep their promises; the facts of the head; the end -/
namespace DL
open PySem PySem.Spec PyProof.Rows L2
/-! ### constants -/
mutual
def datB (K : PySem.W.Frag) : PyData → Value → Bool
  | .none, .none => true
  | .bool b, .bool c => b == c
  | .int i, .int j _ => decide (i = j)
  | .str x, .str y _ => decide (x = y)
  | .tuple xs, .ref a => (match K.lookup a with
    | some ⟨.type c, _, .seq its _, _⟩ => decide (c = "tuple") && (decide (its.size ≤ 1000) && datA K xs its.toList)
    | _ => false)
  | _, _ => false
def datA (K : PySem.W.Frag) : List PyData → List Value → Bool
  | [], [] => true
  | x :: xs, u :: us => datB K x u && datA K xs us
  | _, _ => false
end
mutual
theorem datB_ok {K : PySem.W.Frag} : ∀ (x : PyData) (u : Value), datB K x u = true → ∃ v, RelV v u ∧ ∀ G, Rp K G x v
  | .none, u, h => by
    cases u with
    | none => exact ⟨.non, rfl, fun G => by simp [Rp]⟩
    | _ => simp [datB] at h
  | .bool b, u, h => by
    cases u with
    | bool c =>
      simp [datB] at h
      subst h
      exact ⟨.bl b, rfl, fun G => by simp [Rp]⟩
    | _ => simp [datB] at h
  | .int i, u, h => by
    cases u with
    | int j t =>
      simp [datB] at h
      subst h
      exact ⟨.int i, ⟨t, rfl⟩, fun G => by simp [Rp]⟩
    | _ => simp [datB] at h
  | .str x, u, h => by
    cases u with
    | str y t =>
      simp [datB] at h
      subst h
      exact ⟨.str x, ⟨t, rfl⟩, fun G => by simp [Rp]⟩
    | _ => simp [datB] at h
  | .tuple xs, u, h => by
    cases u with
    | ref a =>
      simp only [datB] at h
      split at h
      · rename_i c od its n osl e
        simp only [Bool.and_eq_true, decide_eq_true_eq] at h
        obtain ⟨h1, h2, h3⟩ := h
        obtain ⟨vs, r, q⟩ := datA_ok xs _ h3
        refine ⟨.ref a, rfl, fun G => ?_⟩
        simp only [Rp]
        exact ⟨a, vs, rfl, .inr ⟨_, its, n, e, congrArg Value.type h1, rfl, size_k h2, r⟩, q G⟩
      · cases h
    | _ => simp [datB] at h
  | .list xs, u, h => by cases u <;> simp [datB] at h
  | .dict xs, u, h => by cases u <;> simp [datB] at h
theorem datA_ok {K : PySem.W.Frag} : ∀ (xs : List PyData) (us : List Value), datA K xs us = true → ∃ vs, Vals vs us ∧ ∀ G, RpL K G xs vs
  | [], us, h => by
    cases us with
    | nil => exact ⟨[], .nil, fun G => by simp [RpL]⟩
    | cons _ _ => simp [datA] at h
  | x :: xs, us, h => by
    cases us with
    | nil => simp [datA] at h
    | cons u us =>
      simp only [datA, Bool.and_eq_true] at h
      obtain ⟨v, r1, q1⟩ := datB_ok x u h.1
      obtain ⟨vs, r2, q2⟩ := datA_ok xs us h.2
      exact ⟨v :: vs, .cons r1 r2, fun G => by simp only [RpL]; exact ⟨v, vs, rfl, q1 G, q2 G⟩⟩
end
/-- the module's name x holds this data -/
def globB (K : PySem.W.Frag) (p : Str × PyData) : Bool := match PySem.W.nsIn K mainGlobals p.1 with
  | some (some u) => datB K p.2 u
  | _ => false
def GlobOk (K : PySem.W.Frag) (mg : Str → Option Value) (x : Str) (g : PyData) : Prop := ∃ u v, mg x = some u ∧ RelV v u ∧ ∀ G, Rp K G g v
theorem globB_ok {K : PySem.W.Frag} {h : Heap} {mg : Str → Option Value} (X : K.In h) (G : h.Ns mainGlobals mg) {p : Str × PyData} (e : globB K p = true) : GlobOk K mg p.1 p.2 := by
  unfold globB at e
  split at e
  · rename_i u q
    obtain ⟨v, r, z⟩ := datB_ok _ _ e
    exact ⟨u, v, PySem.W.mg_of X G q, r, z⟩
  · cases e
/-! ### classes of errors -/
def excB (K : PySem.W.Frag) (D : Addr) : Bool :=
  He.eqO (PySem.W.findIn K (.ref D) "__getattribute__") (some (some (.builtin "BaseException.__getattribute__"))) &&
  (He.eqO (PySem.W.findIn K (.ref D) "__getattr__") (some none) && (decide (PySem.W.subIn K (.ref D) (.type "BaseException") = some true) && (PySem.W.hasDictIn K D &&
  (He.eqO (PySem.W.findIn K (.ref D) "__class__") (some (some (.builtin "object.__class__"))) && (He.eqO (PySem.W.specialIn K (.builtin "object.__class__") "__get__") (some (some (.builtin "getset_descriptor.__get__"))) &&
  (decide (PySem.W.takesIn K (.builtin "object.__class__") = some true) && decide (PySem.W.mroIn K D (.type "object") = some true)))))))
theorem excB_ok {K : PySem.W.Frag} {D : Addr} (h : excB K D = true) : ExcC K D := by
  unfold excB at h
  simp only [Bool.and_eq_true, decide_eq_true_eq] at h
  obtain ⟨h1, h2, h3, h4, h5, h6, h7, h8⟩ := h
  exact ⟨He.eqO_ok h1, He.eqO_ok h2, h3, h4, He.eqO_ok h5, He.eqO_ok h6, h7, h8⟩
/-- class x, class y: is x below y -/
abbrev Subs := List (Str × Str × Bool)
def subOf (ps : Subs) : Str → Str → Option Bool := fun x y => (ps.find? fun p => p.1 == x && p.2.1 == y).map fun p => p.2.2
def baseB (K : PySem.W.Frag) (c : Addr) : Bool := (["int", "bool", "str", "list", "tuple", "dict", "NoneType"] : List String).all fun t => decide (PySem.W.kitOne K (.type t) (.ref c) = some false)
def subB (K : PySem.W.Frag) (p : Str × Str × Bool) : Bool := decide (PySem.W.kitOne K (.ref (He.ga K p.1)) (.ref (He.ga K p.2.1)) = some p.2.2) && (excB K (He.ga K p.1) && (decide (PySem.W.exmOne K (.ref (He.ga K p.1)) (.ref (He.ga K p.2.1)) = some p.2.2)))
theorem subOf_mem {ps : Subs} {x y : Str} {b : Bool} (h : subOf ps x y = some b) : (x, y, b) ∈ ps := by
  unfold subOf at h
  obtain ⟨p, h1, h2⟩ := Option.map_eq_some_iff.mp h
  have h3 := List.find?_some h1
  have h4 := List.mem_of_find?_eq_some h1
  simp only [Bool.and_eq_true, beq_iff_eq] at h3
  obtain ⟨a, b', c⟩ := p
  simp only at h2 h3
  rw [← h3.1, ← h3.2, ← h2]
  exact h4
theorem tyOk_mem {t : String} (h : tyOk t = true) : t ∈ (["int", "bool", "str", "list", "tuple", "dict", "NoneType"] : List String) := by
  unfold tyOk at h
  simp only [Bool.or_eq_true, beq_iff_eq] at h
  simp only [List.mem_cons, List.not_mem_nil, or_false]
  grind
theorem subs_ok {K : PySem.W.Frag} {ps : Subs} {c : Str} (h : ps.all (subB K) = true) (hb : baseB K (He.ga K c) = true) : SubOk K (subOf ps) c := by
  refine ⟨fun x b e => ?_, fun x b e => ?_, fun t ht => ?_⟩
  · have := List.all_eq_true.mp h _ (subOf_mem e)
    unfold subB at this
    simp only [Bool.and_eq_true, decide_eq_true_eq] at this
    exact this.1
  · have := List.all_eq_true.mp h _ (subOf_mem e)
    unfold subB at this
    simp only [Bool.and_eq_true, decide_eq_true_eq] at this
    exact excB_ok this.2.1
  · unfold baseB at hb
    exact of_decide_eq_true (List.all_eq_true.mp hb t (tyOk_mem ht))
theorem csub_ok {K : PySem.W.Frag} {ps : Subs} {c : Str} (h : ps.all (subB K) = true) : ∀ y, subOf ps y c = some true → PySem.W.exmOne K (.ref (He.ga K y)) (.ref (He.ga K c)) = some true := fun y e => by
  have := List.all_eq_true.mp h _ (subOf_mem e)
  unfold subB at this
  simp only [Bool.and_eq_true, decide_eq_true_eq] at this
  exact this.2.2
/-! ### defs -/
section
variable {P : Program} {w : World} {K : PySem.W.Frag} {mg : Str → Option Value} {base : Heap}
def DefS (P : Program) (w : World) (K : PySem.W.Frag) (mg : Str → Option Value) (base : Heap) (k : Nat) (x : Str) (n : Nat) (dsp : DSp) : Prop :=
  ∃ k' f fd ps, k' ≤ k ∧ FnOk P w K mg base (L2.CX P w) k' f fd ps (spOf K n dsp) ∧ MonoS dsp ∧ mg x = some (.ref f) ∧ PySem.W.keepIn K (.ref f) = true ∧ Binds K fd ps []
def KDefS (P : Program) (w : World) (K : PySem.W.Frag) (mg : Str → Option Value) (base : Heap) (k : Nat) (x : Str) (n : Nat) (ks : List Str) (pm : List Nat) (dsp : DSp) : Prop :=
  ∃ k' a fd ps, k' ≤ k ∧ FnOk P w K mg base (L2.CX P w) k' a fd ps (spOf K (n + ks.length) dsp) ∧ MonoS dsp ∧ mg x = some (.ref a) ∧ PySem.W.keepIn K (.ref a) = true ∧ KB K fd ps n ks pm
def FDefS (P : Program) (w : World) (K : PySem.W.Frag) (mg : Str → Option Value) (base : Heap) (k : Nat) (x : Str) (n : Nat) (dsp : DSp) : Prop :=
  ∃ k' fd ps, k' ≤ k ∧ FnOk P w K mg base (L2.CX P w) k' (He.ga K x) fd ps (spOf K n dsp) ∧ MonoS dsp ∧ mg x = some (.ref (He.ga K x)) ∧ PySem.W.keepIn K (.ref (He.ga K x)) = true ∧ Binds K fd ps []
theorem DefS.mono {k k' : Nat} {x : Str} {n : Nat} {dsp : DSp} (h : DefS P w K mg base k x n dsp) (hk : k ≤ k') : DefS P w K mg base k' x n dsp := by
  obtain ⟨j, f, fd, ps, h1, h2⟩ := h
  exact ⟨j, f, fd, ps, Nat.le_trans h1 hk, h2⟩
theorem FDefS.mono {k k' : Nat} {x : Str} {n : Nat} {dsp : DSp} (h : FDefS P w K mg base k x n dsp) (hk : k ≤ k') : FDefS P w K mg base k' x n dsp := by
  obtain ⟨j, fd, ps, h1, h2⟩ := h
  exact ⟨j, fd, ps, Nat.le_trans h1 hk, h2⟩
theorem KDefS.mono {k k' : Nat} {x : Str} {n : Nat} {ks : List Str} {pm : List Nat} {dsp : DSp} (h : KDefS P w K mg base k x n ks pm dsp) (hk : k ≤ k') : KDefS P w K mg base k' x n ks pm dsp := by
  obtain ⟨j, f, fd, ps, h1, h2⟩ := h
  exact ⟨j, f, fd, ps, Nat.le_trans h1 hk, h2⟩
/-- callees by their promises -/
abbrev DefL (P : Program) (w : World) (K : PySem.W.Frag) (mg : Str → Option Value) (base : Heap) (k : Nat) (fns : List (Str × Nat)) (ds : List DSp) : Prop := Paired (fun (p : Str × Nat) d => DefS P w K mg base k p.1 p.2 d) fns ds
abbrev KDefL (P : Program) (w : World) (K : PySem.W.Frag) (mg : Str → Option Value) (base : Heap) (k : Nat) (ds : List DSp) (kfn : List (Str × Nat × Nat × List Str × List Nat)) : Prop := ∀ p ∈ kfn, KDefS P w K mg base k p.1 p.2.2.1 p.2.2.2.1 p.2.2.2.2 (ds.getD p.2.1 (detX fun _ => none))
abbrev FDefL (P : Program) (w : World) (K : PySem.W.Frag) (mg : Str → Option Value) (base : Heap) (k : Nat) (ds : List DSp) (fvs : List (Str × Nat × Nat)) : Prop := ∀ p ∈ fvs, FDefS P w K mg base k p.1 p.2.2 (ds.getD p.2.1 (detX fun _ => none))
def envOf (ds : List DSp) (gs : List PyData) (sub : Str → Str → Option Bool) : DL.Env := { calls := fun i => ds.getD i (detX fun _ => none), globs := fun i => gs.getD i .none, sub := sub }
def pOf (fs : List FN) (gs : List PyData) (sub : Str → Str → Option Bool) (fuel : Nat := 0) : PEnv := { fn := fun i => fs.getD i (fun _ => none), globs := fun i => gs.getD i .none, sub := sub, fuel := fuel }
theorem pOf_ok {fs : List FN} {gs : List PyData} {sub : Str → Str → Option Bool} {fuel : Nat} : EnvOk (envOf (fs.map detX) gs sub) (pOf fs gs sub fuel) := by
  refine ⟨rfl, rfl, fun i ds r e => ?_⟩
  show (fs.map detX).getD i (detX fun _ => none) = detX (fs.getD i fun _ => none)
  simp [List.getD, List.getElem?_map]
theorem Paired.get_ {α β : Type} {F : α → β → Prop} : ∀ {xs : List α} {ys : List β} {i : Nat} {x : α}, Paired F xs ys → xs[i]? = some x → ∃ y, ys[i]? = some y ∧ F x y
  | _, _, i, x, .nil, e => by simp at e
  | _, _, 0, x, .cons r t, e => by
    simp at e; subst e
    exact ⟨_, rfl, r⟩
  | _, _, i + 1, x, .cons r t, e => by
    simp at e
    obtain ⟨y, h1, h2⟩ := Paired.get_ t e
    exact ⟨y, by simpa using h1, h2⟩
theorem mk_deps {ds : List DSp} {gs : List PyData} {sub : Str → Str → Option Bool} {C : CkI} (hf : DefL P w K mg base C.lv C.fns ds) (hk : KDefL P w K mg base C.lv ds C.kfn) (hv : FDefL P w K mg base C.lv ds C.fvs) (fr : ∀ x ∈ C.free, mg x = none) (hg : Paired (GlobOk K mg) C.globs gs)
    (hs : ∀ c ∈ C.clss, SubOk K sub c ∧ mg c = some (.ref (He.ga K c))) (hc : ∀ y, sub y C.cexc = some true → PySem.W.exmOne K (.ref (He.ga K y)) (.ref (He.ga K C.cexc)) = some true) (he : ∀ c ∈ C.excs, mg c = some (.ref (He.ga K c)) ∧ (He.Fa.exc c).ok K = true) (hx : ∀ p ∈ C.xfs, 2 ≤ C.lv ∧ mg p.1 = some (.ref (He.ga K p.1)) ∧ PySem.W.subIn K (.ref (He.ga K p.1)) (.type "BaseException") = some true ∧ IniAt P K p.1 p.2 := by intro p hp; cases hp) (hfl : ∀ p ∈ C.flds, FldOk K p.1 p.2 := by intro p hp; cases hp) :
    Deps P w K mg base (envOf ds gs sub) C where
  fns := fun i x n e => by
    obtain ⟨d, h1, k', f, fd, ps, h2, h3, h4, h5, h6, h7⟩ := Paired.get_ hf e
    have e1 : (envOf ds gs sub).calls i = d := by simp [envOf, List.getD, h1]
    rw [e1]
    exact ⟨k', f, fd, ps, h2, h3, h4, h5, h6, h7⟩
  kfns := fun j x f n ks pm e => hk (x, f, n, ks, pm) (List.mem_of_getElem? e)
  fvs := fun x f n e => hv (x, f, n) e
  free := fr
  globs := fun i x e => by
    obtain ⟨g, h1, u, v, h2, h3, h4⟩ := Paired.get_ hg e
    have e1 : (envOf ds gs sub).globs i = g := by simp [envOf, List.getD, h1]
    rw [e1]
    exact ⟨u, v, h2, h3, h4⟩
  subs := hs
  csub := hc
  excs := he
  xfs := hx
  flds := hfl
/-- what a def's own text and head say -/
structure DefT (K : PySem.W.Frag) (mg : Str → Option Value) (C : CkI) (x : Str) (ps : List Str) (b : Ss) (f : Addr) (fd : FuncData) : Prop where
  nm : mg x = some (.ref f)
  fn : ∃ (params : Arguments) (body : List Stmt) (scope : Scope), FunD K x x params body scope [] [] f fd ∧ FnScope C.N ps scope ∧ C.names = scope.names ∧ chkSs C b body = true ∧ ps.length ≤ C.N.length
  bind : Binds K fd ps []
  kp : PySem.W.keepIn K (.ref f) = true
structure DefX (P : Program) (w : World) (K : PySem.W.Frag) (mg : Str → Option Value) (base : Heap) (k : Nat) (x : Str) (ps : List Str) (f : Addr) (fd : FuncData) (dsp : DSp) : Prop where
  ok : FnOk P w K mg base (L2.CX P w) k f fd ps (spOf K ps.length dsp)
  mono : MonoS dsp
  nm : mg x = some (.ref f)
  kp : PySem.W.keepIn K (.ref f) = true
  bind : Binds K fd ps []
theorem DefX.s {k : Nat} {x : Str} {ps : List Str} {f : Addr} {fd : FuncData} {dsp : DSp} (h : DefX P w K mg base k x ps f fd dsp) : DefS P w K mg base k x ps.length dsp := ⟨k, f, fd, ps, Nat.le_refl _, h.ok, h.mono, h.nm, h.kp, h.bind⟩
theorem DefX.kw {k : Nat} {x : Str} {ps : List Str} {f : Addr} {fd : FuncData} {dsp : DSp} (h : DefX P w K mg base k x ps f fd dsp) {n : Nat} {ks : List Str} {pm : List Nat} (hn : ps.length = n + ks.length) (kb : KB K fd ps n ks pm) : KDefS P w K mg base k x n ks pm dsp :=
  ⟨k, f, fd, ps, Nat.le_refl _, by rw [← hn]; exact h.ok, h.mono, h.nm, h.kp, kb⟩
theorem DefX.fv {k : Nat} {x : Str} {ps : List Str} {fd : FuncData} {dsp : DSp} (h : DefX P w K mg base k x ps (He.ga K x) fd dsp) : FDefS P w K mg base k x ps.length dsp :=
  ⟨k, fd, ps, Nat.le_refl _, h.ok, h.mono, h.nm, h.kp, h.bind⟩
theorem mk_defk {C : CkI} {x : Str} {ps : List Str} {b : Ss} {f : Addr} {fd : FuncData} {Γ : DL.Env} {dsp : DSp} {k : Nat} (hk : C.lv ≤ k) (T : DefT K mg C x ps b f fd) (D : Deps P w K mg base Γ C)
    (hcatch : C.lam = true → ∀ (scope : Scope) (cdv : Value), (∃ oc od osl fd', K.lookup f = some ⟨oc, od, .func fd', osl⟩ ∧ fd'.code = cdv) → PySem.W.codeIn K cdv x = true → ∀ A outer s H E, Room k (A.deeper (envOfC x scope s.heap.objs.size f cdv)) → CatchOk (cxOf (L2.CX P w) P w K mg base C.N x scope f cdv A outer s H E) C.lv C.cfun C.cexc)
    (mono : MonoS dsp) (h : MonoS (rawD Γ b C.N.length) → ∀ vs H Q E, spOf K ps.length dsp vs H Q E → spOf K ps.length (rawD Γ b C.N.length) vs H Q E) : DefX P w K mg base (k + 1) x ps f fd dsp := by
  obtain ⟨params, body, scope, F, S, hn, hc, hps⟩ := T.fn
  exact ⟨def_ok F S rfl hn hc D hk hps (fun z cdv h1 h2 A outer s H E hr => hcatch z scope cdv h1 h2 A outer s H E hr) h, mono, T.nm, T.kp, T.bind⟩
theorem mk_def0 {C : CkI} {x : Str} {ps : List Str} {b : Ss} {f : Addr} {fd : FuncData} {Γ : DL.Env} {dsp : DSp} (T : DefT K mg C x ps b f fd) (D : Deps P w K mg base Γ C) (hl : C.lam = false)
    (mono : MonoS dsp) (h : MonoS (rawD Γ b C.N.length) → ∀ vs H Q E, spOf K ps.length dsp vs H Q E → spOf K ps.length (rawD Γ b C.N.length) vs H Q E) : DefX P w K mg base (C.lv + 1) x ps f fd dsp :=
  mk_defk (Nat.le_refl _) T D (fun z => by rw [hl] at z; cases z) mono h
theorem mk_def {C : CkI} {x : Str} {ps : List Str} {b : Ss} {f : Addr} {fd : FuncData} {Γ : DL.Env} {dsp : DSp} (T : DefT K mg C x ps b f fd) (D : Deps P w K mg base Γ C) (hl : C.lam = false) (mono : MonoS dsp)
    (h : ∀ vs T Q X, dsp vs T Q X → rawD Γ b C.N.length vs T (cutW T.length Q) (cutX T.length X)) : DefX P w K mg base (C.lv + 1) x ps f fd dsp :=
  mk_def0 T D hl mono fun m => spOf_cut m h
/-- a def from data to data -/
theorem mk_det {C : CkI} {x : Str} {ps : List Str} {b : Ss} {f : Addr} {fd : FuncData} {fs : List FN} {gs : List PyData} {sub : Str → Str → Option Bool} {g : FN} (fuel : Nat) (T : DefT K mg C x ps b f fd) (D : Deps P w K mg base (envOf (fs.map detX) gs sub) C) (hl : C.lam = false)
    (h : ∀ ds r, g ds = some r → evD (pOf fs gs sub fuel) b C.N.length ds = some r) : DefX P w K mg base (C.lv + 1) x ps f fd (detX g) :=
  mk_def T D hl detX_mono (evD_raw pOf_ok h)
/-- nothing is promised -/
theorem mk_none {C : CkI} {x : Str} {ps : List Str} {b : Ss} {f : Addr} {fd : FuncData} (T : DefT K mg C x ps b f fd) : DefX P w K mg base 0 x ps f fd (detX fun _ => none) := by
  refine ⟨⟨?_, ?_⟩, detX_mono, T.nm, T.kp, T.bind⟩
  · rintro vs H Q E ⟨G, m, T, vals, _, _, _, ds, _, _, q⟩
    exact q.elim
  · rintro A outer s H args us vs Q E _ _ _ _ ⟨G, m, T, vals, _, _, _, ds, _, _, q⟩
    exact q.elim
end
theorem kb_of {K : PySem.W.Frag} {x qual : Str} {params : Arguments} {body : List Stmt} {scope : Scope} {kws : List (Str × V)} {f : Addr} {fd : FuncData} {ps ks : List Str} {n : Nat} {pm : List Nat} (F : FunD K x qual params body scope [] kws f fd) (perm : pm = [] ∨ (pm.length = ks.length ∧ pm.all (· < ks.length) = true))
    (h : ∀ (kV doc pmx : Value) (an : Option Addr) (cdv ct : Value) (us ws : List Value), us.length = n → ws.length = ks.length → bindArgs (PySem.W.fnOf x qual params body scope .none kV doc pmx an cdv ct) ⟨us, ks.zip ws⟩ = pure (ps.zip (us ++ prm pm ws))) : KB K fd ps n ks pm := by
  obtain ⟨oc, od, dV, kV, doc, pmx, an, cdv, ct, osl, rfl, lk, hcd, hD, hK⟩ := F.ex
  rcases hD with ⟨_, rfl⟩ | ⟨e, _⟩
  · exact ⟨perm, fun s us ws _ hl hl2 => .of_eq (h kV doc pmx an cdv ct us ws hl hl2)⟩
  · exact absurd rfl e
def AllL {α : Type} (F : α → Prop) : List α → Prop
  | [] => True
  | x :: r => F x ∧ AllL F r
theorem AllL.all {α : Type} {F : α → Prop} : ∀ {l : List α}, AllL F l → ∀ x ∈ l, F x
  | [], _, x, hx => by cases hx
  | y :: l, h, x, hx => by
    rcases List.mem_cons.mp hx with rfl | hx
    · exact h.1
    · exact h.2.all x hx
/-- what a def that hands lambdas to the catcher asks: k is two levels above what the lambda calls -/
def CatchH (P : Program) (w : World) (K : PySem.W.Frag) (mg : Str → Option Value) (base : Heap) (x : Str) (cf ce : Str) (lv : Nat) (N : List Str) : Prop :=
  ∀ (scope : Scope) (cdv : Value), (∃ oc od osl fd', K.lookup (He.ga K x) = some ⟨oc, od, .func fd', osl⟩ ∧ fd'.code = cdv) → PySem.W.codeIn K cdv x = true → ∀ A outer s H E, Room (lv + 2) (A.deeper (envOfC x scope s.heap.objs.size (He.ga K x) cdv)) → CatchOk (cxOf (L2.CX P w) P w K mg base N x scope (He.ga K x) cdv A outer s H E) lv cf ce
theorem mk_lam {P : Program} {w : World} {K : PySem.W.Frag} {mg : Str → Option Value} {base : Heap} {C : CkI} {x : Str} {ps : List Str} {b : Ss} {fd : FuncData} {Γ : DL.Env} {dsp : DSp} (T : DefT K mg C x ps b (He.ga K x) fd) (D : Deps P w K mg base Γ C) (hc : CatchH P w K mg base x C.cfun C.cexc C.lv C.N) (mono : MonoS dsp)
    (h : ∀ vs T Q X, dsp vs T Q X → rawD Γ b C.N.length vs T (cutW T.length Q) (cutX T.length X)) : DefX P w K mg base (C.lv + 3) x ps (He.ga K x) fd dsp :=
  mk_defk (Nat.le_add_right _ 2) T D (fun _ scope cdv h1 h2 A outer s H E hr => hc scope cdv h1 h2 A outer s H E hr) mono fun m => spOf_cut m h
theorem fst_eq {α β : Type} {l : List (α × β)} (h : (l.map (·.1)).Nodup) {p q : α × β} (hp : p ∈ l) (hq : q ∈ l) (e : p.1 = q.1) : p = q := by
  induction l with
  | nil => cases hp
  | cons a l ih =>
    simp only [List.map_cons, List.nodup_cons] at h
    rcases List.mem_cons.mp hp with hp2 | hp2 <;> rcases List.mem_cons.mp hq with hq2 | hq2
    · rw [hp2, hq2]
    · subst hp2
      exact absurd (List.mem_map.mpr ⟨q, hq2, e.symm⟩) h.1
    · subst hq2
      exact absurd (List.mem_map.mpr ⟨p, hp2, e⟩) h.1
    · exact ih h.2 hp2 hq2
/-! ### the end -/
theorem tabS_new {H : Hp} {P : Addr} {q : Str} (h : H P = some (.tbl #[])) : LamX.TabS H P q := ⟨#[], h, by simp [TriplesOk], fun pos cv hc => by simp [codeAmong] at hc⟩
/-- the script read as the layer reads it -/
theorem start_sp {K : PySem.W.Frag} {H : Hp} {a : Addr} {ns : List Int} {dsp : DSp} (ht : ∀ p ∈ tbOf K, H p.1 = some (.tbl #[])) (hS : SqL K H a (ns.map V.int)) (h : ∀ Q X, Q (.d (.bool true)) [] → dsp [.scr ns] [] Q X) : spOf K 1 dsp [.ref a] H (fun v _ => v = .bl true) fun _ _ _ => False := by
  refine ⟨fun b => match H b with | some (.tbl _) => none | o => o, [], [], [.scr ns], ?_, ?_, rfl, ?_⟩
  · exact {
      sub := fun b o e => by
        try simp only at e
        split at e
        · cases e
        · exact e
      len := rfl
      nd := by simp
      al := fun b hb => by simp at hb
      ob := fun k o e => by simp at e
      dat := fun b ps e => by
        try simp only at e
        split at e
        · cases e
        · rename_i hno; exact hno ps e
      tb := fun p hp => tabS_new (ht p hp) }
  · refine .cons ⟨a, rfl, ?_⟩ .nil
    rcases hS with (hS | ⟨o, hS⟩) | hS
    · exact .inl (.inl (by simp only [hS]))
    · exact .inl (.inr ⟨o, by simp only [hS]⟩)
    · exact .inr hS
  · refine h _ _ fun G' H' m' x e w' r => ?_
    simpa [VRel, Rp] using r
end DL
/-! heads that hold own errors with fields -/
namespace DL
open PySem PySem.Spec PyProof.Rows L2
/-! ### a class of errors with an own __init__ -/
structure IniD where
  cls : Str
  qual : Str
  params : Arguments
  body : List Stmt
  scope : Scope
  ps : List Str
def iniF (K : PySem.W.Frag) (c : Str) : Addr := He.ma K (He.ga K c) "__init__"
abbrev IniV : Type := Option (Str × Str × Arguments × FuncBody × Scope × Addr × Addr)
def iniW (K : PySem.W.Frag) (d : IniD) : IniV := match K.lookup (iniF K d.cls) with
  | some ⟨_, _, .func fd, _⟩ => some (fd.name, fd.qualname, fd.params, fd.body, fd.scope, fd.globals, fd.builtins)
  | _ => none
def IniD.val (d : IniD) : IniV := some ("__init__", d.qual, d.params, .stmts d.body, d.scope, mainGlobals, builtinsNs)
def oexB (K : PySem.W.Frag) (C : Addr) : Bool := (match K.lookup C with
  | some ⟨.type "type", _, .cls cd, sl⟩ => (match cd.mro, sl.toList with
    | .ref C' :: bm, [_, _, _, _, some (.builtin n), _] => C' == C && n == "ValueError.__new__" && !cd.hasDel && cd.hasDict && PySem.HandSPX.refsVE bm
    | _, _ => false)
  | _ => false) && (He.eqO (PySem.W.findIn K (.ref C) "__setattr__") (some (some (.builtin "object.__setattr__"))) && (decide (PySem.W.subIn K (.ref C) (.type "BaseException") = some true) && (decide (PySem.W.typeIn K (.ref C) = some (.type "type")) && PySem.W.keepIn K (.ref C))))
theorem oexB_ok {K : PySem.W.Frag} {C : Addr} (h : oexB K C = true) : OexC K C := by
  unfold oexB at h
  simp only [Bool.and_eq_true, decide_eq_true_eq] at h
  obtain ⟨h1, h2, h3, h4, h5⟩ := h
  refine ⟨?_, He.eqO_ok h2, h3, h4, h5⟩
  split at h1
  · rename_i dd cd sl ho
    split at h1
    · rename_i C' bm k0 k1 k2 k3 n k5 hm hs
      simp only [Bool.and_eq_true, beq_iff_eq, Bool.not_eq_true'] at h1
      obtain ⟨⟨⟨⟨rfl, rfl⟩, hdel⟩, hd⟩, ht⟩ := h1
      obtain ⟨nm, bs, mro, ns, qn, hdi, sn, sub, ab, col, del⟩ := cd
      dsimp only at hm hdel hd
      subst hm hdel hd
      have hsl : sl = #[k0, k1, k2, k3, some (.builtin "ValueError.__new__"), k5] := by
        obtain ⟨l⟩ := sl
        simp only at hs
        rw [hs]
      subst hsl
      exact ⟨nm, qn, ns, bs, bm, sn, sub, ab, col, dd, k0, k1, k2, k3, k5, ho, ht⟩
    · cases h1
  · cases h1
def noneV : Value → Bool
  | .none => true
  | _ => false
/-- the def's code and its cell -/
def iniC (P : Program) (K : PySem.W.Frag) (C f : Addr) (qual : Str) : Bool := match K.lookup f with
  | some ⟨_, _, .func fd, _⟩ => PySem.W.codeIn K fd.code qual && (noneV fd.defaults && ((match fd.closure with
    | [(n, cc)] => n == ("__class__" : Str) && (match K.lookup cc with
      | some ⟨_, _, .cell (some (.ref D)), _⟩ => D == C
      | _ => false)
    | _ => false) && (match fd.code with
    | .ref cda => (match K.lookup cda with
      | some ⟨_, _, .fields vs, _⟩ => (match (vs : Array Value)[2]? with
        | some (Value.str file _) => ((P.main.file : Str) == file)
        | _ => false)
      | _ => false)
    | _ => false)))
  | _ => false
def iniB (P : Program) (K : PySem.W.Frag) (d : IniD) : Bool :=
  oexB K (He.ga K d.cls) && (He.eqO (PySem.W.findIn K (.ref (He.ga K d.cls)) "__init__") (some (some (.ref (iniF K d.cls)))) && (decide (PySem.W.typeIn K (.ref (iniF K d.cls)) = some (.type "function")) && (iniC P K (He.ga K d.cls) (iniF K d.cls) d.qual &&
  (decide (PySem.W.mroIn K (He.ga K d.cls) (.ref (He.ga K d.cls)) = some true) && (He.eqO (PySem.W.nsIn K mainGlobals "super") (some none) && (He.eqO (PySem.W.ks_superIn K (He.ga K d.cls) (He.ga K d.cls) "__init__") (some (some (.builtin "ValueError.__init__"))) &&
  (He.eqO (PySem.W.nsIn K cStatics "thirdparty.any") (some none) && (decide (PySem.W.subIn K (.ref (He.ga K d.cls)) (.type "ValueError") = some true) && d.ps.all fun x => He.eqO (PySem.W.findIn K (.ref (He.ga K d.cls)) x) (some none)))))))))
/-- what the text alone says -/
structure IniT (P : Program) (d : IniD) : Prop where
  kind : d.scope.kind = .function
  co : d.scope.isCoroutine = false
  gen : d.scope.isGenerator = false
  cell : ∀ x ∈ d.scope.names, x.2 ≠ .cell
  loc : ∀ x ∈ ("self" : Str) :: d.ps, d.scope.names.lookup x = some .local
  sup : d.scope.names.lookup ("super" : Str) = some .globalImplicit
  cls : d.scope.names.lookup ("__class__" : Str) = some .free
  free : ∀ x, d.scope.names.lookup x = some .free → x = "__class__"
  arg : ∃ ar, (d.params.posonlyargs ++ d.params.args).head? = some ar ∧ ar.arg = "self"
  body : ∃ p0 p1 p2 p3 p4 p5 m j tail, d.body = .Expr (.Call (.Attribute (.Call (.Name "super" p0) [] [] p1) "__init__" p2) [.Constant (.str m) j p3] [] p4) p5 :: tail ∧ (p2.endLine == p4.line) = true ∧
      Paired (fun (p : Str) (st : Stmt) => ∃ q1 q2 q3 q4, st = .Assign [.Attribute (.Name "self" q1) p q2] (.Name p q3) q4) d.ps tail
  bind : ∀ (kV doc pm : Value) (an : Option Addr) (cda : Addr) (ct : Value) (cc : Addr) (us : List Value), us.length = d.ps.length + 1 → bindArgs (PySem.W.ksFn "__init__" d.qual d.params d.body d.scope .none kV doc pm an (.ref cda) ct cc) ⟨us, []⟩ = pure ((("self" : Str) :: d.ps).zip us)
  nd : (("self" : Str) :: d.ps).Nodup
  dbg : ∀ x ∈ ("self" : Str) :: d.ps, (x == ("__debug__" : Str)) = false ∧ (x == ("__classdict__" : Str)) = false
  ne : d.ps ≠ []
  few : d.ps.length ≤ 20
  top : (P.main.scope.names.lookup ("super" : Str)).isSome = false
theorem free_by {names : List (Str × NameKind)} (h : (names.all fun q => !(q.2 == .free) || q.1 == ("__class__" : Str)) = true) : ∀ x, names.lookup x = some .free → x = "__class__" := fun x e => by
  have := List.all_eq_true.mp h _ (PySem.mem_of_lookup e)
  simpa using this
theorem ini_at {P : Program} {K : PySem.W.Frag} {d : IniD} (T : IniT P d) (e : iniW K d = d.val) (h : iniB P K d = true) : IniAt P K d.cls d.ps := by
  unfold iniB at h
  simp only [Bool.and_eq_true, decide_eq_true_eq] at h
  obtain ⟨h1, h2, h3, h4, h5, h6, h7, h8, h9, h10⟩ := h
  unfold iniW at e
  unfold iniC at h4
  split at e
  · rename_i oc od fd osl lk
    rw [lk] at h4
    simp only [Bool.and_eq_true] at h4
    obtain ⟨k1, k0, k2, k3⟩ := h4
    obtain ⟨n1, n2, n3, n4, n5, n6, n7, n8, n9, n10, n11, n12, n13, n14, n15⟩ := fd
    have e2 : (some (n1, n2, n3, n4, n5, n6, n15) : IniV) = some (("__init__" : Str), d.qual, d.params, FuncBody.stmts d.body, d.scope, mainGlobals, builtinsNs) := e
    simp only [Option.some.injEq, Prod.mk.injEq] at e2
    obtain ⟨g1, g2, g3, g4, g5, g6, g9⟩ := e2
    subst g1 g2 g3 g4 g5 g6 g9
    dsimp only at k0 k1 k2 k3
    have en : n8 = .none := by
      unfold noneV at k0
      split at k0
      · first | rfl | assumption
      · cases k0
    subst en
    split at k2
    · rename_i n cc
      simp only [Bool.and_eq_true, beq_iff_eq] at k2
      obtain ⟨rfl, k2⟩ := k2
      split at k2
      · rename_i cl cld D csl lc
        have ed : D = He.ga K d.cls := by simpa using k2
        subst ed
        split at k3
        · rename_i cda
          split at k3
          · rename_i ccl cdd vs ccs c1
            split at k3
            · rename_i file tf c2
              refine ⟨iniF K d.cls, PySem.W.ksFn "__init__" d.qual d.params d.body d.scope .none n9 n10 n11 n12 (.ref cda) n14 cc, oexB_ok h1, He.eqO_ok h2, h3, ?_, T.nd, T.dbg, T.ne, T.few, h5, He.eqO_ok h6, He.eqO_ok h7, He.eqO_ok h8, h9, T.top, fun x hx => He.eqO_ok (List.all_eq_true.mp h10 x hx)⟩
              exact ⟨"__init__", d.qual, d.params, d.body, d.scope, .none, n9, n10, n11, n12, cda, n14, cc, oc, od, osl, rfl, lk, k1, T.kind, T.co, T.gen, T.cell, T.loc, T.sup, T.cls, T.free, T.arg, ⟨ccl, cdd, vs, ccs, file, tf, c1, c2, k3⟩, ⟨cl, cld, csl, lc⟩, T.body, T.bind n9 n10 n11 n12 cda n14 cc⟩
            · cases k3
          · cases k3
        · cases k3
      · cases k2
    · cases k2
  · cases e
/-- the first def of a class -/
def clsDef : Stmt → Stmt
  | .ClassDef _ _ _ (d :: _) _ _ _ _ _ _ _ => d
  | s => s
/-! ### fields -/
def fldB (K : PySem.W.Frag) (p : Str × Str) : Bool := excB K (He.ga K p.1) && He.eqO (PySem.W.findIn K (.ref (He.ga K p.1)) p.2) (some none)
theorem fldB_ok {K : PySem.W.Frag} {p : Str × Str} (h : fldB K p = true) : FldOk K p.1 p.2 := by
  unfold fldB at h
  simp only [Bool.and_eq_true] at h
  exact ⟨excB_ok h.1, He.eqO_ok h.2⟩
/-! ### the Hook: the cells of the defs and the interpreter's statics are in, too -/
def asY (g : Addr → Option Obj) (n : Nat) : List Addr := He.asD g n ++ (cStatics :: (He.asD g n).flatMap fun a => match g a with
  | some ⟨_, _, .func fd, _⟩ => fd.closure.map (·.2)
  | _ => [])
abbrev AlY : Type := He.AlX × List IniV
def obsY (n : Nat) (fa : List He.Fa) (fn : List He.DefD) (tf : List He.Defn) (ex : PySem.W.Frag → Bool) (ini : List IniD) (g : Addr → Option Obj) : AlY :=
  ((He.obsT fa fn [] (He.frT g (asY g n)), ex (He.frT g (asY g n)) && He.tabsB g tf (He.frT g (asY g n))), ini.map (iniW (He.frT g (asY g n))))
def valY (fn : List He.DefD) (ini : List IniD) (w : World) : AlY := (He.valX fn [] w, ini.map IniD.val)
structure SaysY (fa : List He.Fa) (fn : List He.DefD) (tf : List He.Defn) (ex : PySem.W.Frag → Bool) (ini : List IniD) (w : World) (h : Heap) (K : PySem.W.Frag) : Prop where
  x : He.SaysX fa fn [] tf ex w h K
  ini : ini.map (iniW K) = ini.map IniD.val
theorem saysY_of {n : Nat} {fa : List He.Fa} {fn : List He.DefD} {tf : List He.Defn} {ex : PySem.W.Frag → Bool} {ini : List IniD} {w : World} {h : Heap} (e : obsY n fa fn tf ex ini h.get? = valY fn ini w) : SaysY fa fn tf ex ini w h (He.frT h.get? (asY h.get? n)) := by
  have e1 : He.obsT fa fn [] (He.frT h.get? (asY h.get? n)) = He.valT fn [] w := congrArg (fun z : AlY => z.1.1) e
  have e2 : (ex (He.frT h.get? (asY h.get? n)) && He.tabsB h.get? tf (He.frT h.get? (asY h.get? n))) = true := congrArg (fun z : AlY => z.1.2) e
  have e3 : ini.map (iniW (He.frT h.get? (asY h.get? n))) = ini.map IniD.val := congrArg (fun z : AlY => z.2) e
  obtain ⟨h1, h2⟩ := He.ba e2
  have key : ∀ p ∈ tf, PySem.W.codeHdIn (He.frT h.get? (asY h.get? n)) (He.cT (He.frT h.get? (asY h.get? n)) p).1 (He.cT (He.frT h.get? (asY h.get? n)) p).2 = true ∧ ∃ o, h.get? (He.cT (He.frT h.get? (asY h.get? n)) p).2 = some o ∧ He.emptyTab o = true := fun p hp => by
    obtain ⟨h3, h4⟩ := He.ba (List.all_eq_true.mp h2 p hp)
    refine ⟨h3, ?_⟩
    cases q : h.get? (He.cT (He.frT h.get? (asY h.get? n)) p).2 with
    | none =>
      rw [q] at h4
      cases h4
    | some o =>
      rw [q] at h4
      exact ⟨o, rfl, h4⟩
  exact ⟨⟨e1, h1, fun p hp => (key p hp).1, fun p hp => by
    obtain ⟨_, o, q, z⟩ := key p hp
    exact He.frT_none q z, fun p hp => by
    obtain ⟨_, o, q, z⟩ := key p hp
    rw [q, He.emptyTab_eq z]⟩, e3⟩
def hookY (n : Nat) (fa : List He.Fa) (fn : List He.DefD) (tf : List He.Defn) (ex : PySem.W.Frag → Bool) (ini : List IniD) : PySem.W.Hook where
  α := AlY
  obs := fun s => obsY n fa fn tf ex ini s.heap.get?
  val := fun w => valY fn ini w
  says := fun w h => ∃ K : PySem.W.Frag, K.In h ∧ SaysY fa fn tf ex ini w h K
  of := fun _ _ e => ⟨_, He.frT_in, saysY_of e⟩
  keeps := fun _ _ _ ⟨K, hK, c⟩ k => ⟨K, PySem.W.Frag.In.keeps hK k, ⟨c.x.t, c.x.more, c.x.hd, c.x.out, fun p hp => k _ _ (c.x.empty p hp)⟩, c.ini⟩
theorem obsY_eq {n : Nat} {fa : List He.Fa} {fn : List He.DefD} {tf : List He.Defn} {ex : PySem.W.Frag → Bool} {ini : List IniD} {g : Addr → Option Obj} {s : Shared} (h : ∀ a, g a = s.heap.get? a) : obsY n fa fn tf ex ini g = (hookY n fa fn tf ex ini).obs s := by
  have e : g = s.heap.get? := funext h
  rw [e] <;> rfl
end DL
/-! defs that hand back a new live list; texts, further -/
namespace DL
open PySem PySem.Spec PyProof.Rows L2
/-! ### defs that hand back a new list -/
abbrev FLN := List PyData → Option (Except DX (List PyData))
def detL (f : FLN) : DSp := fun vs T Q X => ∃ ds, vs = dv ds ∧ T = [] ∧ match f ds with
  | some (.ok r) => Q (.ob 0) [.lst (dv r)]
  | some (.error x) => X x []
  | none => False
theorem detL_mono {f : FLN} : MonoS (detL f) := by
  rintro vs T Q Q' X X' hq hx ⟨ds, h1, h2, h3⟩
  refine ⟨ds, h1, h2, ?_⟩
  split at h3
  · exact hq _ _ h3
  · exact hx _ _ h3
  · exact h3
theorem flat_dvs {xs : List PyData} : (dv xs).all flatV = true := by
  induction xs with
  | nil => rfl
  | cons x xs ih => simpa [dv, flatV] using ih
theorem call_L {f : FLN} {ds r : List PyData} {T : Tab} {Q : VC} {X : XC} (h : f ds = some (.ok r)) (q : Q (.ob T.length) (T ++ [.lst (dv r)])) : callW (detL f) (dv ds) T Q X := by
  refine .inl ?_
  unfold callF
  simp only [obs_dv, tabOf, ren_dv]
  refine ⟨rfl, ds, rfl, rfl, ?_⟩
  rw [h]
  refine ⟨by simp, ?_, ?_⟩
  · have := flat_dvs (xs := r)
    simp [flatO, this]
  · simpa [backV, putT] using q
theorem call_LX {f : FLN} {ds : List PyData} {x : DX} {T : Tab} {Q : VC} {X : XC} (h : f ds = some (.error x)) (q : X x T) : callW (detL f) (dv ds) T Q X := by
  refine .inl ?_
  unfold callF
  simp only [obs_dv, tabOf, ren_dv]
  refine ⟨rfl, ds, rfl, rfl, ?_⟩
  rw [h]
  exact ⟨by simp, rfl, by simpa [putT] using q⟩
theorem cut_L {Q : VC} {r : List PyData} {T : Tab} (q : Q (.ob 0) [.lst (dv r)]) : cutW 0 Q (.ob T.length) (T ++ [.lst (dv r)]) := by
  refine ⟨Nat.zero_le _, rfl, ?_⟩
  have e : getT (T ++ [.lst (dv r)]) T.length = some (.lst (dv r)) := by rw [getT_eq]; simp
  simp only [Nat.not_lt_zero, if_false, e]
  refine ⟨?_, by simpa using q⟩
  have : ∀ l : List PyData, (dv l).all (closV 0) = true := by
    intro l
    induction l with
    | nil => rfl
    | cons x l ih => simpa [dv, closV] using ih
  have := this r
  simpa [closO] using this
theorem compO_inv {I : List Val → List Val → Tab → Prop} {step : Val → List Val → Tab → (List Val → Tab → Prop) → Prop} {k : List Val → Tab → Prop}
    (hs : ∀ x r acc T (k' : List Val → Tab → Prop), I (x :: r) acc T → (∀ acc' T', I r acc' T' → k' acc' T') → step x acc T k') (he : ∀ acc T, I [] acc T → k acc T) :
    ∀ {xs acc : List Val} {T : Tab}, I xs acc T → compO none step xs acc T k
  | [], acc, T, h => ⟨trivial, he _ _ h⟩
  | x :: r, acc, T, h => ⟨trivial, hs x r acc T _ h fun acc' T' q => compO_inv hs he q⟩
theorem comp_wpS {α : Type} {src : Option (Nat × List Val)} {step : Val → Tab → (Option Val → Tab → Prop) → Prop} {T : Tab} {g h : α → Val} {k : List Val → Tab → Prop} (hst : still T src) : ∀ {cs : List α} {acc : List Val}, (∀ c ∈ cs, ∀ k' : Option Val → Tab → Prop, k' (some (h c)) T → step (g c) T k') → acc.length + cs.length ≤ sizeLine → k (acc ++ cs.map h) T → compW src step (cs.map g) acc T k
  | [], acc, _, _, q => ⟨hst, by simpa using q⟩
  | c :: cs, acc, hs, hl, q => by
    simp only [List.length_cons] at hl
    refine ⟨hst, hs c (by simp) _ ⟨by omega, comp_wpS hst (fun d hd => hs d (by simp [hd])) (by simp; omega) (by simpa using q)⟩⟩
end DL
namespace DL.LW
open PySem PySem.Spec PyProof.Rows L2 DL
def top (i : Nat) : Stmt := PySem.Challenge.pw_labelclocks_k02_tokens_of_texts.main.body.getD i (.Pass ⟨0, 0, 0, 0⟩)
def tm_line_tokens_b1 : Ss := 
 (.cons (.set (.nm 3) (.bin .Add (.var 3) (.cst (.int 1)))) .nil)
def tm_line_tokens_b2 : Ss := 
 (.cons (.par [4, 3] (.cons (.var 3) (.cons (.bin .Add (.var 3) (.cst (.int 1))) .nil)))
 (.cons (.ite (.cmp .In (.idx (.var 1) (.var 4)) (.glb 0)) 
  (.cons (.whl (.and (.cmp .Lt (.var 3) (.bi .len (.cons (.var 1) .nil))) (.cmp .In (.idx (.var 1) (.var 3)) (.glb 0))) tm_line_tokens_b1) .nil) .nil)
 (.cons (.ite (.cmp .NotEq (.idx (.var 1) (.var 4)) (.cst (.str " "))) 
  (.cons (.exp (.mt .append (.var 2) (.cons (.tup (.cons (.slc (.var 1) (.some (.var 4)) (.some (.var 3))) (.cons (.bin .Add (.var 4) (.cst (.int 1))) .nil))) .nil))) .nil) .nil) .nil)))
def tm_line_tokens : Ss := 
 (.cons (.par [1, 2, 3] (.cons (.idx (.mt .split (.var 0) (.cons (.cst (.str "#")) .nil)) (.cst (.int 0))) (.cons (.lstO .nil) (.cons (.cst (.int 0)) .nil))))
 (.cons (.whl (.cmp .Lt (.var 3) (.bi .len (.cons (.var 1) .nil))) tm_line_tokens_b2)
 (.cons (.ret (.frz (.var 2))) .nil)))
def C_line_tokens (lv : Nat) : CkI := { N := ["line", "text", "found", "at", "start"], names := (defScope (top 9)).names, cl := true, fns := [], free := ["len"], globs := ["SIGNS_OF_WORDS"], kfn := [], fvs := [], lv := lv, lam := false, cfun := "_law_caught", cexc := "ClockError", excs := [], clss := [], xfs := [], flds := [] }
theorem ck_line_tokens (lv : Nat) : chkSs (C_line_tokens lv) tm_line_tokens (defBody (top 9)) = true := by kernel_rfl
theorem sc_line_tokens : FnScope ["line", "text", "found", "at", "start"] ["line"] (defScope (top 9)) := ⟨rfl, rfl, rfl, by decide +kernel, rfl, by decide +kernel, by decide +kernel⟩
def tm_tokens_of_b1 : Ss := 
 (.cons (.exp (.mt .append (.var 2) (.cons (.tup (.cons (.bin .Add (.var 3) (.cst (.int 1))) (.cons (.var 8) (.cons (.ife (.cmp .Eq (.var 6) (.cst (.int 0))) (.bin .Sub (.var 8) (.cst (.int 1))) (.cst .none)) (.cons (.var 7) .nil))))) .nil))) .nil)
def tm_tokens_of_b2 : Ss := 
 (.cons (.set (.nm 5) (.call 0 (.cons (.var 4) .nil)))
 (.cons (.loop (.tp [(.nm 6), (.tp [(.nm 7), (.nm 8)])]) (.enum (.var 5)) tm_tokens_of_b1)
 (.cons (.ite (.cmp .NotEq (.var 5) (.lst .nil)) 
  (.cons (.set (.tp [(.nm 7), (.nm 8)]) (.idx (.var 5) (.neg (.cst (.int 1)))))
  (.cons (.exp (.mt .append (.var 2) (.cons (.tup (.cons (.bin .Add (.var 3) (.cst (.int 1))) (.cons (.bin .Add (.var 8) (.bi .len (.cons (.var 7) .nil))) (.cons (.cst .none) (.cons (.glb 0) .nil))))) .nil))) .nil)) .nil) .nil)))
def tm_tokens_of : Ss := 
 (.cons (.ite (.not (.isi (.var 0) ["str"])) 
  (.cons (.raise "BadText" ["line", "column"] (.cons (.cst (.int 1)) (.cons (.cst (.int 1)) .nil))) .nil) .nil)
 (.cons (.par [1, 2] (.cons (.mt .split (.var 0) (.cons (.cst (.str "\n")) .nil)) (.cons (.lstO .nil) .nil)))
 (.cons (.loop (.tp [(.nm 3), (.nm 4)]) (.enum (.var 1)) tm_tokens_of_b2)
 (.cons (.exp (.mt .append (.var 2) (.cons (.tup (.cons (.bin .Add (.bi .len (.cons (.var 1) .nil)) (.cst (.int 1))) (.cons (.cst (.int 1)) (.cons (.cst .none) (.cons (.glb 1) .nil))))) .nil)))
 (.cons (.ret (.var 2)) .nil)))))
def C_tokens_of (lv : Nat) : CkI := { N := ["text", "lines", "found", "at", "line", "some", "spot", "word", "column"], names := (defScope (top 10)).names, cl := true, fns := [("line_tokens", 1)], free := ["isinstance", "str", "enumerate", "len"], globs := ["END_OF_LINE", "END_OF_TEXT"], kfn := [], fvs := [], lv := lv, lam := false, cfun := "_law_caught", cexc := "ClockError", excs := [], clss := [], xfs := [("BadText", ["line", "column"])], flds := [] }
theorem ck_tokens_of (lv : Nat) : chkSs (C_tokens_of lv) tm_tokens_of (defBody (top 10)) = true := by kernel_rfl
theorem sc_tokens_of : FnScope ["text", "lines", "found", "at", "line", "some", "spot", "word", "column"] ["text"] (defScope (top 10)) := ⟨rfl, rfl, rfl, by decide +kernel, rfl, by decide +kernel, by decide +kernel⟩
def tm__law_begun : Ss := 
 (.cons (.set (.nm 1) (.comp [2] (.bin .Sub (.bi .abs (.cons (.var 2) .nil)) (.bin .Pow (.cst (.int 10)) (.cst (.int 18)))) (.nm 2) (.seq (.var 0)) (.some (.cmp .GtE (.bi .abs (.cons (.var 2) .nil)) (.bin .Pow (.cst (.int 10)) (.cst (.int 18))))) true))
 (.cons (.ret (.dicO ["great", "cells", "rest", "turn"] (.cons (.var 1) (.cons (.comp [2] (.bi .abs (.cons (.var 2) .nil)) (.nm 2) (.seq (.var 0)) .none false) (.cons (.cst (.int 0)) (.cons (.cst (.int 0)) .nil)))))) .nil))
def C__law_begun (lv : Nat) : CkI := { N := ["_law_script", "_law_great", "_law_cell"], names := (defScope (top 12)).names, cl := true, fns := [], free := ["abs"], globs := [], kfn := [], fvs := [], lv := lv, lam := false, cfun := "_law_caught", cexc := "ClockError", excs := [], clss := [], xfs := [], flds := [] }
theorem ck__law_begun (lv : Nat) : chkSs (C__law_begun lv) tm__law_begun (defBody (top 12)) = true := by kernel_rfl
theorem sc__law_begun : FnScope ["_law_script", "_law_great", "_law_cell"] ["_law_script"] (defScope (top 12)) := ⟨rfl, rfl, rfl, by decide +kernel, rfl, by decide +kernel, by decide +kernel⟩
def tm__law_mixed_b1 : Ss := 
 (.cons (.set (.nm 4) (.bin .Mod (.bi .int (.cons (.bin .Add (.bin .Add (.bin .Mult (.var 4) (.cst (.int 48271))) (.var 5)) (.var 1)) .nil)) (.var 3))) .nil)
def tm__law_mixed_b2 : Ss := 
 (.cons (.set (.nm 4) (.bin .Add (.bin .Mult (.cst (.int 69621)) (.var 1)) (.bin .FloorDiv (.var 3) (.cst (.int 41)))))
 (.cons (.loop (.nm 5) (.seq (.dgt (.var 0) (.cst (.str "cells")))) tm__law_mixed_b1)
 (.cons (.set (.nm 2) (.bin .Add (.bin .Mult (.var 2) (.cst (.int 2147483659))) (.bin .Mod (.bi .int (.cons (.bin .Pow (.var 4) (.cst (.int 5))) .nil)) (.var 3)))) .nil)))
def tm__law_mixed : Ss := 
 (.cons (.par [1, 2] (.cons (.bin .Add (.dgt (.var 0) (.cst (.str "turn"))) (.cst (.int 1))) (.cons (.cst (.int 0)) .nil)))
 (.cons (.dput (.var 0) (.cst (.str "turn")) (.var 1))
 (.cons (.loop (.nm 3) (.seq (.lst (.cons (.cst (.int 2147483629)) (.cons (.cst (.int 2147483647)) (.cons (.cst (.int 2147483563)) (.cons (.cst (.int 2147483587)) .nil)))))) tm__law_mixed_b2)
 (.cons (.ret (.var 2)) .nil))))
def C__law_mixed (lv : Nat) : CkI := { N := ["_law_state", "_law_turn", "_law_found", "_law_prime", "_law_blend", "_law_cell"], names := (defScope (top 13)).names, cl := true, fns := [], free := ["int"], globs := [], kfn := [], fvs := [], lv := lv, lam := false, cfun := "_law_caught", cexc := "ClockError", excs := [], clss := [], xfs := [], flds := [] }
theorem ck__law_mixed (lv : Nat) : chkSs (C__law_mixed lv) tm__law_mixed (defBody (top 13)) = true := by kernel_rfl
theorem sc__law_mixed : FnScope ["_law_state", "_law_turn", "_law_found", "_law_prime", "_law_blend", "_law_cell"] ["_law_state"] (defScope (top 13)) := ⟨rfl, rfl, rfl, by decide +kernel, rfl, by decide +kernel, by decide +kernel⟩
def tm__law_draw : Ss := 
 (.cons (.ite (.cmp .Eq (.dgt (.var 0) (.cst (.str "rest"))) (.cst (.int 0))) 
  (.cons (.dput (.var 0) (.cst (.str "rest")) (.ife (.cmp .NotEq (.dgt (.var 0) (.cst (.str "great"))) (.lst .nil)) (.mt .popAt (.dgt (.var 0) (.cst (.str "great"))) (.cons (.cst (.int 0)) .nil)) (.call 0 (.cons (.var 0) .nil)))) .nil) .nil)
 (.cons (.set (.nm 2) (.bin .Mod (.bi .int (.cons (.dgt (.var 0) (.cst (.str "rest"))) .nil)) (.var 1)))
 (.cons (.dput (.var 0) (.cst (.str "rest")) (.bin .FloorDiv (.dgt (.var 0) (.cst (.str "rest"))) (.var 1)))
 (.cons (.ret (.var 2)) .nil))))
def C__law_draw (lv : Nat) : CkI := { N := ["_law_state", "_law_room", "_law_found"], names := (defScope (top 14)).names, cl := true, fns := [("_law_mixed", 1)], free := ["int"], globs := [], kfn := [], fvs := [], lv := lv, lam := false, cfun := "_law_caught", cexc := "ClockError", excs := [], clss := [], xfs := [], flds := [] }
theorem ck__law_draw (lv : Nat) : chkSs (C__law_draw lv) tm__law_draw (defBody (top 14)) = true := by kernel_rfl
theorem sc__law_draw : FnScope ["_law_state", "_law_room", "_law_found"] ["_law_state", "_law_room"] (defScope (top 14)) := ⟨rfl, rfl, rfl, by decide +kernel, rfl, by decide +kernel, by decide +kernel⟩
def tm__law_pick : Ss := 
 (.cons (.ret (.idx (.var 1) (.call 0 (.cons (.var 0) (.cons (.bi .len (.cons (.var 1) .nil)) .nil))))) .nil)
def C__law_pick (lv : Nat) : CkI := { N := ["_law_state", "_law_some"], names := (defScope (top 15)).names, cl := true, fns := [("_law_draw", 2)], free := ["len"], globs := [], kfn := [], fvs := [], lv := lv, lam := false, cfun := "_law_caught", cexc := "ClockError", excs := [], clss := [], xfs := [], flds := [] }
theorem ck__law_pick (lv : Nat) : chkSs (C__law_pick lv) tm__law_pick (defBody (top 15)) = true := by kernel_rfl
theorem sc__law_pick : FnScope ["_law_state", "_law_some"] ["_law_state", "_law_some"] (defScope (top 15)) := ⟨rfl, rfl, rfl, by decide +kernel, rfl, by decide +kernel, by decide +kernel⟩
def tm__law_tx_words : Ss := 
 (.cons (.set (.nm 0) (.lst (.cons (.cst (.str "again")) (.cons (.cst (.str "and")) (.cons (.cst (.str "ask")) (.cons (.cst (.str "body")) (.cons (.cst (.str "break")) (.cons (.cst (.str "call")) (.cons (.cst (.str "else")) (.cons (.cst (.str "fail")) (.cons (.cst (.str "function")) (.cons (.cst (.str "give")) (.cons (.cst (.str "if")) (.cons (.cst (.str "local")) (.cons (.cst (.str "no")) (.cons (.cst (.str "not")) .nil))))))))))))))))
 (.cons (.set (.nm 0) (.bin .Add (.var 0) (.lst (.cons (.cst (.str "number")) (.cons (.cst (.str "or")) (.cons (.cst (.str "over")) (.cons (.cst (.str "place")) (.cons (.cst (.str "record")) (.cons (.cst (.str "rest")) (.cons (.cst (.str "row")) (.cons (.cst (.str "show")) (.cons (.cst (.str "size")) (.cons (.cst (.str "store")) (.cons (.cst (.str "truth")) (.cons (.cst (.str "unit")) .nil)))))))))))))))
 (.cons (.ret (.bin .Add (.var 0) (.lst (.cons (.cst (.str "use")) (.cons (.cst (.str "while")) (.cons (.cst (.str "worth")) (.cons (.cst (.str "yes")) .nil))))))) .nil)))
def C__law_tx_words (lv : Nat) : CkI := { N := ["_law_found"], names := (defScope (top 17)).names, cl := true, fns := [], free := [], globs := [], kfn := [], fvs := [], lv := lv, lam := false, cfun := "_law_caught", cexc := "ClockError", excs := [], clss := [], xfs := [], flds := [] }
theorem ck__law_tx_words (lv : Nat) : chkSs (C__law_tx_words lv) tm__law_tx_words (defBody (top 17)) = true := by kernel_rfl
theorem sc__law_tx_words : FnScope ["_law_found"] [] (defScope (top 17)) := ⟨rfl, rfl, rfl, by decide +kernel, rfl, by decide +kernel, by decide +kernel⟩
def tm__law_tx_name_b1 : Ss := 
 (.cons (.set (.nm 3) (.bin .Add (.var 3) (.idx (.bin .Add (.var 2) (.cst (.str "0123456789"))) (.call 0 (.cons (.var 0) (.cons (.cst (.int 36)) .nil)))))) .nil)
def tm__law_tx_name : Ss := 
 (.cons (.set (.nm 2) (.cst (.str "abcdefghijklmnopqrstuvwxyz")))
 (.cons (.set (.nm 3) (.idx (.var 2) (.call 0 (.cons (.var 0) (.cons (.cst (.int 26)) .nil)))))
 (.cons (.loop (.nm 4) (.rng1 (.call 1 (.cons (.var 0) (.cons (.lst (.cons (.cst (.int 1)) (.cons (.cst (.int 0)) (.cons (.cst (.int 2)) (.cons (.cst (.int 7)) (.cons (.cst (.int 3)) .nil)))))) .nil)))) tm__law_tx_name_b1)
 (.cons (.ite (.cmp .Eq (.call 0 (.cons (.var 0) (.cons (.cst (.int 6)) .nil))) (.cst (.int 0))) 
  (.cons (.set (.nm 3) (.call 1 (.cons (.var 0) (.cons (.lst (.cons (.cst (.str "put")) (.cons (.cst (.str "read")) (.cons (.cst (.str "item")) (.cons (.cst (.str "field")) (.cons (.cst (.str "name")) (.cons (.cst (.str "own")) (.cons (.cst (.str "plus")) (.cons (.cst (.str "less")) (.cons (.cst (.str "units")) (.cons (.cst (.str "rows")) (.cons (.cst (.str "e")) (.cons (.cst (.str "n0")) .nil))))))))))))) .nil)))) .nil) .nil)
 (.cons (.set (.nm 5) (.bin .Add (.lst (.cons (.var 3) .nil)) (.comp [6] (.bin .Add (.slc (.var 3) .none (.some (.cst (.int 1)))) (.bi .str (.cons (.var 6) .nil))) (.nm 6) (.rng1 (.cst (.int 90))) .none false)))
 (.cons (.ret (.idx (.comp [7] (.var 7) (.nm 7) (.seq (.var 5)) (.some (.and (.cmp .NotIn (.var 7) (.var 1)) (.cmp .NotIn (.var 7) (.call0 2)))) false) (.cst (.int 0)))) .nil))))))
def C__law_tx_name (lv : Nat) : CkI := { N := ["_law_state", "_law_taken", "_law_letters", "_law_found", "_law_lap", "_law_some", "_law_at", "_law_name"], names := (defScope (top 18)).names, cl := true, fns := [("_law_draw", 2), ("_law_pick", 2), ("_law_tx_words", 0)], free := ["range", "str"], globs := [], kfn := [], fvs := [], lv := lv, lam := false, cfun := "_law_caught", cexc := "ClockError", excs := [], clss := [], xfs := [], flds := [] }
theorem ck__law_tx_name (lv : Nat) : chkSs (C__law_tx_name lv) tm__law_tx_name (defBody (top 18)) = true := by kernel_rfl
theorem sc__law_tx_name : FnScope ["_law_state", "_law_taken", "_law_letters", "_law_found", "_law_lap", "_law_some", "_law_at", "_law_name"] ["_law_state", "_law_taken"] (defScope (top 18)) := ⟨rfl, rfl, rfl, by decide +kernel, rfl, by decide +kernel, by decide +kernel⟩
def tm__law_tx_tokens_b1 : Ss := 
 (.cons (.set (.nm 6) (.bin .Add (.var 6) (.cst (.int 1)))) .nil)
def tm__law_tx_tokens_b2 : Ss := 
 (.cons (.par [8, 6] (.cons (.var 6) (.cons (.bin .Add (.var 6) (.cst (.int 1))) .nil)))
 (.cons (.whl (.and (.cmp .In (.idx (.var 5) (.var 8)) (.var 1)) (.and (.cmp .Lt (.var 6) (.bi .len (.cons (.var 5) .nil))) (.cmp .In (.idx (.var 5) (.var 6)) (.var 1)))) tm__law_tx_tokens_b1)
 (.cons (.ite (.cmp .NotEq (.idx (.var 5) (.var 8)) (.cst (.str " "))) 
  (.cons (.exp (.mt .append (.var 2) (.cons (.tup (.cons (.bin .Add (.var 4) (.cst (.int 1))) (.cons (.bin .Add (.var 8) (.cst (.int 1))) (.cons (.ife (.cmp .Eq (.var 7) (.cst (.int 0))) (.var 8) (.cst .none)) (.cons (.slc (.var 5) (.some (.var 8)) (.some (.var 6))) .nil))))) .nil)))
  (.cons (.set (.nm 7) (.var 6)) .nil)) .nil) .nil)))
def tm__law_tx_tokens_b3 : Ss := 
 (.cons (.par [5, 6, 7] (.cons (.idx (.mt .split (.var 5) (.cons (.cst (.str "#")) .nil)) (.cst (.int 0))) (.cons (.cst (.int 0)) (.cons (.cst (.int 0)) .nil))))
 (.cons (.whl (.cmp .Lt (.var 6) (.bi .len (.cons (.var 5) .nil))) tm__law_tx_tokens_b2)
 (.cons (.ite (.cmp .Gt (.var 7) (.cst (.int 0))) 
  (.cons (.exp (.mt .append (.var 2) (.cons (.tup (.cons (.bin .Add (.var 4) (.cst (.int 1))) (.cons (.bin .Add (.var 7) (.cst (.int 1))) (.cons (.cst .none) (.cons (.cst (.str "\n")) .nil))))) .nil))) .nil) .nil) .nil)))
def tm__law_tx_tokens : Ss := 
 (.cons (.set (.nm 1) (.cst (.str "abcdefghijklmnopqrstuvwxyzABCDEFGHIJKLMNOPQRSTUVWXYZ0123456789_")))
 (.cons (.par [2, 3] (.cons (.lstO .nil) (.cons (.mt .split (.var 0) (.cons (.cst (.str "\n")) .nil)) .nil)))
 (.cons (.loop (.tp [(.nm 4), (.nm 5)]) (.enum (.var 3)) tm__law_tx_tokens_b3)
 (.cons (.ret (.bin .Add (.var 2) (.lst (.cons (.tup (.cons (.bin .Add (.bi .len (.cons (.var 3) .nil)) (.cst (.int 1))) (.cons (.cst (.int 1)) (.cons (.cst .none) (.cons (.cst (.str "")) .nil))))) .nil)))) .nil))))
def C__law_tx_tokens (lv : Nat) : CkI := { N := ["_law_text", "_law_letters", "_law_found", "_law_rows", "_law_at", "_law_row", "_law_spot", "_law_end", "_law_begin"], names := (defScope (top 19)).names, cl := true, fns := [], free := ["enumerate", "len"], globs := [], kfn := [], fvs := [], lv := lv, lam := false, cfun := "_law_caught", cexc := "ClockError", excs := [], clss := [], xfs := [], flds := [] }
theorem ck__law_tx_tokens (lv : Nat) : chkSs (C__law_tx_tokens lv) tm__law_tx_tokens (defBody (top 19)) = true := by kernel_rfl
theorem sc__law_tx_tokens : FnScope ["_law_text", "_law_letters", "_law_found", "_law_rows", "_law_at", "_law_row", "_law_spot", "_law_end", "_law_begin"] ["_law_text"] (defScope (top 19)) := ⟨rfl, rfl, rfl, by decide +kernel, rfl, by decide +kernel, by decide +kernel⟩
def tm__law_tx_bad : Ss := 
 (.cons (.ret (.and (.isx (.var 0) "BadText") (.cmp .Eq (.tup (.cons (.fld (.var 0) "line" "BadText") (.cons (.fld (.var 0) "column" "BadText") .nil))) (.tup (.cons (.var 1) (.cons (.var 2) .nil)))))) .nil)
def C__law_tx_bad (lv : Nat) : CkI := { N := ["_law_raised", "_law_line", "_law_column"], names := (defScope (top 20)).names, cl := true, fns := [], free := ["isinstance"], globs := [], kfn := [], fvs := [], lv := lv, lam := false, cfun := "_law_caught", cexc := "ClockError", excs := [], clss := ["BadText"], xfs := [], flds := [("BadText", "column"), ("BadText", "line")] }
theorem ck__law_tx_bad (lv : Nat) : chkSs (C__law_tx_bad lv) tm__law_tx_bad (defBody (top 20)) = true := by kernel_rfl
theorem sc__law_tx_bad : FnScope ["_law_raised", "_law_line", "_law_column"] ["_law_raised", "_law_line", "_law_column"] (defScope (top 20)) := ⟨rfl, rfl, rfl, by decide +kernel, rfl, by decide +kernel, by decide +kernel⟩
def tm__law_new_text_b1 : Ss := 
 (.cons (.set (.nm 4) (.idx (.var 1) (.call 1 (.cons (.var 0) (.cons (.bi .len (.cons (.var 1) .nil)) .nil)))))
 (.cons (.set (.nm 5) (.call 0 (.cons (.var 0) (.cons (.lst (.cons (.cst (.str "unit")) (.cons (.cst (.str "x_9")) (.cons (.cst (.str "Ab")) (.cons (.cst (.str "007")) (.cons (.cst (.str "3x")) (.cons (.cst (.str "_")) (.cons (.cst (.str "Z")) (.cons (.call 2 (.cons (.var 0) (.cons (.lst .nil) .nil))) .nil))))))))) .nil))))
 (.cons (.set (.nm 6) (.bin .Mult (.cst (.str " ")) (.call 0 (.cons (.var 0) (.cons (.lst (.cons (.cst (.int 1)) (.cons (.cst (.int 2)) (.cons (.cst (.int 1)) (.cons (.cst (.int 5)) .nil))))) .nil)))))
 (.cons (.set (.nm 2) (.bin .Add (.var 2) (.call 0 (.cons (.var 0) (.cons (.lst (.cons (.var 5) (.cons (.var 6) (.cons (.var 4) (.cons (.cst (.str "\n")) (.cons (.var 5) (.cons (.var 6) (.cons (.cst (.str "#")) (.cons (.var 4) (.cons (.cst (.str "\n  ")) (.cons (.cst (.str "# a b\n")) (.cons (.cst (.str "\n\n")) (.cons (.bin .Add (.var 5) (.var 6)) .nil))))))))))))) .nil))))) .nil))))
def tm__law_new_text : Ss := 
 (.cons (.set (.nm 1) (.cst (.str "!$&'()*+,-./:;<=>?\x40[]^{|}~")))
 (.cons (.set (.nm 2) (.cst (.str "")))
 (.cons (.loop (.nm 3) (.rng1 (.call 0 (.cons (.var 0) (.cons (.lst (.cons (.cst (.int 12)) (.cons (.cst (.int 0)) (.cons (.cst (.int 3)) (.cons (.cst (.int 40)) (.cons (.cst (.int 1)) .nil)))))) .nil)))) tm__law_new_text_b1)
 (.cons (.ret (.var 2)) .nil))))
def C__law_new_text (lv : Nat) : CkI := { N := ["_law_state", "_law_signs", "_law_found", "_law_lap", "_law_sign", "_law_word", "_law_blanks"], names := (defScope (top 21)).names, cl := true, fns := [("_law_pick", 2), ("_law_draw", 2), ("_law_tx_name", 2)], free := ["range", "len"], globs := [], kfn := [], fvs := [], lv := lv, lam := false, cfun := "_law_caught", cexc := "ClockError", excs := [], clss := [], xfs := [], flds := [] }
theorem ck__law_new_text (lv : Nat) : chkSs (C__law_new_text lv) tm__law_new_text (defBody (top 21)) = true := by kernel_rfl
theorem sc__law_new_text : FnScope ["_law_state", "_law_signs", "_law_found", "_law_lap", "_law_sign", "_law_word", "_law_blanks"] ["_law_state"] (defScope (top 21)) := ⟨rfl, rfl, rfl, by decide +kernel, rfl, by decide +kernel, by decide +kernel⟩
def tm_law_b1 : Ss := 
 (.cons (.ite (.or (.isi (.var 6) ["bool"]) (.or (.isi (.var 7) ["bool"]) (.isi (.var 8) ["bool"]))) 
  (.cons (.ret (.cst (.bool false))) .nil) .nil) .nil)
def tm_law_b2 : Ss := 
 (.cons (.set (.nm 3) (.call 1 (.cons (.var 1) .nil)))
 (.cons (.par [4, 5] (.cons (.call 3 (.cons (.var 3) .nil)) (.cons (.callK 0 2 [] .nil (.cons (.var 3) .nil)) .nil)))
 (.cons (.ite (.or (.not (.isi (.var 5) ["list"])) (.or (.cmp .NotEq (.var 5) (.var 4)) (.cmp .NotEq (.comp [11] (.var 11) (.nm 11) (.seq (.var 5)) (.some (.not (.isi (.var 11) ["tuple"]))) false) (.lst .nil)))) 
  (.cons (.ret (.cst (.bool false))) .nil) .nil)
 (.cons (.loop (.tp [(.nm 6), (.nm 7), (.nm 8), (.nm 9)]) (.seq (.var 5)) tm_law_b1)
 (.cons (.exp (.mt .clear (.var 5) .nil))
 (.cons (.ite (.cmp .NotEq (.call 2 (.cons (.var 3) .nil)) (.var 4)) 
  (.cons (.ret (.cst (.bool false))) .nil) .nil)
 (.cons (.set (.nm 10) (.call 4 (.cons (.var 1) (.cons (.lst (.cons (.cst .none) (.cons (.cst (.int 0)) (.cons (.cst (.bool true)) (.cons (.lst (.cons (.cst (.str "unit")) .nil)) (.cons (.tup (.cons (.var 3) .nil)) (.cons .dct0 (.cons (.tup (.cons (.cst (.str "")) (.cons (.cst (.str "")) .nil))) .nil)))))))) .nil))))
 (.cons (.ite (.not (.call 5 (.cons (.caught "ClockError" (.call 2 (.cons (.var 10) .nil))) (.cons (.cst (.int 1)) (.cons (.cst (.int 1)) .nil))))) 
  (.cons (.ret (.cst (.bool false))) .nil) .nil) .nil))))))))
def tm_law : Ss := 
 (.cons (.set (.nm 1) (.call 0 (.cons (.var 0) .nil)))
 (.cons (.loop (.nm 2) (.rng1 (.bin .Add (.cst (.int 1)) (.bi .min (.cons (.bi .len (.cons (.var 0) .nil)) (.cons (.cst (.int 2)) .nil))))) tm_law_b2)
 (.cons (.ret (.cst (.bool true))) .nil)))
def C_law (lv : Nat) : CkI := { N := ["_law_script", "_law_state", "_law_lap", "_law_text", "_law_due", "_law_found", "_law_line", "_law_column", "_law_indent", "_law_word", "_law_bad", "_law_one"], names := (defScope (top 22)).names, cl := true, fns := [("_law_begun", 1), ("_law_new_text", 1), ("tokens_of", 1), ("_law_tx_tokens", 1), ("_law_pick", 2), ("_law_tx_bad", 3)], free := ["range", "min", "len", "isinstance", "tuple", "list", "bool"], globs := [], kfn := [("tokens_of", 2, 0, ["text"], [])], fvs := [], lv := lv, lam := true, cfun := "_law_caught", cexc := "ClockError", excs := [], clss := [], xfs := [], flds := [] }
theorem ck_law (lv : Nat) : chkSs (C_law lv) tm_law (defBody (top 22)) = true := by kernel_rfl
theorem sc_law : FnScope ["_law_script", "_law_state", "_law_lap", "_law_text", "_law_due", "_law_found", "_law_line", "_law_column", "_law_indent", "_law_word", "_law_bad", "_law_one"] ["_law_script"] (defScope (top 22)) := ⟨rfl, rfl, rfl, by decide +kernel, rfl, by decide +kernel, by decide +kernel⟩
end DL.LW
namespace DL.LW
open PySem PySem.Spec PyProof.Rows L2 DL
def kWords : List Str := ["again", "and", "ask", "body", "break", "call", "else", "fail", "function", "give", "if", "local", "no", "not", "number", "or", "over", "place", "record", "rest", "row", "show", "size", "store", "truth", "unit", "use", "while", "worth", "yes"]
def LET : Str := "abcdefghijklmnopqrstuvwxyz"
def DIG : Str := "0123456789"
theorem hL : Str.ofString "abcdefghijklmnopqrstuvwxyz" = LET := rfl
theorem hD : Str.ofString "0123456789" = DIG := rfl
@[simp] def fTxWords : FN
  | [] => some (.ok (.list (kWords.map .str)))
  | _ => none
theorem ev_tx_words {P : PEnv} : evD P tm__law_tx_words 1 [] = some (.ok (.list (kWords.map .str))) := by
  unfold evD tm__law_tx_words
  simp [kWords]
/-! ### names -/
def numS (k : Nat) : Str := Str.ofString (Int.repr (k : Int))
theorem nums_nodup : ((List.range 90).map numS).Nodup := by decide +kernel
def cands (s : Str) : List Str := s :: (List.range 90).map fun k => cutS s none (some 1) ++ numS k
theorem cand_free {s : Str} {taken : List Str} (ht : taken.length ≤ 53) : (cands s).filter (fun x => !(taken.any fun z => z == x) && !(kWords.any fun z => z == x)) ≠ [] := by
  intro h
  have h1 : ∀ x ∈ (List.range 90).map (fun k => cutS s none (some 1) ++ numS k), x ∈ taken ++ kWords := by
    intro x hx
    have h2 : x ∈ cands s := by simp only [cands, List.mem_cons]; exact .inr hx
    have h3 := List.filter_eq_nil_iff.mp h x h2
    simp at h3
    simp
    by_cases q : x ∈ taken
    · exact .inl q
    · exact .inr (h3 fun z hz e => q (e ▸ hz))
  have hn : ((List.range 90).map (fun k => cutS s none (some 1) ++ numS k)).Nodup := by
    have := nums_nodup
    unfold List.Nodup at this ⊢
    rw [List.pairwise_map] at this ⊢
    exact this.imp fun hne e => hne (app_inj e)
  have h4 := pigeon hn h1
  simp [kWords] at h4
  omega
/-- a text that begins with a letter, of letters and figures, at most so long -/
def shpN (k : Nat) (s : Str) : Prop := s.length ≤ k ∧ ∃ c cs, s.cps.toList = c :: cs ∧ c ∈ LET.cps.toList ∧ ∀ d ∈ c :: cs, d ∈ (LET ++ DIG).cps.toList
theorem shpN_len {k : Nat} {s : Str} (h : shpN k s) : 1 ≤ s.length ∧ s.length ≤ k := by
  obtain ⟨h1, c, cs, e, _⟩ := h
  refine ⟨?_, h1⟩
  have : s.length = s.cps.toList.length := by simp [Str.length]
  rw [this, e]; simp
theorem let_sub {c : Nat} (h : c ∈ LET.cps.toList) : c ∈ (LET ++ DIG).cps.toList := by
  have : ∀ c ∈ LET.cps.toList, c ∈ (LET ++ DIG).cps.toList := by decide
  exact this c h
theorem shpN_one {c : Nat} (h : c ∈ LET.cps.toList) : shpN 1 ⟨#[c]⟩ := ⟨Nat.le_refl _, c, [], rfl, h, fun d hd => by simp at hd; subst hd; exact let_sub h⟩
theorem app_list (a b : Str) : (a ++ b).cps.toList = a.cps.toList ++ b.cps.toList := by
  show (a.cps ++ b.cps).toList = _
  simp
theorem shpN_app {k j : Nat} {s t : Str} (h : shpN k s) (ht : t.length ≤ j) (hd : ∀ d ∈ t.cps.toList, d ∈ (LET ++ DIG).cps.toList) : shpN (k + j) (s ++ t) := by
  obtain ⟨h1, c, cs, e, hc, ha⟩ := h
  refine ⟨by rw [len_app]; omega, c, cs ++ t.cps.toList, by rw [app_list, e]; rfl, hc, fun d hd2 => ?_⟩
  rw [← List.cons_append] at hd2
  rcases List.mem_append.mp hd2 with hd2 | hd2
  · exact ha d hd2
  · exact hd d hd2
theorem cut1_one {k : Nat} {s : Str} (h : shpN k s) : ∃ c, c ∈ LET.cps.toList ∧ cutS s none (some 1) = ⟨#[c]⟩ := by
  obtain ⟨h1, c, cs, e, hc, ha⟩ := h
  refine ⟨c, hc, ?_⟩
  have hs : s.length = cs.length + 1 := by
    have : s.length = s.cps.toList.length := by simp [Str.length]
    rw [this, e]; rfl
  have e1 : HT.sIx s.length 0 none = 0 := rfl
  have e2 : HT.sIx s.length s.length (some 1) = min (1 : Int).toNat s.length := rfl
  unfold cutS
  rw [e1, e2, e, hs]
  simp
theorem nums_dig : ∀ k < 90, (numS k).length ≤ 2 ∧ ∀ d ∈ (numS k).cps.toList, d ∈ (LET ++ DIG).cps.toList := by decide +kernel
theorem len_one (c : Nat) : (⟨#[c]⟩ : Str).length = 1 := rfl
theorem let_len : LET.cps.toList.length = 26 := by decide
theorem letdig_len : (LET ++ DIG).cps.toList.length = 36 := by decide
theorem wp_name {Γ : DL.Env} (c0 : Γ.calls 0 = dspD) (c1 : Γ.calls 1 = spPick) (c2 : Γ.calls 2 = detX fTxWords) {n : Nat} {taken : List Str} (ht : taken.length ≤ 53) {tk : Val} {R : Tab} (hk : ∀ n, asD (.law n :: R) tk = some (.list (taken.map .str)))
    {D : DEnds} (h : ∀ (s : Str) n', shpN 8 s → n ≤ n' → D.rt (.d (.str s)) (.law n' :: R)) : wpSs Γ tm__law_tx_name D [some (.ob 0), some tk, none, none, none, none, none, none] (.law (n + 20) :: R) := by
  have hlet : LET.length ≤ 1000 := by decide
  have hld2 : (LET ++ DIG).length ≤ 1000 := by decide
  have hld3 : LET.length + DIG.length ≤ 1000 := by decide
  unfold tm__law_tx_name
  refine step fun R1 hR1 => ?_
  simp [wpS, wpE, hL]
  refine hR1 _ _ (step fun R2 hR2 => ?_)
  simp [wpS, wpE, wpEs, c0]
  refine call_dspD (n := n + 19) (by omega) (by omega) (by omega) fun v v0 v1 => ?_
  obtain ⟨c, hc, e⟩ := draw_at (xs := LET.cps.toList) v0 (by rw [let_len]; exact v1)
  have hcL := shpN_one hc
  simp [e, hlet]
  refine hR2 _ _ (step fun R3 hR3 => ?_)
  simp [wpS, wpI, wpE, wpEs, c1]
  refine call_pick (n := n + 18) (by omega) (by simp) (by simp) fun r n1 hr hn1 => ?_
  have hj : ∃ j : Int, r = .int j ∧ 0 ≤ j ∧ j ≤ 7 := by
    simp at hr
    rcases hr with rfl | rfl | rfl | rfl | rfl <;> exact ⟨_, rfl, by omega, by omega⟩
  obtain ⟨j, rfl, j0, j1⟩ := hj
  refine ⟨⟨by omega, by omega⟩, ?_⟩
  refine loop_inv (I := fun xs sl T => ∃ (s : Str) (c4 : Option Val) (n' : Nat), sl = [some (.ob 0), some tk, some (.d (.str LET)), some (.d (.str s)), c4, none, none, none] ∧ T = .law n' :: R ∧ shpN (8 - xs.length) s ∧ xs.length ≤ 7 ∧ n + 10 + xs.length ≤ n') ?_ ?_ ?_
  · rintro x r sl T nx ⟨s, c4, n', rfl, rfl, h1, h2, h3⟩ hn
    simp at h1 h2 h3
    have h1l := shpN_len h1
    unfold tm__law_tx_name_b1
    simp [wpSs, wpS, wpE, wpEs, c0, hD, hld3]
    refine call_dspD (n := n' - 1) (by omega) (by omega) (by omega) fun v v0 v1 => ?_
    obtain ⟨c, hc, e⟩ := draw_at (xs := (LET ++ DIG).cps.toList) v0 (by rw [letdig_len]; exact v1)
    have h4 : s.length + 1 ≤ sizeLine := size_k (by omega)
    simp [e, hld2, hld3, h4, len_one]
    have h5 := shpN_app (j := 1) h1 (t := ⟨#[c]⟩) (Nat.le_refl _) (fun d hd => by simp at hd; subst hd; exact hc)
    have h5 : shpN (8 - r.length) (s ++ ⟨#[c]⟩) := ⟨by have := h5.1; omega, h5.2⟩
    exact hn _ _ ⟨s ++ ⟨#[c]⟩, _, n' - 1, rfl, rfl, h5, by omega, by omega⟩
  · rintro sl T ⟨s, c4, n', rfl, rfl, h1, h2, h3⟩
    simp at h1 h2 h3
    refine hR3 _ _ (step fun R4 hR4 => ?_)
    have fin : ∀ (s : Str) (n' : Nat), shpN 8 s → n ≤ n' → R4 [some (.ob 0), some tk, some (.d (.str LET)), some (.d (.str s)), c4, none, none, none] (.law n' :: R) := by
      intro s n' hs8 h3
      obtain ⟨h1, h2⟩ := shpN_len hs8
      obtain ⟨c0, hc0, ec0⟩ := cut1_one hs8
      refine hR4 _ _ (step fun R5 hR5 => sndS (noP_ok Γ) _ _ _ _ ?_)
      have hcut : (cutS s none (some 1)).length ≤ 8 := Nat.le_trans (len_cut _ _ _) h2
      have hrng : rangeL 0 90 = (List.range 90).map fun (k : Nat) => Val.d (.int k) := by rw [rangeL_map]; simp
      have hcd := cand_free (s := s) ht
      unfold cands at hcd
      have hk90 : ∀ k ∈ List.range 90, k < 90 := fun k hk => List.mem_range.mp hk
      have hl90 : (List.range 90).length = 90 := List.length_range
      generalize List.range 90 = L at hrng hcd hk90 hl90
      have hnum : ∀ k ∈ L, (numS k).length ≤ 9 := fun k hk => len_int (by omega) (by have := hk90 k hk; omega)
      simp [evS, evE, evEs, evI, evO, hrng]
      rw [compE_map (h := fun k => .d (.str (cutS s none (some 1) ++ numS k)))]
      · have h4 : s.length ≤ 1000 := by omega
        have h5 : 1 + L.length ≤ sizeLine := size_k (by omega)
        simp [h5]
        have hC : (PyData.str s :: L.map fun c => PyData.str (cutS s none (some 1) ++ numS c)) = (s :: L.map fun k => cutS s none (some 1) ++ numS k).map .str := by simp
        have hCl : (s :: L.map fun k => cutS s none (some 1) ++ numS k).length = 91 := by simp [hl90]
        have hCs : ∀ x ∈ (s :: L.map fun k => cutS s none (some 1) ++ numS k), shpN 8 x := by
          intro x hx
          simp only [List.mem_cons, List.mem_map] at hx
          rcases hx with rfl | ⟨k, hk, rfl⟩
          · exact hs8
          · have := nums_dig k (hk90 k hk)
            rw [ec0]
            have q := shpN_app (j := 2) (shpN_one hc0) this.1 this.2
            exact ⟨by have := q.1; omega, q.2⟩
        rw [hC]
        generalize (s :: L.map fun k => cutS s none (some 1) ++ numS k) = C at hcd hCl hCs
        refine hR5 _ _ (sndSs (oneP_ok c2) _ _ _ _ ?_)
        have hpl : ∀ l : List Str, plainA (l.map .str) = true := fun l => plain_strs'
        simp [evSs, evS, evE, evEs, evI, evO]
        rw [dv_map, List.map_map, compE_filter (p := fun x => !(taken.any fun z => z == x) && !(kWords.any fun z => z == x)) (h := fun x => .d (.str x))]
        · simp
          cases hf : C.filter (fun x => (!taken.any fun z => z == x) && !kWords.any fun z => z == x) with
          | nil => exact absurd hf hcd
          | cons x r =>
            have hx : x ∈ C := (List.mem_filter.mp (by rw [hf]; simp : x ∈ C.filter _)).1
            have h6 := hCs x hx
            have h7 := (List.mem_filter.mp (by rw [hf]; simp : x ∈ C.filter _)).2
            simp only [Bool.and_eq_true, Bool.not_eq_true'] at h7
            simp
            exact h x n' h6 h3
        · intro x hx
          have h6 := shpN_len (hCs x hx)
          simp [c2g (hk n'), -List.any_eq_true]
        · exact size_k (by simp [hCl])
      · intro k hk
        have h3 := hnum k hk
        have h4 : s.length ≤ 1000 := by omega
        have h5 : (cutS s none (some 1)).length + (numS k).length ≤ 1000 := by omega
        have h6 : ((k : Int).natAbs).log2 < 1920 := log_int (by omega) (by have := hk90 k hk; omega)
        have h7 : Str.ofString (Int.repr (k : Int)) = numS k := rfl
        simp at h6
        simp [h4, h6, h7, h5]
      · exact size_k (by simp [hl90])
    simp [wpS, wpE, wpEs, c0]
    refine call_dspD (n := n' - 1) (by omega) (by omega) (by omega) fun v v0 v1 => ?_
    simp
    split
    · simp [wpSs, wpS, wpE, wpEs, c1]
      refine call_pick (n := n' - 2) (by omega) (by simp) (by simp) fun r n2 hr hn2 => ?_
      have hj : ∃ z : Str, r = .str z ∧ shpN 8 z := by
        simp at hr
        rcases hr with rfl | rfl | rfl | rfl | rfl | rfl | rfl | rfl | rfl | rfl | rfl | rfl <;> exact ⟨_, rfl, by decide, _, _, rfl, by decide, by decide⟩
      obtain ⟨z, rfl, z1⟩ := hj
      exact fin _ _ z1 (by omega)
    · simp [wpSs]
      exact fin _ _ h1 (by omega)
  · refine ⟨⟨#[c]⟩, none, n1, rfl, rfl, ⟨?_, hcL.2⟩, by simp [rangeL_len]; omega, by simp [rangeL_len]; omega⟩
    simp [len_one, rangeL_len]; omega
/-- a drawn name is a text of one to eight signs -/
def nmPre : List PyData → Prop := fun ds => ds = [.list []]
def nmPost : List PyData → PyData → Prop := fun _ r => ∃ s, r = .str s ∧ shpN 8 s
theorem raw_name {Γ : DL.Env} (c0 : Γ.calls 0 = dspD) (c1 : Γ.calls 1 = spPick) (c2 : Γ.calls 2 = detX fTxWords) : ∀ vs T Q X, drawD 20 nmPre nmPost vs T Q X → rawD Γ tm__law_tx_name 8 vs T (cutW T.length Q) (cutX T.length X) := by
  rintro vs T Q X ⟨n, ds, rfl, rfl, rfl, h⟩
  exact wp_name c0 c1 c2 (taken := []) (by simp) (R := []) (fun n => rfl) fun s n' a b => cut_1 (h _ n' ⟨s, rfl, a⟩ b)
end DL.LW
namespace DL.LW
open PySem PySem.Spec PyProof.Rows L2 DL
theorem t_app {R : Tab} {o : Ob} : getT (R ++ [o]) R.length = some o := by rw [getT_eq]; simp
theorem s_app {R : Tab} {o p : Ob} : setT (R ++ [o]) R.length p = R ++ [p] := by rw [setT_eq]; simp
theorem size_10 {n : Nat} (h : n ≤ 10000) : n ≤ sizeLine := by rw [sizeLine_eq]; omega
/-! ### a drawn text -/
def SGN : Str := "!$&'()*+,-./:;<=>?\x40[]^{|}~"
theorem hSGN : Str.ofString "!$&'()*+,-./:;<=>?\x40[]^{|}~" = SGN := rfl
theorem sgn_len : SGN.cps.toList.length = 26 := by decide
def txPre : List PyData → Prop := fun ds => ds = []
def txPost : List PyData → PyData → Prop := fun _ r => ∃ s : Str, r = .str s ∧ s.length ≤ 600
theorem raw_new_text {Γ : DL.Env} (c0 : Γ.calls 0 = spPick) (c1 : Γ.calls 1 = dspD) (c2 : Γ.calls 2 = drawD 20 nmPre nmPost) : ∀ vs T Q X, drawD 2000 txPre txPost vs T Q X → rawD Γ tm__law_new_text 7 vs T (cutW T.length Q) (cutX T.length X) := by
  rintro vs T Q X ⟨n, ds, rfl, rfl, rfl, h⟩
  have hs1 : SGN.length ≤ sizeLine := by decide
  have hs2 : (SGN.length : Int) = 26 := by decide
  unfold rawD tm__law_new_text
  refine step fun R1 hR1 => ?_
  simp [wpS, wpE, hSGN]
  refine hR1 _ _ (step fun R2 hR2 => ?_)
  simp [wpS, wpE]
  refine hR2 _ _ (step fun R3 hR3 => ?_)
  simp [wpS, wpI, wpE, wpEs, c0]
  refine call_pick (n := n + 1999) (by omega) (by simp) (by simp) fun r n1 hr hn1 => ?_
  have hj : ∃ j : Int, r = .int j ∧ 0 ≤ j ∧ j ≤ 40 := by
    simp at hr
    rcases hr with rfl | rfl | rfl | rfl | rfl <;> exact ⟨_, rfl, by omega, by omega⟩
  obtain ⟨j, rfl, j0, j1⟩ := hj
  refine ⟨⟨by omega, by omega⟩, ?_⟩
  refine loop_inv (I := fun xs sl T => ∃ (s : Str) (v3 v4 v5 v6 : Option Val) (n' : Nat), sl = [some (.ob 0), some (.d (.str SGN)), some (.d (.str s)), v3, v4, v5, v6] ∧ T = [.law n'] ∧ s.length + 15 * xs.length ≤ 600 ∧ xs.length ≤ 40 ∧ n + 40 * xs.length ≤ n') ?_ ?_ ?_
  · rintro x r sl T nx ⟨s, v3, v4, v5, v6, n', rfl, rfl, h1, h2, h3⟩ hn
    simp at h1 h2 h3
    unfold tm__law_new_text_b1
    refine step fun R4 hR4 => ?_
    simp [wpS, wpE, wpEs, c1, hs1, hs2]
    refine call_dspD (n := n' - 1) (by omega) (by omega) (by omega) fun v v0 v1 => ?_
    obtain ⟨c, hc, e⟩ := draw_at (xs := SGN.cps.toList) v0 (by rw [sgn_len]; exact v1)
    simp [e]
    refine ⟨hs1, hR4 _ _ (step fun R5 hR5 => ?_)⟩
    simp [wpS, wpE, wpEs, c0, c2]
    refine call_draw (n := n' - 1 - 20) (ds := [.list []]) (by omega) rfl fun nm n2 hnm hn2 => ?_
    obtain ⟨w, rfl, hw⟩ := hnm
    have hwl := (shpN_len hw).2
    simp
    refine call_pick (n := n2 - 1) (by omega) (by simp) (by simp) fun wd n3 hr hn3 => ?_
    have hwd : ∃ z : Str, wd = .str z ∧ z.length ≤ 8 := by
      simp at hr
      rcases hr with rfl | rfl | rfl | rfl | rfl | rfl | rfl | rfl <;> first | exact ⟨_, rfl, by decide⟩ | exact ⟨_, rfl, hwl⟩
    obtain ⟨wd, rfl, hwd⟩ := hwd
    refine hR5 _ _ (step fun R6 hR6 => ?_)
    simp [wpS, wpE, wpEs, c0]
    refine call_pick (n := n3 - 1) (by omega) (by simp) (by simp) fun bl n4 hr hn4 => ?_
    have hbl : ∃ z : Int, bl = .int z ∧ 1 ≤ z ∧ z ≤ 5 := by
      simp at hr
      rcases hr with rfl | rfl | rfl | rfl <;> exact ⟨_, rfl, by omega, by omega⟩
    obtain ⟨bl, rfl, b1, b2⟩ := hbl
    have hmul : MulOk (Str.ofString " ") bl := mulok (by decide) (by omega) (by omega)
    have hml : (Txt.mul (Str.ofString " ") bl).length ≤ 5 := by
      have := len_mul (Str.ofString " ") bl
      have e1 : (Str.ofString " ").length = 1 := by decide
      rw [e1] at this
      omega
    simp [hmul]
    refine hR6 _ _ (step fun R7 hR7 => ?_)
    generalize Txt.mul (Str.ofString " ") bl = B at hml
    have hwb : wd.length + B.length ≤ sizeLine := size_10 (by omega)
    simp [wpS, wpE, wpEs, c0, hwb]
    refine call_pick (n := n4 - 1) (by omega) (by simp) (by simp) fun pc n5 hr hn5 => ?_
    have hpc : ∃ z : Str, pc = .str z ∧ z.length ≤ 13 := by
      simp at hr
      have o1 : (⟨#[c]⟩ : Str).length = 1 := rfl
      rcases hr with rfl | rfl | rfl | rfl | rfl | rfl | rfl | rfl | rfl | rfl | rfl | rfl <;> first | exact ⟨_, rfl, by decide⟩ | exact ⟨_, rfl, by omega⟩ | exact ⟨_, rfl, by rw [o1]; omega⟩ | exact ⟨_, rfl, by simp; omega⟩
    obtain ⟨pc, rfl, hpc⟩ := hpc
    have hsz : s.length + pc.length ≤ sizeLine := size_10 (by omega)
    simp [hsz]
    refine hR7 _ _ ?_
    simp only [wpSs]
    exact hn _ _ ⟨s ++ pc, _, _, _, _, n5, rfl, rfl, by simp; omega, by omega, by omega⟩
  · rintro sl T ⟨s, v3, v4, v5, v6, n', rfl, rfl, h1, h2, h3⟩
    refine hR3 _ _ ?_
    simp [wpSs, wpS, wpE]
    exact cut_1 (h _ n' ⟨s, rfl, by simpa using h1⟩ (by simpa using h3))
  · refine ⟨Str.ofString "", none, none, none, none, n1, rfl, rfl, ?_, by simp [rangeL_len]; omega, by simp [rangeL_len]; omega⟩
    have : (Str.ofString "").length = 0 := by decide
    rw [this]
    simp [rangeL_len]; omega
end DL.LW
namespace DL.LW
open PySem PySem.Spec PyProof.Rows L2 DL
/-! ### parts of a text -/
theorem spl_facts (S : List Nat) : ∀ (l : List Nat) (k : Nat) (acc : List Nat), (TL.spl S k acc l).length ≤ l.length + 1 ∧ TL.spl S k acc l ≠ [] ∧ ∀ p ∈ TL.spl S k acc l, p.length ≤ acc.length + l.length
  | [], k, acc => by rw [TL.spl_nil]; simp
  | c :: r, 0, acc => by
    by_cases h : TL.pre S (c :: r) = true
    · rw [TL.spl_hit h]
      obtain ⟨a, b, d⟩ := spl_facts S r (S.length - 1) []
      refine ⟨by simp; omega, by simp, fun p hp => ?_⟩
      rcases List.mem_cons.mp hp with rfl | hp
      · simp
      · have := d p hp
        simp at this ⊢; omega
    · rw [TL.spl_miss (by simpa using h)]
      obtain ⟨a, b, d⟩ := spl_facts S r 0 (acc ++ [c])
      refine ⟨by simp; omega, b, fun p hp => ?_⟩
      have := d p hp
      simp at this ⊢; omega
  | c :: r, k + 1, acc => by
    obtain ⟨a, b, d⟩ := spl_facts S r k acc
    refine ⟨by show (TL.spl S k acc r).length ≤ _; simp; omega, b, fun p hp => ?_⟩
    have := d p hp
    simp; omega
theorem split_facts {x y : Str} (hy : TL.tl y ≠ []) (hk : y.cps.all (· < 256) = true) : Txt.split x y ≠ [] ∧ (Txt.split x y).length ≤ x.length + 1 ∧ ∀ p ∈ Txt.split x y, p.length ≤ x.length := by
  have e := TL.split_spl x y hy (TL.kind_ok hk)
  obtain ⟨a, b, d⟩ := spl_facts (TL.tl y) (TL.tl x) 0 []
  rw [← e] at a b d
  rw [TL.len_tl x]
  refine ⟨fun z => b (by rw [z]; rfl), by simpa using a, fun p hp => ?_⟩
  have := d _ (List.mem_map.mpr ⟨p, hp, rfl⟩)
  rw [TL.len_tl p]
  simpa using this
/-! ### tokens of a row -/
def WS : Str := "abcdefghijklmnopqrstuvwxyzABCDEFGHIJKLMNOPQRSTUVWXYZ0123456789_"
def gSIGNS : PyData := .str WS
theorem hWS : Str.ofString "abcdefghijklmnopqrstuvwxyzABCDEFGHIJKLMNOPQRSTUVWXYZ0123456789_" = WS := rfl
def inW (c : Nat) : Bool := decide (c ∈ WS.cps.toList)
def wrun (l : List Nat) : Nat := (l.takeWhile inW).length
theorem run_le : ∀ l : List Nat, wrun l ≤ l.length
  | [] => by simp [wrun]
  | c :: r => by
    have := run_le r
    unfold wrun at this ⊢
    rw [List.takeWhile_cons]
    split <;> simp <;> omega
theorem run_lt : ∀ {l : List Nat} {i : Nat}, i < wrun l → ∃ c, l[i]? = some c ∧ inW c = true
  | [], i, h => by simp [wrun] at h
  | c :: r, i, h => by
    unfold wrun at h
    rw [List.takeWhile_cons] at h
    split at h
    · rename_i hc
      cases i with
      | zero => exact ⟨c, rfl, hc⟩
      | succ i => exact run_lt (l := r) (i := i) (by unfold wrun; simpa using h)
    · simp at h
theorem run_end : ∀ {l : List Nat} {c : Nat}, l[wrun l]? = some c → inW c = false
  | [], c, h => by simp at h
  | d :: r, c, h => by
    unfold wrun at h
    rw [List.takeWhile_cons] at h
    split at h
    · exact run_end (l := r) (by unfold wrun; simpa using h)
    · rename_i hd
      simp at h
      subst h
      simpa using hd
/-- behind the sign c: how far its word goes -/
def ext (c : Nat) (r : List Nat) : Nat := if inW c = true then wrun r else 0
theorem ext_le {c : Nat} {r : List Nat} : ext c r ≤ r.length := by
  unfold ext
  split
  · exact run_le r
  · omega
def toks : List Nat → Nat → List (Nat × Nat)
  | [], _ => []
  | c :: r, p => (if c = 32 then [] else [(p, p + 1 + ext c r)]) ++ toks (r.drop (ext c r)) (p + 1 + ext c r)
termination_by l => l.length
decreasing_by simp; omega
theorem toks_facts : ∀ (n : Nat) (l : List Nat) (p : Nat), l.length = n → (toks l p).length ≤ l.length ∧ ∀ q ∈ toks l p, p ≤ q.1 ∧ q.1 < q.2 ∧ q.2 ≤ p + l.length := by
  intro n
  induction n using Nat.strongRecOn with
  | _ n ih =>
    intro l p hl
    cases l with
    | nil => rw [toks]; simp
    | cons c r =>
      have hx := ext_le (c := c) (r := r)
      obtain ⟨a, b⟩ := ih (r.drop (ext c r)).length (by simp at hl ⊢; omega) (r.drop (ext c r)) (p + 1 + ext c r) rfl
      simp at a b
      rw [toks]
      have h1 : ∀ q : Nat × Nat, q ∈ (if c = 32 then [] else [(p, p + 1 + ext c r)]) → q = (p, p + 1 + ext c r) := by
        intro q hq
        split at hq
        · cases hq
        · simpa using hq
      have h2 : (if c = 32 then [] else [(p, p + 1 + ext c r)]).length ≤ 1 := by split <;> simp
      refine ⟨by rw [List.length_append]; simp; omega, fun q hq => ?_⟩
      rcases List.mem_append.mp hq with hq | hq
      · rw [h1 q hq]
        simp; omega
      · have := b q.1 q.2 hq
        simp; omega
/-- the word of a token -/
def wd (r : Str) (q : Nat × Nat) : Str := cutS r (some q.1) (some q.2)
theorem wd_len {r : Str} {q : Nat × Nat} (h1 : q.1 < q.2) (h2 : q.2 ≤ r.length) : (wd r q).length = q.2 - q.1 := by
  have e1 : HT.sIx r.length 0 (some (q.1 : Int)) = min q.1 r.length := by simp [HT.sIx]; intro z; omega
  have e2 : HT.sIx r.length r.length (some (q.2 : Int)) = min q.2 r.length := by simp [HT.sIx]; intro z; omega
  have hl : r.cps.toList.length = r.length := by simp [Str.length]
  unfold wd cutS
  rw [e1, e2]
  show (List.toArray _).size = _
  rw [List.size_toArray, List.length_take, List.length_drop, hl]
  omega
def mkP (r : Str) (q : Nat × Nat) : PyData := .tuple [.str (wd r q), .int (q.1 + 1)]
def rowT (r : Str) : List (Nat × Nat) := toks r.cps.toList 0
/-- the text of a row ahead of its remark -/
def bare (s : Str) : Str := (Txt.split s "#").headD ""
theorem bare_split (s : Str) : ∃ rs, Txt.split s "#" = bare s :: rs := by
  obtain ⟨h, _⟩ := split_facts (x := s) (y := "#") (by decide +kernel) (by decide +kernel)
  unfold bare
  cases e : Txt.split s "#" with
  | nil => exact absurd e h
  | cons r rs => exact ⟨rs, rfl⟩
theorem bare_len (s : Str) : (bare s).length ≤ s.length := by
  obtain ⟨rs, e⟩ := bare_split s
  exact (split_facts (x := s) (y := "#") (by decide +kernel) (by decide +kernel)).2.2 _ (by rw [e]; simp)
def lineD (s : Str) : List PyData := (rowT (bare s)).map (mkP (bare s))
@[simp] noncomputable def fLine : FN
  | [.str s] => if s.length ≤ 600 then some (.ok (.list (lineD s))) else none
  | _ => none
theorem atI_nat {α : Type} {xs : List α} {i : Nat} {x : α} (h : xs[i]? = some x) : atI xs (i : Int) = some x := by
  have hi := (List.getElem?_eq_some_iff.mp h).1
  unfold atI ixN
  rw [if_pos (by omega), if_pos (by omega)]
  simpa using h
end DL.LW
namespace DL.LW
open PySem PySem.Spec PyProof.Rows L2 DL
theorem chars_len (r : Str) : r.cps.toList.length = r.length := by simp [Str.length]
theorem drop_cons_at {l : List Nat} {p : Nat} (h : p < l.length) : ∃ c, l[p]? = some c ∧ l.drop p = c :: l.drop (p + 1) := ⟨l[p], List.getElem?_eq_getElem h, List.drop_eq_getElem_cons h⟩
theorem in_one (c : Nat) : strIn ⟨#[c]⟩ WS = inW c := strIn_one c WS
theorem wpS_ite {Γ : DL.Env} {c : E} {a b : Ss} {D : DEnds} {sl : Slots} {T : Tab} : wpS Γ (.ite c a b) D sl T = wpE Γ c sl T (fun v T1 => truW T1 v fun t => if t = true then wpSs Γ a D sl T1 else wpSs Γ b D sl T1) D.xc := by simp only [wpS]
/-- the word goes on -/
theorem line_in {Γ : DL.Env} (g0 : Γ.globs 0 = gSIGNS) {s r : Str} {p n : Nat} {T : Tab} {D : DEnds} (hr : r.length ≤ 600) (hp : p < r.length) (hn : n = wrun (r.cps.toList.drop (p + 1)))
    (h : D.nx [some (.d (.str s)), some (.d (.str r)), some (.ob 0), some (.d (.int (p + 1 + n : Nat))), some (.d (.int p))] T) :
    wpS Γ (.whl (.and (.cmp .Lt (.var 3) (.bi .len (.cons (.var 1) .nil))) (.cmp .In (.idx (.var 1) (.var 3)) (.glb 0))) tm_line_tokens_b1) D [some (.d (.str s)), some (.d (.str r)), some (.ob 0), some (.d (.int (p + 1 : Nat))), some (.d (.int p))] T := by
  have hrs : r.length ≤ sizeLine := size_10 (by omega)
  have hcl := chars_len r
  have hnl := run_le (r.cps.toList.drop (p + 1))
  rw [List.length_drop] at hnl
  refine wp_whl (k := n) (I := fun k sl T' => ∃ q : Nat, sl = [some (.d (.str s)), some (.d (.str r)), some (.ob 0), some (.d (.int (q : Nat))), some (.d (.int p))] ∧ T' = T ∧ p + 1 ≤ q ∧ q + k = p + 1 + n) ?_ ⟨p + 1, rfl, rfl, Nat.le_refl _, rfl⟩
  rintro k sl T' nx ⟨q, rfl, rfl, h1, h2⟩ hnx
  simp [wpE, wpEs, g0, gSIGNS]
  by_cases hq : q < r.length
  · obtain ⟨c, hc, _⟩ := drop_cons_at (l := r.cps.toList) (p := q) (by omega)
    have ha := atI_nat hc
    have hq' : (q : Int) < r.length := by omega
    simp [hq, hq', ha, hrs, in_one]
    by_cases hk : k = 0
    · have e : q = p + 1 + n := by omega
      have hcn : inW c = false := run_end (l := r.cps.toList.drop (p + 1)) (by rw [← hn, List.getElem?_drop, ← e]; exact hc)
      simp [hcn]
      rw [e]
      exact h
    · obtain ⟨d, hd, hw⟩ := run_lt (l := r.cps.toList.drop (p + 1)) (i := q - (p + 1)) (by omega)
      rw [List.getElem?_drop, show p + 1 + (q - (p + 1)) = q by omega, hc] at hd
      cases hd
      simp [hw]
      unfold tm_line_tokens_b1
      simp [wpSs, wpS, wpE, wpEs]
      exact hnx (k - 1) _ _ (by omega) ⟨q + 1, by simp, rfl, by omega, by omega⟩
  · have e : q = r.length := by omega
    have hq' : ¬ (q : Int) < r.length := by omega
    have e2 : q = p + 1 + n := by omega
    simp [hq]
    rw [e2]
    exact ⟨hrs, h⟩
theorem line_main {Γ : DL.Env} (g0 : Γ.globs 0 = gSIGNS) {s : Str} (hs : s.length ≤ 600) {Q : VC} {X : XC} (h : Q (.d (.list (lineD s))) []) : rawD Γ tm_line_tokens 5 (dv [.str s]) [] (cutW 0 Q) (cutX 0 X) := by
  obtain ⟨rs, hsp⟩ := bare_split s
  have hr : (bare s).length ≤ 600 := Nat.le_trans (bare_len s) hs
  have e0 : lineD s = (rowT (bare s)).map (mkP (bare s)) := rfl
  rw [e0] at h
  generalize bare s = r at hsp hr h
  have hrs : r.length ≤ sizeLine := size_10 (by omega)
  have hsz : s.length + 2 ≤ sizeLine := size_10 (by omega)
  have hcl := chars_len r
  unfold rawD tm_line_tokens
  refine step fun R1 hR1 => ?_
  have hb : ((Str.ofString "#").length == 0) = false := by decide
  simp [wpS, wpE, wpEs, hsz, hsp, hb]
  refine hR1 _ _ (step fun R2 hR2 => ?_)
  have hcnt : ∀ acc : List PyData, ∀ rest : List PyData, acc ++ rest = (rowT r).map (mkP r) → acc.length ≤ 600 := by
    intro acc rest e
    have h1 := congrArg List.length e
    have h2 := (toks_facts _ r.cps.toList 0 rfl).1
    simp [rowT] at h1
    omega
  refine wp_whl (k := r.length) (I := fun k sl T => ∃ (p : Nat) (acc : List PyData) (st : Option Val), sl = [some (.d (.str s)), some (.d (.str r)), some (.ob 0), some (.d (.int p)), st] ∧ T = [.lst (dv acc)] ∧ p + k = r.length ∧ acc ++ (toks (r.cps.toList.drop p) p).map (mkP r) = (rowT r).map (mkP r)) ?_ ⟨0, [], none, rfl, rfl, by omega, by simp [rowT]⟩
  rintro k sl T nx ⟨p, acc, st, rfl, rfl, h1, h2⟩ hnx
  simp [wpE, wpEs, hrs]
  by_cases hp : p < r.length
  · obtain ⟨c, hc, hd⟩ := drop_cons_at (l := r.cps.toList) (p := p) (by omega)
    have ha := atI_nat hc
    have hp' : (p : Int) < r.length := by omega
    simp [hp]
    unfold tm_line_tokens_b2
    refine step fun R3 hR3 => ?_
    simp [wpS, wpE, wpEs]
    refine hR3 _ _ (step fun R4 hR4 => ?_)
    have hx := ext_le (c := c) (r := r.cps.toList.drop (p + 1))
    rw [List.length_drop] at hx
    have cont : R4 [some (.d (.str s)), some (.d (.str r)), some (.ob 0), some (.d (.int (p + 1 + ext c (r.cps.toList.drop (p + 1)) : Nat))), some (.d (.int p))] [.lst (dv acc)] := by
      refine hR4 _ _ (step fun R5 hR5 => ?_)
      rw [hd, toks] at h2
      have hdd : (r.cps.toList.drop (p + 1)).drop (ext c (r.cps.toList.drop (p + 1))) = r.cps.toList.drop (p + 1 + ext c (r.cps.toList.drop (p + 1))) := by rw [List.drop_drop]
      rw [hdd] at h2
      generalize hE : p + 1 + ext c (r.cps.toList.drop (p + 1)) = e at h2 hx
      have hsp2 : ((⟨#[c]⟩ : Str) = Str.ofString " ") ↔ c = 32 := by
        constructor
        · intro z
          have := congrArg (fun t : Str => t.cps) z
          have e2 : (Str.ofString " ").cps = #[32] := by decide
          rw [e2] at this
          simpa using this
        · rintro rfl; decide
      by_cases hc32 : c = 32
      · have hsp3 := hsp2.mpr hc32
        simp [wpS, wpE, wpEs, ha, hrs, hsp3, wpSs]
        refine hR5 _ _ ?_
        simp only [wpSs]
        rw [if_pos hc32] at h2
        exact hnx (r.length - e) _ _ (by omega) ⟨e, acc, _, rfl, rfl, by omega, by simpa using h2⟩
      · have hsp3 : ¬ ((⟨#[c]⟩ : Str) = Str.ofString " ") := fun z => hc32 (hsp2.mp z)
        rw [if_neg hc32] at h2
        have hal : acc.length < sizeLine := by
          have h5 := hcnt acc _ h2
          have := size_10 (n := acc.length + 1) (by omega)
          omega
        have hcut : cutS r (some (p : Int)) (some (e : Int)) = wd r (p, e) := rfl
        simp [wpS, wpE, wpEs, wpO, optI, ha, hrs, hsp3, wpSs, getT, setT, hal, dv_len', hcut]
        refine hR5 _ _ ?_
        simp only [wpSs]
        refine hnx (r.length - e) _ _ (by omega) ⟨e, acc ++ [mkP r (p, e)], _, rfl, ?_, by omega, by simpa using h2⟩
        simp [dv_map, mkP]
    by_cases hw : inW c = true
    · simp [wpS_ite, wpE, wpEs, ha, hrs, g0, gSIGNS, in_one, hw, wpSs]
      have e1 : ((p : Int) + 1) = ((p + 1 : Nat) : Int) := by simp
      rw [e1]
      refine line_in (Γ := Γ) g0 hr hp rfl ?_
      unfold ext at cont
      rw [if_pos hw] at cont
      exact cont
    · simp [wpS, wpE, wpEs, ha, hrs, g0, gSIGNS, in_one, hw, wpSs]
      unfold ext at cont
      rw [if_neg hw] at cont
      simpa using cont
  · have e : p = r.length := by omega
    have hp' : ¬ (p : Int) < r.length := by omega
    simp [hp]
    refine hR2 _ _ ?_
    have hdr : r.cps.toList.drop p = [] := List.drop_of_length_le (by omega)
    rw [hdr, toks] at h2
    simp at h2
    subst h2
    simp [wpSs, wpS, wpE, wpEs, getT, setT]
    exact ⟨Nat.zero_le _, rfl, h⟩
theorem raw_line {Γ : DL.Env} (g0 : Γ.globs 0 = gSIGNS) : ∀ vs T Q X, detX fLine vs T Q X → rawD Γ tm_line_tokens 5 vs T (cutW T.length Q) (cutX T.length X) := by
  rintro vs T Q X ⟨ds, rfl, rfl, h⟩
  rcases ds with _ | ⟨d, _ | ⟨e, ds⟩⟩
  · exact h.elim
  case cons.cons => cases d <;> exact h.elim
  cases d
  case str s =>
    by_cases hs : s.length ≤ 600
    · simp only [fLine, if_pos hs] at h
      exact line_main g0 hs h
    · simp only [fLine, if_neg hs] at h
  all_goals exact h.elim
end DL.LW
namespace DL.LW
open PySem PySem.Spec PyProof.Rows L2 DL
/-! ### the tokens of a text -/
def tokD (a : Nat) (r : Str) (first : Bool) (q : Nat × Nat) : PyData := .tuple [.int (a + 1), .int (q.1 + 1), if first then .int q.1 else .none, .str (wd r q)]
def mkRow (a : Nat) (r : Str) : Bool → List (Nat × Nat) → List PyData
  | _, [] => []
  | b, q :: qs => tokD a r b q :: mkRow a r false qs
def endD (a : Nat) (qs : List (Nat × Nat)) : List PyData := match qs.getLast? with
  | none => []
  | some q => [.tuple [.int (a + 1), .int (q.2 + 1), .none, .str "\n"]]
def rowD (a : Nat) (s : Str) : List PyData := mkRow a (bare s) true (rowT (bare s)) ++ endD a (rowT (bare s))
def allD : Nat → List Str → List PyData
  | _, [] => []
  | a, s :: ss => rowD a s ++ allD (a + 1) ss
def rowsOf (s : Str) : List Str := Txt.split s "\n"
def tokensD (s : Str) : List PyData := allD 0 (rowsOf s) ++ [.tuple [.int ((rowsOf s).length + 1), .int 1, .none, .str ""]]
theorem mkRow_len {a : Nat} {r : Str} : ∀ {qs : List (Nat × Nat)} {b : Bool}, (mkRow a r b qs).length = qs.length
  | [], _ => rfl
  | q :: qs, _ => by simp [mkRow, mkRow_len]
theorem endD_len {a : Nat} {qs : List (Nat × Nat)} : (endD a qs).length ≤ 1 := by
  unfold endD
  split <;> simp
theorem rowD_len {a : Nat} {s : Str} (hs : s.length ≤ 600) : (rowD a s).length ≤ 601 := by
  have h1 := (toks_facts _ (bare s).cps.toList 0 rfl).1
  have h2 := bare_len s
  have h3 := endD_len (a := a) (qs := rowT (bare s))
  rw [chars_len] at h1
  unfold rowD
  rw [List.length_append, mkRow_len]
  unfold rowT at *
  omega
theorem allD_len : ∀ {ss : List Str} {a : Nat}, (∀ s ∈ ss, s.length ≤ 600) → (allD a ss).length ≤ 601 * ss.length
  | [], _, _ => by simp [allD]
  | s :: ss, a, h => by
    have h1 := rowD_len (a := a) (h s (by simp))
    have h2 := allD_len (ss := ss) (a := a + 1) fun t ht => h t (by simp [ht])
    simp [allD]
    omega
theorem rows_facts {s : Str} (hs : s.length ≤ 600) : (rowsOf s).length ≤ 601 ∧ ∀ r ∈ rowsOf s, r.length ≤ 600 := by
  obtain ⟨_, h2, h3⟩ := split_facts (x := s) (y := "\n") (by decide +kernel) (by decide +kernel)
  exact ⟨by unfold rowsOf; omega, fun r hr => Nat.le_trans (h3 r hr) hs⟩
@[simp] noncomputable def fTok : FLN
  | [.str s] => if s.length ≤ 600 then some (.ok (tokensD s)) else none
  | [_] => some (.error ⟨"BadText", [("column", .int 1), ("line", .int 1)]⟩)
  | _ => none
theorem size_T {n : Nat} (h : n ≤ 1000000) : n ≤ sizeLine := by rw [sizeLine_eq]; omega
/-- the inner loop: a row's tokens -/
theorem tok_in {Γ : DL.Env} {a : Nat} {r : Str} {v0 v1 v4 v5 v6 v7 v8 : Option Val} {acc : List PyData} {D : DEnds} (hr : r.length ≤ 600) (hacc : acc.length ≤ 900000)
    (h : ∀ v6 v7 v8, D.nx [v0, v1, some (.ob 0), some (.d (.int a)), v4, v5, v6, v7, v8] [.lst (dv (acc ++ mkRow a r true (rowT r)))]) :
    loopW none (fun x D sl T => optW (patV (.tp [(.nm 6), (.tp [(.nm 7), (.nm 8)])]) x sl) fun sl1 => wpSs Γ tm_tokens_of_b1 D sl1 T) (enumL 0 (dv ((rowT r).map (mkP r)))) D [v0, v1, some (.ob 0), some (.d (.int a)), v4, v5, v6, v7, v8] [.lst (dv acc)] := by
  have hlen := (toks_facts _ r.cps.toList 0 rfl).1
  rw [chars_len] at hlen
  refine loop_inv (I := fun xs sl T => ∃ (i : Nat) (qs : List (Nat × Nat)) (ac : List PyData) (w6 w7 w8 : Option Val), xs = enumL i (dv (qs.map (mkP r))) ∧ sl = [v0, v1, some (.ob 0), some (.d (.int a)), v4, v5, w6, w7, w8] ∧ T = [.lst (dv ac)] ∧ ac ++ mkRow a r (i == 0) qs = acc ++ mkRow a r true (rowT r)) ?_ ?_ ⟨0, rowT r, acc, v6, v7, v8, rfl, rfl, rfl, rfl⟩
  · rintro x xs sl T nx ⟨i, qs, ac, w6, w7, w8, e, rfl, rfl, h1⟩ hn
    cases qs with
    | nil => cases e
    | cons q qs =>
      have e : x :: xs = .d (.tuple [.int i, mkP r q]) :: enumL (i + 1) (dv (qs.map (mkP r))) := e
      cases e
      have hal : ac.length < sizeLine := by
        have h2 := congrArg List.length h1
        rw [List.length_append, List.length_append, mkRow_len, mkRow_len] at h2
        have := size_T (n := ac.length + 1) (by unfold rowT at h2; omega)
        omega
      unfold tm_tokens_of_b1
      have key : ∀ w6 w7 w8, nx [v0, v1, some (.ob 0), some (.d (.int a)), v4, v5, w6, w7, w8] [.lst (dv ac ++ [.d (tokD a r (i == 0) q)])] := fun w6 w7 w8 =>
        hn _ _ ⟨i + 1, qs, ac ++ [tokD a r (i == 0) q], w6, w7, w8, rfl, rfl, by simp [dv_map], by rw [← h1]; simp [mkRow]⟩
      by_cases hi : i = 0
      · subst hi
        simp [mkP, wpSs, wpS, wpE, wpEs, getT, setT, hal, dv_len']
        exact key _ _ _
      · have hi2 : ¬ (i : Int) = 0 := by omega
        have hi3 : (i == 0) = false := by simpa using hi
        rw [hi3] at key
        simp [mkP, wpSs, wpS, wpE, wpEs, getT, setT, hal, dv_len', hi, hi2]
        exact key _ _ _
  · rintro sl T ⟨i, qs, ac, w6, w7, w8, e, rfl, rfl, h1⟩
    cases qs with
    | cons q qs => cases e
    | nil =>
      simp [mkRow] at h1
      subst h1
      exact h _ _ _
theorem plain_map {α : Type} {f : α → PyData} (h : ∀ x, plainD (f x) = true) : ∀ l : List α, plainA (l.map f) = true
  | [] => rfl
  | x :: l => by simp [h x, plain_map h l]
theorem atI_last {α : Type} {xs : List α} {x : α} (h : xs.getLast? = some x) : atI xs (-1) = some x := by
  have hne : xs ≠ [] := by
    intro e
    subst e
    cases h
  have hl : 0 < xs.length := List.length_pos_iff.mpr hne
  rw [List.getLast?_eq_getElem?] at h
  unfold atI ixN
  rw [if_neg (by omega), if_pos (by omega)]
  have : (-1 + (xs.length : Int)).toNat = xs.length - 1 := by omega
  simpa [this] using h
/-- one turn: a line -/
theorem tok_row {Γ : DL.Env} (g0 : Γ.globs 0 = .str "\n") (c0 : Γ.calls 0 = detX fLine) {a : Nat} {s : Str} {v0 v1 v5 v6 v7 v8 : Option Val} {acc : List PyData} {D : DEnds} (hs : s.length ≤ 600) (hacc : acc.length ≤ 800000)
    (h : ∀ v5 v6 v7 v8, D.nx [v0, v1, some (.ob 0), some (.d (.int a)), some (.d (.str s)), v5, v6, v7, v8] [.lst (dv (acc ++ rowD a s))]) :
    wpSs Γ tm_tokens_of_b2 D [v0, v1, some (.ob 0), some (.d (.int a)), some (.d (.str s)), v5, v6, v7, v8] [.lst (dv acc)] := by
  have hr : (bare s).length ≤ 600 := Nat.le_trans (bare_len s) hs
  have e0 : lineD s = (rowT (bare s)).map (mkP (bare s)) := rfl
  have e1 : rowD a s = mkRow a (bare s) true (rowT (bare s)) ++ endD a (rowT (bare s)) := rfl
  rw [e1] at h
  unfold tm_tokens_of_b2
  refine step fun R1 hR1 => ?_
  simp [wpS, wpE, wpEs, c0, hs]
  refine hR1 _ _ (step fun R2 hR2 => ?_)
  simp [wpS, wpI, wpE, wpEs]
  rw [e0]
  generalize bare s = r at hr h
  refine tok_in (acc := acc) hr (by omega) fun v6 v7 v8 => ?_
  refine hR2 _ _ (step fun R3 hR3 => ?_)
  have hlen := (toks_facts _ r.cps.toList 0 rfl).1
  rw [chars_len] at hlen
  have hml := mkRow_len (a := a) (r := r) (qs := rowT r) (b := true)
  have hal : (acc ++ mkRow a r true (rowT r)).length < sizeLine := by
    have := size_T (n := (acc ++ mkRow a r true (rowT r)).length + 1) (by rw [List.length_append, hml]; unfold rowT; omega)
    omega
  rw [← List.append_assoc] at h
  generalize acc ++ mkRow a r true (rowT r) = A at hal h
  have hpl : plainA ((rowT r).map (mkP r)) = true := plain_map (fun q => by simp [mkP]) _
  cases hq : (rowT r).getLast? with
  | none =>
    have hnil : rowT r = [] := by simpa using hq
    have he : endD a (rowT r) = [] := by unfold endD; rw [hq]
    rw [he] at h
    simp [wpS, wpE, wpEs, wpSs, hnil]
    refine hR3 _ _ ?_
    simp only [wpSs]
    simpa using h _ _ _ _
  | some q =>
    have he : endD a (rowT r) = [.tuple [.int (a + 1), .int (q.2 + 1), .none, .str "\n"]] := by unfold endD; rw [hq]
    rw [he] at h
    have hne : (rowT r) ≠ [] := by
      intro z
      rw [z] at hq
      cases hq
    have hql : ((rowT r).map (mkP r)).getLast? = some (mkP r q) := by rw [List.getLast?_map, hq]; rfl
    have hat := atI_last hql
    have hqm : q ∈ toks r.cps.toList 0 := List.mem_of_getLast? hq
    have hqf := (toks_facts _ r.cps.toList 0 rfl).2 q hqm
    rw [chars_len] at hqf
    have hwl := wd_len (r := r) hqf.2.1 (by omega)
    have hwl2 : q.2 - q.1 ≤ sizeLine := size_10 (by omega)
    have hcol : ((q.1 : Int) + 1 + ((q.2 - q.1 : Nat) : Int)) = q.2 + 1 := by omega
    simp [wpS, wpE, wpEs, wpSs, hpl, hne, hat, mkP, g0, hwl, hwl2, getT, setT, hal, dv_len']
    refine hR3 _ _ ?_
    simp only [wpSs]
    rw [hcol]
    simpa [dv_map] using h _ _ _ _
/-- the outer loop -/
theorem tok_out {Γ : DL.Env} (g0 : Γ.globs 0 = .str "\n") (c0 : Γ.calls 0 = detX fLine) {ss : List Str} {v0 v1 v3 v4 v5 v6 v7 v8 : Option Val} {D : DEnds} (hs : ∀ s ∈ ss, s.length ≤ 600) (hl : ss.length ≤ 601)
    (h : ∀ v3 v4 v5 v6 v7 v8, D.nx [v0, v1, some (.ob 0), v3, v4, v5, v6, v7, v8] [.lst (dv (allD 0 ss))]) :
    loopW none (fun x D sl T => optW (patV (.tp [(.nm 3), (.nm 4)]) x sl) fun sl1 => wpSs Γ tm_tokens_of_b2 D sl1 T) (enumL 0 (dv (ss.map .str))) D [v0, v1, some (.ob 0), v3, v4, v5, v6, v7, v8] [.lst []] := by
  refine loop_inv (I := fun xs sl T => ∃ (a : Nat) (rest : List Str) (ac : List PyData) (w3 w4 w5 w6 w7 w8 : Option Val), xs = enumL a (dv (rest.map .str)) ∧ sl = [v0, v1, some (.ob 0), w3, w4, w5, w6, w7, w8] ∧ T = [.lst (dv ac)] ∧ ac ++ allD a rest = allD 0 ss ∧ ∀ s ∈ rest, s ∈ ss) ?_ ?_ ⟨0, ss, [], v3, v4, v5, v6, v7, v8, rfl, rfl, rfl, rfl, fun _ h => h⟩
  · rintro x xs sl T nx ⟨a, rest, ac, w3, w4, w5, w6, w7, w8, e, rfl, rfl, h1, h2⟩ hn
    cases rest with
    | nil => cases e
    | cons s rest =>
      have e : x :: xs = .d (.tuple [.int a, .str s]) :: enumL (a + 1) (dv (rest.map .str)) := e
      cases e
      have hal : ac.length ≤ 800000 := by
        have h3 := congrArg List.length h1
        have h4 := allD_len (a := 0) hs
        rw [List.length_append] at h3
        omega
      simp
      refine tok_row g0 c0 (acc := ac) (hs s (h2 s (by simp))) hal fun w5 w6 w7 w8 => ?_
      exact hn _ _ ⟨a + 1, rest, ac ++ rowD a s, _, _, w5, w6, w7, w8, rfl, rfl, rfl, by rw [← h1]; simp [allD], fun t ht => h2 t (by simp [ht])⟩
  · rintro sl T ⟨a, rest, ac, w3, w4, w5, w6, w7, w8, e, rfl, rfl, h1, h2⟩
    cases rest with
    | cons s rest => cases e
    | nil =>
      simp [allD] at h1
      subst h1
      exact h _ _ _ _ _ _
theorem tok_main {Γ : DL.Env} (g0 : Γ.globs 0 = .str "\n") (g1 : Γ.globs 1 = .str "") (c0 : Γ.calls 0 = detX fLine) {s : Str} (hs : s.length ≤ 600) {Q : VC} {X : XC} (h : Q (.ob 0) [.lst (dv (tokensD s))]) : rawD Γ tm_tokens_of 9 (dv [.str s]) [] (cutW 0 Q) (cutX 0 X) := by
  obtain ⟨h1, h2⟩ := rows_facts hs
  have e0 : tokensD s = allD 0 (rowsOf s) ++ [.tuple [.int ((rowsOf s).length + 1), .int 1, .none, .str ""]] := rfl
  have e1 : rowsOf s = Txt.split s "\n" := rfl
  have hsz : s.length + 2 ≤ sizeLine := size_10 (by omega)
  have hb : ((Str.ofString "\n").length == 0) = false := by decide
  unfold rawD tm_tokens_of
  refine step fun R1 hR1 => ?_
  simp [wpS, wpE, wpEs, wpSs]
  refine hR1 _ _ (step fun R2 hR2 => ?_)
  simp [wpS, wpE, wpEs, hsz, hb]
  refine hR2 _ _ (step fun R3 hR3 => ?_)
  simp [wpS, wpI, wpE, wpEs]
  rw [← e1]
  have hl2 := allD_len (a := 0) h2
  generalize rowsOf s = ss at h1 h2 e0 hl2
  refine tok_out g0 c0 h2 h1 fun v3 v4 v5 v6 v7 v8 => ?_
  refine hR3 _ _ (step fun R4 hR4 => ?_)
  have hal : (allD 0 ss).length < sizeLine := by
    have := size_T (n := (allD 0 ss).length + 1) (by omega)
    omega
  have hss : ss.length ≤ sizeLine := size_10 (by omega)
  simp [wpS, wpE, wpEs, g1, getT, setT, hal, dv_len', hss]
  refine hR4 _ _ ?_
  simp [wpSs, wpS, wpE]
  have h9 := cut_L (T := []) h
  rw [e0] at h9
  simpa [dv_map] using h9
theorem raw_tokens_of {Γ : DL.Env} (g0 : Γ.globs 0 = .str "\n") (g1 : Γ.globs 1 = .str "") (c0 : Γ.calls 0 = detX fLine) : ∀ vs T Q X, detL fTok vs T Q X → rawD Γ tm_tokens_of 9 vs T (cutW T.length Q) (cutX T.length X) := by
  rintro vs T Q X ⟨ds, rfl, rfl, h⟩
  have bad : ∀ x : PyData, isTy (match tyName [] (.d x) with | some t => t | none => "") ["str"] = false → X ⟨"BadText", [("column", .int 1), ("line", .int 1)]⟩ [] → rawD Γ tm_tokens_of 9 (dv [x]) [] (cutW 0 Q) (cutX 0 X) := by
    intro x hx h
    unfold rawD tm_tokens_of
    refine step fun R1 hR1 => ?_
    cases x <;> simp [tyName, isTy] at hx <;> simp [wpS, wpE, wpEs, wpSs, raiseWF, dats] <;> exact ⟨Nat.zero_le _, rfl, h⟩
  rcases ds with _ | ⟨d, _ | ⟨e, ds⟩⟩
  · exact h.elim
  case cons.cons => cases d <;> exact h.elim
  cases d
  case str s =>
    by_cases hs : s.length ≤ 600
    · simp only [fTok, if_pos hs] at h
      exact tok_main g0 g1 c0 hs h
    · simp only [fTok, if_neg hs] at h
  all_goals exact bad _ (by simp [tyName, isTy]) h
end DL.LW
namespace DL.LW
open PySem PySem.Spec PyProof.Rows L2 DL
/-! ### the law's walk -/
def fin (en : Nat) : List (Nat × Nat) → Nat
  | [] => en
  | q :: qs => fin q.2 qs
theorem fin_last : ∀ {qs : List (Nat × Nat)} {en : Nat}, fin en qs = match qs.getLast? with | none => en | some q => q.2
  | [], _ => rfl
  | q :: qs, en => by
    rw [fin, fin_last (qs := qs)]
    cases qs with
    | nil => rfl
    | cons q2 qs =>
      rw [List.getLast?_cons_cons]
      cases h : (q2 :: qs).getLast? with
      | none => simp at h
      | some z => rfl
theorem endD_fin {a : Nat} {qs : List (Nat × Nat)} (h : ∀ q ∈ qs, 0 < q.2) : endD a qs = if 0 < fin 0 qs then [.tuple [.int (a + 1), .int (fin 0 qs + 1), .none, .str "\n"]] else [] := by
  rw [fin_last]
  unfold endD
  cases e : qs.getLast? with
  | none => simp
  | some q =>
    have := h q (List.mem_of_getLast? e)
    simp [this]
theorem tx_in {Γ : DL.Env} {r : Str} {p c : Nat} {v0 v2 v3 v4 v7 : Option Val} {T : Tab} {D : DEnds} (hr : r.length ≤ 600) (hp : p < r.length) (hc : r.cps.toList[p]? = some c)
    (h : D.nx [v0, some (.d (.str WS)), v2, v3, v4, some (.d (.str r)), some (.d (.int (p + 1 + ext c (r.cps.toList.drop (p + 1)) : Nat))), v7, some (.d (.int p))] T) :
    wpS Γ (.whl (.and (.cmp .In (.idx (.var 5) (.var 8)) (.var 1)) (.and (.cmp .Lt (.var 6) (.bi .len (.cons (.var 5) .nil))) (.cmp .In (.idx (.var 5) (.var 6)) (.var 1)))) tm__law_tx_tokens_b1) D [v0, some (.d (.str WS)), v2, v3, v4, some (.d (.str r)), some (.d (.int (p + 1 : Nat))), v7, some (.d (.int p))] T := by
  have hrs : r.length ≤ sizeLine := size_10 (by omega)
  have hcl := chars_len r
  have hnl := run_le (r.cps.toList.drop (p + 1))
  rw [List.length_drop] at hnl
  have hac := atI_nat hc
  by_cases hw : inW c = true
  · unfold ext at h
    rw [if_pos hw] at h
    generalize hn : wrun (r.cps.toList.drop (p + 1)) = n at h hnl
    refine wp_whl (k := n) (I := fun k sl T' => ∃ q : Nat, sl = [v0, some (.d (.str WS)), v2, v3, v4, some (.d (.str r)), some (.d (.int (q : Nat))), v7, some (.d (.int p))] ∧ T' = T ∧ p + 1 ≤ q ∧ q + k = p + 1 + n) ?_ ⟨p + 1, rfl, rfl, Nat.le_refl _, rfl⟩
    rintro k sl T' nx ⟨q, rfl, rfl, h1, h2⟩ hnx
    simp [wpE, wpEs, hac, hrs, in_one, hw]
    by_cases hq : q < r.length
    · obtain ⟨d, hd, _⟩ := drop_cons_at (l := r.cps.toList) (p := q) (by omega)
      have ha := atI_nat hd
      simp [hq, ha, in_one]
      by_cases hk : k = 0
      · have e : q = p + 1 + n := by omega
        have hcn : inW d = false := run_end (l := r.cps.toList.drop (p + 1)) (by rw [hn, List.getElem?_drop, ← e]; exact hd)
        simp [hcn]
        rw [e]
        exact h
      · obtain ⟨d2, hd2, hw2⟩ := run_lt (l := r.cps.toList.drop (p + 1)) (i := q - (p + 1)) (by omega)
        rw [List.getElem?_drop, show p + 1 + (q - (p + 1)) = q by omega, hd] at hd2
        cases hd2
        simp [hw2]
        unfold tm__law_tx_tokens_b1
        simp [wpSs, wpS, wpE, wpEs]
        exact hnx (k - 1) _ _ (by omega) ⟨q + 1, by simp, rfl, by omega, by omega⟩
    · have e2 : q = p + 1 + n := by omega
      simp [hq]
      rw [e2]
      exact h
  · unfold ext at h
    rw [if_neg hw] at h
    have hw : inW c = false := by simpa using hw
    refine wp_whl (k := 0) (I := fun k sl T' => sl = [v0, some (.d (.str WS)), v2, v3, v4, some (.d (.str r)), some (.d (.int (p + 1 : Nat))), v7, some (.d (.int p))] ∧ T' = T) ?_ ⟨rfl, rfl⟩
    rintro k sl T' nx ⟨rfl, rfl⟩ hnx
    simp [wpE, wpEs, hac, hrs, in_one, hw]
    simpa using h
/-- a row -/
theorem tx_row {Γ : DL.Env} {a : Nat} {s : Str} {v0 v3 v6 v7 v8 : Option Val} {acc : List PyData} {D : DEnds} (hs : s.length ≤ 600) (hacc : acc.length ≤ 800000)
    (h : ∀ v5 v6 v7 v8, D.nx [v0, some (.d (.str WS)), some (.ob 0), v3, some (.d (.int a)), v5, v6, v7, v8] [.lst (dv (acc ++ rowD a s))]) :
    wpSs Γ tm__law_tx_tokens_b3 D [v0, some (.d (.str WS)), some (.ob 0), v3, some (.d (.int a)), some (.d (.str s)), v6, v7, v8] [.lst (dv acc)] := by
  have hr : (bare s).length ≤ 600 := Nat.le_trans (bare_len s) hs
  obtain ⟨rs, hsp⟩ := bare_split s
  have e1 : rowD a s = mkRow a (bare s) true (rowT (bare s)) ++ endD a (rowT (bare s)) := rfl
  rw [e1] at h
  have hsz : s.length + 2 ≤ sizeLine := size_10 (by omega)
  have hb : ((Str.ofString "#").length == 0) = false := by decide
  unfold tm__law_tx_tokens_b3
  refine step fun R1 hR1 => ?_
  simp [wpS, wpE, wpEs, hsz, hsp, hb]
  generalize bare s = r at hr hsp h
  refine hR1 _ _ (step fun R2 hR2 => ?_)
  have hrs : r.length ≤ sizeLine := size_10 (by omega)
  have hcl := chars_len r
  have htf := toks_facts _ r.cps.toList 0 rfl
  have hcnt : ∀ ac : List PyData, ∀ (b : Bool) (qs : List (Nat × Nat)), ac ++ mkRow a r b qs = acc ++ mkRow a r true (rowT r) → ac.length < sizeLine := by
    intro ac b qs e
    have h1 := congrArg List.length e
    rw [List.length_append, List.length_append, mkRow_len, mkRow_len] at h1
    have h2 := htf.1
    have := size_T (n := ac.length + 1) (by unfold rowT at h1; omega)
    omega
  refine wp_whl (k := r.length) (I := fun k sl T => ∃ (p en : Nat) (ac : List PyData) (w8 : Option Val), sl = [v0, some (.d (.str WS)), some (.ob 0), v3, some (.d (.int a)), some (.d (.str r)), some (.d (.int p)), some (.d (.int en)), w8] ∧ T = [.lst (dv ac)] ∧ p + k = r.length ∧
    ac ++ mkRow a r (en == 0) (toks (r.cps.toList.drop p) p) = acc ++ mkRow a r true (rowT r) ∧ fin en (toks (r.cps.toList.drop p) p) = fin 0 (rowT r)) ?_ ⟨0, 0, acc, v8, rfl, rfl, by omega, rfl, rfl⟩
  rintro k sl T nx ⟨p, en, ac, w8, rfl, rfl, h1, h2, h3⟩ hnx
  simp [wpE, wpEs, hrs]
  by_cases hp : p < r.length
  · obtain ⟨c, hc, hd⟩ := drop_cons_at (l := r.cps.toList) (p := p) (by omega)
    have ha := atI_nat hc
    simp [hp]
    unfold tm__law_tx_tokens_b2
    refine step fun R3 hR3 => ?_
    simp [wpS, wpE, wpEs]
    refine hR3 _ _ (step fun R4 hR4 => ?_)
    have hx := ext_le (c := c) (r := r.cps.toList.drop (p + 1))
    rw [List.length_drop] at hx
    have e1 : ((p : Int) + 1) = ((p + 1 : Nat) : Int) := by simp
    rw [e1]
    refine tx_in hr hp hc ?_
    refine hR4 _ _ (step fun R5 hR5 => ?_)
    rw [hd, toks] at h2 h3
    have hdd : (r.cps.toList.drop (p + 1)).drop (ext c (r.cps.toList.drop (p + 1))) = r.cps.toList.drop (p + 1 + ext c (r.cps.toList.drop (p + 1))) := by rw [List.drop_drop]
    rw [hdd] at h2 h3
    generalize hE : p + 1 + ext c (r.cps.toList.drop (p + 1)) = e at h2 h3 hx
    have hsp2 : ((⟨#[c]⟩ : Str) = Str.ofString " ") ↔ c = 32 := by
      constructor
      · intro z
        have := congrArg (fun t : Str => t.cps) z
        have e2 : (Str.ofString " ").cps = #[32] := by decide
        rw [e2] at this
        simpa using this
      · rintro rfl; decide
    by_cases hc32 : c = 32
    · have hsp3 := hsp2.mpr hc32
      simp [wpS, wpE, wpEs, ha, hrs, hsp3, wpSs]
      refine hR5 _ _ ?_
      simp only [wpSs]
      rw [if_pos hc32] at h2 h3
      exact hnx (r.length - e) _ _ (by omega) ⟨e, en, ac, _, rfl, rfl, by omega, by simpa using h2, by simpa using h3⟩
    · have hsp3 : ¬ ((⟨#[c]⟩ : Str) = Str.ofString " ") := fun z => hc32 (hsp2.mp z)
      rw [if_neg hc32] at h2 h3
      have hal : ac.length < sizeLine := hcnt ac _ _ h2
      have hcut : cutS r (some (p : Int)) (some (e : Int)) = wd r (p, e) := rfl
      have key : ∀ w : PyData, w = (if (en == 0) = true then .int p else .none) → R5 [v0, some (.d (.str WS)), some (.ob 0), v3, some (.d (.int a)), some (.d (.str r)), some (.d (.int e)), some (.d (.int e)), some (.d (.int p))] [.lst (dv ac ++ [.d (.tuple [.int (a + 1), .int (p + 1), w, .str (wd r (p, e))])])] := by
        rintro w rfl
        refine hR5 _ _ ?_
        simp only [wpSs]
        refine hnx (r.length - e) _ _ (by omega) ⟨e, e, ac ++ [tokD a r (en == 0) (p, e)], _, rfl, ?_, by omega, ?_, ?_⟩
        · simp [dv_map, tokD]
        · have he0 : (e == 0) = false := by simp; omega
          rw [he0, ← h2]
          simp [mkRow]
        · simpa [fin] using h3
      by_cases hen : en = 0
      · subst hen
        simp [wpS, wpE, wpEs, wpO, optI, ha, hrs, hsp3, wpSs, getT, setT, hal, dv_len', hcut]
        exact key _ rfl
      · have hen2 : ¬ (en : Int) = 0 := by omega
        have hen3 : (en == 0) = false := by simpa using hen
        simp [wpS, wpE, wpEs, wpO, optI, ha, hrs, hsp3, wpSs, getT, setT, hal, dv_len', hcut, hen, hen2]
        exact key _ (by simp [hen3])
  · simp [hp]
    refine hR2 _ _ (step fun R3 hR3 => ?_)
    have hdr : r.cps.toList.drop p = [] := List.drop_of_length_le (by omega)
    have hal : ac.length < sizeLine := hcnt ac _ _ h2
    rw [hdr, toks] at h2 h3
    simp [mkRow] at h2
    simp [fin] at h3
    rw [← List.append_assoc, ← h2, endD_fin (fun q hq => by have := htf.2 q hq; omega), ← h3] at h
    by_cases hen : 0 < en
    · have hen2 : (0 : Int) < en := by omega
      rw [if_pos hen] at h
      simp [wpS, wpE, wpEs, wpSs, getT, setT, hal, dv_len', hen, hen2]
      refine hR3 _ _ ?_
      simp only [wpSs]
      simpa [dv_map] using h _ _ _ _
    · have hen2 : ¬ (0 : Int) < en := by omega
      rw [if_neg hen] at h
      simp [wpS, wpE, wpEs, wpSs, hen, hen2]
      refine hR3 _ _ ?_
      simp only [wpSs]
      simpa using h _ _ _ _
end DL.LW
namespace DL.LW
open PySem PySem.Spec PyProof.Rows L2 DL
theorem tx_out {Γ : DL.Env} {ss : List Str} {v0 v3 v4 v5 v6 v7 v8 : Option Val} {D : DEnds} (hs : ∀ s ∈ ss, s.length ≤ 600) (hl : ss.length ≤ 601)
    (h : ∀ v4 v5 v6 v7 v8, D.nx [v0, some (.d (.str WS)), some (.ob 0), v3, v4, v5, v6, v7, v8] [.lst (dv (allD 0 ss))]) :
    loopW none (fun x D sl T => optW (patV (.tp [(.nm 4), (.nm 5)]) x sl) fun sl1 => wpSs Γ tm__law_tx_tokens_b3 D sl1 T) (enumL 0 (dv (ss.map .str))) D [v0, some (.d (.str WS)), some (.ob 0), v3, v4, v5, v6, v7, v8] [.lst []] := by
  refine loop_inv (I := fun xs sl T => ∃ (a : Nat) (rest : List Str) (ac : List PyData) (w4 w5 w6 w7 w8 : Option Val), xs = enumL a (dv (rest.map .str)) ∧ sl = [v0, some (.d (.str WS)), some (.ob 0), v3, w4, w5, w6, w7, w8] ∧ T = [.lst (dv ac)] ∧ ac ++ allD a rest = allD 0 ss ∧ ∀ s ∈ rest, s ∈ ss) ?_ ?_ ⟨0, ss, [], v4, v5, v6, v7, v8, rfl, rfl, rfl, rfl, fun _ h => h⟩
  · rintro x xs sl T nx ⟨a, rest, ac, w4, w5, w6, w7, w8, e, rfl, rfl, h1, h2⟩ hn
    cases rest with
    | nil => cases e
    | cons s rest =>
      have e : x :: xs = .d (.tuple [.int a, .str s]) :: enumL (a + 1) (dv (rest.map .str)) := e
      cases e
      have hal : ac.length ≤ 800000 := by
        have h3 := congrArg List.length h1
        have h4 := allD_len (a := 0) hs
        rw [List.length_append] at h3
        omega
      simp
      refine tx_row (acc := ac) (hs s (h2 s (by simp))) hal fun w5 w6 w7 w8 => ?_
      exact hn _ _ ⟨a + 1, rest, ac ++ rowD a s, _, w5, w6, w7, w8, rfl, rfl, rfl, by rw [← h1]; simp [allD], fun t ht => h2 t (by simp [ht])⟩
  · rintro sl T ⟨a, rest, ac, w4, w5, w6, w7, w8, e, rfl, rfl, h1, h2⟩
    cases rest with
    | cons s rest => cases e
    | nil =>
      simp [allD] at h1
      subst h1
      exact h _ _ _ _ _
@[simp] noncomputable def fTx : FN
  | [.str s] => if s.length ≤ 600 then some (.ok (.list (tokensD s))) else none
  | _ => none
theorem tx_main {Γ : DL.Env} {s : Str} (hs : s.length ≤ 600) {Q : VC} {X : XC} (h : Q (.d (.list (tokensD s))) []) : rawD Γ tm__law_tx_tokens 9 (dv [.str s]) [] (cutW 0 Q) (cutX 0 X) := by
  obtain ⟨h1, h2⟩ := rows_facts hs
  have e0 : tokensD s = allD 0 (rowsOf s) ++ [.tuple [.int ((rowsOf s).length + 1), .int 1, .none, .str ""]] := rfl
  have e1 : rowsOf s = Txt.split s "\n" := rfl
  have hsz : s.length + 2 ≤ sizeLine := size_10 (by omega)
  have hb : ((Str.ofString "\n").length == 0) = false := by decide
  unfold rawD tm__law_tx_tokens
  refine step fun R1 hR1 => ?_
  simp [wpS, wpE, wpEs, wpSs, hWS]
  refine hR1 _ _ (step fun R2 hR2 => ?_)
  simp [wpS, wpE, wpEs, hsz, hb]
  refine hR2 _ _ (step fun R3 hR3 => ?_)
  simp [wpS, wpI, wpE, wpEs]
  rw [← e1]
  have hl2 := allD_len (a := 0) h2
  generalize rowsOf s = ss at h1 h2 e0 hl2
  refine tx_out h2 h1 fun v4 v5 v6 v7 v8 => ?_
  refine hR3 _ _ ?_
  have hal : (allD 0 ss).length + 1 ≤ sizeLine := size_T (by omega)
  have hss : ss.length ≤ sizeLine := size_10 (by omega)
  simp [wpS, wpSs, wpE, wpEs, getT, setT, asD, hal, dv_len', hss]
  rw [e0] at h
  exact ⟨Nat.zero_le _, rfl, h⟩
theorem raw_tx_tokens {Γ : DL.Env} : ∀ vs T Q X, detX fTx vs T Q X → rawD Γ tm__law_tx_tokens 9 vs T (cutW T.length Q) (cutX T.length X) := by
  rintro vs T Q X ⟨ds, rfl, rfl, h⟩
  rcases ds with _ | ⟨d, _ | ⟨e, ds⟩⟩
  · exact h.elim
  case cons.cons => cases d <;> exact h.elim
  cases d
  case str s =>
    by_cases hs : s.length ≤ 600
    · simp only [fTx, if_pos hs] at h
      exact tx_main hs h
    · simp only [fTx, if_neg hs] at h
  all_goals exact h.elim
/-! ### is it BadText(1, 1) -/
def bad11 : DX := ⟨"BadText", [("column", .int 1), ("line", .int 1)]⟩
def dspBad : DSp := fun vs T Q _ => vs = [.ex bad11, .d (.int 1), .d (.int 1)] ∧ T = [] ∧ Q (.d (.bool true)) []
theorem dspBad_mono : MonoS dspBad := by
  rintro vs T Q Q' X X' hq hx ⟨a, b, c⟩
  exact ⟨a, b, hq _ _ c⟩
theorem raw_bad {Γ : DL.Env} (s2 : Γ.sub "BadText" "BadText" = some true) : ∀ vs T Q X, dspBad vs T Q X → rawD Γ tm__law_tx_bad 3 vs T (cutW T.length Q) (cutX T.length X) := by
  rintro vs T Q X ⟨rfl, rfl, h⟩
  have f1 : fldV "BadText" "line" (.ex bad11) = some (.int 1) := by rfl
  have f2 : fldV "BadText" "column" (.ex bad11) = some (.int 1) := by rfl
  unfold rawD tm__law_tx_bad
  have s3 : Γ.sub bad11.cls "BadText" = some true := s2
  simp [wpSs, wpS, wpE, wpEs, isxV, s3, f1, f2]
  exact ⟨.inl ⟨rfl, rfl, by decide⟩, cut_0 h⟩
end DL.LW
namespace DL.LW
open PySem PySem.Spec PyProof.Rows L2 DL
/-! ### the tokens' forms -/
def tkF (x : PyData) : Prop := ∃ (a b : Int) (c : PyData) (s : Str), x = .tuple [.int a, .int b, c, .str s] ∧ (c = .none ∨ ∃ i, c = .int i)
theorem mkRow_form {a : Nat} {r : Str} : ∀ {qs : List (Nat × Nat)} {b : Bool}, ∀ x ∈ mkRow a r b qs, tkF x
  | [], _, x, h => by cases h
  | q :: qs, b, x, h => by
    rcases List.mem_cons.mp h with rfl | h
    · refine ⟨a + 1, q.1 + 1, _, wd r q, rfl, ?_⟩
      cases b
      · exact .inl rfl
      · exact .inr ⟨q.1, rfl⟩
    · exact mkRow_form x h
theorem endD_form {a : Nat} {qs : List (Nat × Nat)} : ∀ x ∈ endD a qs, tkF x := by
  intro x h
  unfold endD at h
  split at h
  · cases h
  · rw [List.mem_singleton] at h
    subst h
    exact ⟨_, _, _, _, rfl, .inl rfl⟩
theorem allD_form : ∀ {ss : List Str} {a : Nat}, ∀ x ∈ allD a ss, tkF x
  | [], _, x, h => by cases h
  | s :: ss, a, x, h => by
    rcases List.mem_append.mp h with h | h
    · rcases List.mem_append.mp h with h | h
      · exact mkRow_form x h
      · exact endD_form x h
    · exact allD_form x h
theorem tokens_form {s : Str} : ∀ x ∈ tokensD s, tkF x := by
  intro x h
  rcases List.mem_append.mp h with h | h
  · exact allD_form x h
  · rw [List.mem_singleton] at h
    subst h
    exact ⟨_, _, _, _, rfl, .inl rfl⟩
theorem tk_plain {x : PyData} (h : tkF x) : plainD x = true ∧ x.depth ≤ 2 := by
  obtain ⟨a, b, c, s, rfl, rfl | ⟨i, rfl⟩⟩ := h <;> simp
theorem tks_plain : ∀ {xs : List PyData}, (∀ x ∈ xs, tkF x) → plainA xs = true ∧ PyData.depthAll xs ≤ 2
  | [], _ => by simp
  | x :: xs, h => by
    obtain ⟨a, b⟩ := tk_plain (h x (by simp))
    obtain ⟨c, d⟩ := tks_plain (xs := xs) fun y hy => h y (by simp [hy])
    simp [a, c]
    omega
theorem tokens_eq {s : Str} : EqOk (.list (tokensD s)) (.list (tokensD s)) ∧ PyData.eqv (.list (tokensD s)) (.list (tokensD s)) = true := by
  obtain ⟨a, b⟩ := tks_plain (xs := tokensD s) tokens_form
  have p : plainD (.list (tokensD s)) = true := by simpa using a
  refine ⟨⟨p, p, ?_⟩, eqv_self _ p⟩
  have : (PyData.list (tokensD s)).depth ≤ 100 := by simp; omega
  omega
/-- a comprehension whose test keeps nothing, over a live list -/
theorem comp_none {src : Option (Nat × List Val)} {step : Val → Tab → (Option Val → Tab → Prop) → Prop} {T : Tab} {k : List Val → Tab → Prop} (hst : still T src) : ∀ {xs acc : List Val}, (∀ x ∈ xs, ∀ k' : Option Val → Tab → Prop, k' none T → step x T k') → k acc T → compW src step xs acc T k
  | [], acc, _, q => ⟨hst, q⟩
  | x :: xs, acc, hs, q => ⟨hst, hs x (by simp) _ (comp_none hst (fun y hy => hs y (by simp [hy])) q)⟩
/-- a loop that goes over a live list -/
theorem loop_live {src : Option (Nat × List Val)} {step : Val → DS} {D : DEnds} {T : Tab} {J : Slots → Prop} (hst : still T src) : ∀ {xs : List Val} {sl : Slots}, (∀ x ∈ xs, ∀ (sl : Slots) (D' : DEnds), J sl → (∀ sl, J sl → D'.nx sl T) → step x D' sl T) → J sl → (∀ sl, J sl → D.nx sl T) → loopW src step xs D sl T
  | [], sl, _, j, q => ⟨hst, q _ j⟩
  | x :: xs, sl, hs, j, q => ⟨hst, hs x (by simp) _ _ j fun sl j => loop_live hst (fun y hy => hs y (by simp [hy])) j q⟩
theorem call_bad {T : Tab} {Q : VC} {X : XC} (q : Q (.d (.bool true)) T) : callW dspBad [.ex bad11, .d (.int 1), .d (.int 1)] T Q X := by
  refine .inl ?_
  unfold callF
  refine ⟨rfl, rfl, rfl, Nat.zero_le _, rfl, ?_⟩
  simpa [backV, putT, obsOf] using q
def dspLaw : DSp := fun vs T Q _ => ∃ ns : List Int, vs = [.scr ns] ∧ T = [] ∧ ns.length ≤ 63 ∧ Q (.d (.bool true)) []
theorem raw_law {Γ : DL.Env} (c0 : Γ.calls 0 = dspB) (c1 : Γ.calls 1 = drawD 2000 txPre txPost) (c2 : Γ.calls 2 = detL fTok) (c3 : Γ.calls 3 = detX fTx) (c4 : Γ.calls 4 = spPick) (c5 : Γ.calls 5 = dspBad) (s1 : Γ.sub "BadText" "ClockError" = some true) :
    ∀ vs T Q X, dspLaw vs T Q X → rawD Γ tm_law 12 vs T (cutW T.length Q) (cutX T.length X) := by
  rintro vs T Q X ⟨ns, rfl, rfl, hn, h⟩
  unfold rawD tm_law
  refine step fun R1 hR1 => ?_
  simp [wpS, wpE, wpEs, c0]
  refine .inr ⟨ns, rfl, rfl, hn, ?_⟩
  refine hR1 _ _ (step fun R2 hR2 => ?_)
  simp [wpS, wpI, wpE, wpEs]
  obtain ⟨k, hk, hk3⟩ : ∃ k : Nat, (1 + if (2 : Int) < ns.length then 2 else (ns.length : Int)) = k ∧ k ≤ 3 := ⟨(1 + if (2 : Int) < ns.length then 2 else (ns.length : Int)).toNat, by split <;> omega, by split <;> omega⟩
  rw [hk]
  refine ⟨by omega, ?_⟩
  refine loop_inv (I := fun xs sl T => ∃ (v2 v3 v4 v5 v6 v7 v8 v9 v10 : Option Val) (n : Nat) (R : Tab), sl = [some (.scr ns), some (.ob 0), v2, v3, v4, v5, v6, v7, v8, v9, v10, none] ∧ T = .law n :: R ∧ 1000000 * (xs.length + 1) ≤ n ∧ xs.length ≤ 3) ?_ ?_ ?_
  · rintro x r sl T nx ⟨a2, a3, a4, a5, a6, a7, a8, a9, a10, n, R, rfl, rfl, h1, h2⟩ hnx
    simp at h1 h2
    unfold tm_law_b2
    refine step fun R3 hR3 => ?_
    simp [wpS, wpE, wpEs, c1]
    refine call_draw (n := n - 2000) (ds := []) (by omega) rfl fun t n2 ht hn2 => ?_
    obtain ⟨s, rfl, hs⟩ := ht
    refine hR3 _ _ (step fun R4 hR4 => ?_)
    have prm0 : ∀ ws : List Val, prm [] ws = ws := fun _ => rfl
    simp [wpS, wpE, wpEs, c2, c3, hs, prm0]
    refine call_L (f := fTok) (ds := [.str s]) (r := tokensD s) (by simp [hs]) ?_
    refine hR4 _ _ (step fun R5 hR5 => ?_)
    obtain ⟨q1, q2⟩ := tokens_eq (s := s)
    have hfm := tokens_form (s := s)
    have hty : ∀ m xs, tyName (.law m :: (R ++ [.lst xs])) (.ob (R.length + 1)) = some "list" := by
      intro m xs
      simp [tyName, getT, t_app]
    simp [wpS, wpE, wpEs, wpSs, wpI, wpO, t_app, asD, q1, q2, hty]
    refine comp_none ?_ ?_ ?_
    · simp [still, getT, t_app]
    · intro x hx k' hk'
      have hx : ∃ y ∈ tokensD s, x = .d y := by
        rw [dv_map] at hx
        obtain ⟨y, hy, rfl⟩ := List.mem_map.mp hx
        exact ⟨y, hy, rfl⟩
      obtain ⟨y, hy, rfl⟩ := hx
      obtain ⟨a, b, c, s', rfl, hc⟩ := hfm y hy
      simp [setS, tyName, isTy]
      exact hk'
    · simp [dats]
      refine hR5 _ _ (step fun R6 hR6 => ?_)
      simp [wpS, wpE, wpEs, wpSs, wpI, t_app]
      refine loop_live (J := fun sl => ∃ w6 w7 w8 w9, sl = [some (.scr ns), some (.ob 0), some x, some (.d (.str s)), some (.d (.list (tokensD s))), some (.ob (R.length + 1)), w6, w7, w8, w9, a10, none]) ?_ ?_ ⟨a6, a7, a8, a9, rfl⟩ ?_
      · simp [still, getT, t_app]
      · rintro y hy sl D' ⟨w6, w7, w8, w9, rfl⟩ hD
        have hy : ∃ z ∈ tokensD s, y = .d z := by
          rw [dv_map] at hy
          obtain ⟨z, hz, rfl⟩ := List.mem_map.mp hy
          exact ⟨z, hz, rfl⟩
        obtain ⟨z, hz, rfl⟩ := hy
        obtain ⟨a, b, c, s', rfl, hc⟩ := hfm z hz
        unfold tm_law_b1
        rcases hc with rfl | ⟨i, rfl⟩ <;> simp [wpS, wpSs, wpE, tyName, isTy] <;> exact hD _ ⟨_, _, _, _, rfl⟩
      · rintro sl ⟨w6, w7, w8, w9, rfl⟩
        refine hR6 _ _ (step fun R7 hR7 => ?_)
        simp [wpS, wpE, wpEs, t_app, s_app, setT]
        refine hR7 _ _ (step fun R8 hR8 => ?_)
        simp [wpS, wpE, wpEs, c2]
        refine call_L (f := fTok) (ds := [.str s]) (r := tokensD s) (by simp [hs]) ?_
        have had : ∀ (m : Nat) (a : Ob), asD (.law m :: (R ++ [a, .lst (dv (tokensD s))])) (.ob (R.length + 1 + 1)) = some (.list (tokensD s)) := by
          intro m a
          simp [asD, List.getElem?_append_right]
        simp [had, q1, q2, wpSs]
        refine hR8 _ _ (step fun R9 hR9 => ?_)
        generalize hR0 : (R ++ [Ob.lst [], Ob.lst (dv (tokensD s))]) = R0
        simp [wpS, wpE, wpEs, c4]
        refine call_pick (n := n2 - 1) (by omega) (by simp) (by simp) fun bad n3 hr hn3 => ?_
        have hb : fTok [bad] = some (.error bad11) := by
          simp at hr
          rcases hr with rfl | rfl | rfl | rfl | rfl | rfl | rfl <;> rfl
        refine hR9 _ _ (step fun R10 hR10 => ?_)
        simp [wpS, wpE, wpEs, c2, c5]
        refine call_LX (f := fTok) (ds := [bad]) (x := bad11) hb ?_
        refine ⟨s1, ?_⟩
        refine call_bad ?_
        simp [wpSs]
        refine hR10 _ _ ?_
        simp only [wpSs]
        exact hnx _ _ ⟨_, _, _, _, _, _, _, _, _, n3, R0, rfl, rfl, by omega, by omega⟩
  · rintro sl T ⟨a2, a3, a4, a5, a6, a7, a8, a9, a10, n, R, rfl, rfl, h1, h2⟩
    refine hR2 _ _ ?_
    simp [wpSs, wpS, wpE, wpEs]
    exact cut_0 h
  · refine ⟨none, none, none, none, none, none, none, none, none, 1000000000000, [], rfl, rfl, ?_, ?_⟩
    · simp [rangeL_len]; omega
    · simp [rangeL_len]; omega
end DL.LW
namespace DL.LW
open PySem PySem.Spec PyProof.Rows L2 DL
def fnL : List He.DefD := [⟨("line_tokens", none), "line_tokens", "line_tokens", defArgs (top 9), defBody (top 9), defScope (top 9), [], []⟩,
 ⟨("tokens_of", none), "tokens_of", "tokens_of", defArgs (top 10), defBody (top 10), defScope (top 10), [], []⟩,
 ⟨("_law_begun", none), "_law_begun", "_law_begun", defArgs (top 12), defBody (top 12), defScope (top 12), [], []⟩,
 ⟨("_law_mixed", none), "_law_mixed", "_law_mixed", defArgs (top 13), defBody (top 13), defScope (top 13), [], []⟩,
 ⟨("_law_draw", none), "_law_draw", "_law_draw", defArgs (top 14), defBody (top 14), defScope (top 14), [], []⟩,
 ⟨("_law_pick", none), "_law_pick", "_law_pick", defArgs (top 15), defBody (top 15), defScope (top 15), [], []⟩,
 ⟨("_law_caught", none), "_law_caught", "_law_caught", defArgs (top 16), defBody (top 16), defScope (top 16), [], []⟩,
 ⟨("_law_tx_words", none), "_law_tx_words", "_law_tx_words", defArgs (top 17), defBody (top 17), defScope (top 17), [], []⟩,
 ⟨("_law_tx_name", none), "_law_tx_name", "_law_tx_name", defArgs (top 18), defBody (top 18), defScope (top 18), [], []⟩,
 ⟨("_law_tx_tokens", none), "_law_tx_tokens", "_law_tx_tokens", defArgs (top 19), defBody (top 19), defScope (top 19), [], []⟩,
 ⟨("_law_tx_bad", none), "_law_tx_bad", "_law_tx_bad", defArgs (top 20), defBody (top 20), defScope (top 20), [], []⟩,
 ⟨("_law_new_text", none), "_law_new_text", "_law_new_text", defArgs (top 21), defBody (top 21), defScope (top 21), [], []⟩,
 ⟨("law", none), "law", "law", defArgs (top 22), defBody (top 22), defScope (top 22), [], []⟩]
def faL : List He.Fa := [.glo "line_tokens", .glo "tokens_of", .glo "_law_begun", .glo "_law_mixed", .glo "_law_draw", .glo "_law_pick", .glo "_law_caught", .glo "_law_tx_words", .glo "_law_tx_name", .glo "_law_tx_tokens", .glo "_law_tx_bad", .glo "_law_new_text", .glo "law", .free "len", .free "isinstance", .free "str", .free "enumerate", .free "abs", .free "int", .free "range", .free "min", .free "tuple", .free "list", .free "bool", .glo "ClockError", .glo "BadText"]
def cst_SIGNS_OF_WORDS : PyData := .str "abcdefghijklmnopqrstuvwxyzABCDEFGHIJKLMNOPQRSTUVWXYZ0123456789_"
def cst_END_OF_LINE : PyData := .str "\n"
def cst_END_OF_TEXT : PyData := .str ""
def cstL : List (Str × PyData) := [("SIGNS_OF_WORDS", cst_SIGNS_OF_WORDS), ("END_OF_LINE", cst_END_OF_LINE), ("END_OF_TEXT", cst_END_OF_TEXT)]
def subL : Subs := [("BadText", "ClockError", true), ("BadText", "BadText", true)]
def clsL : List Str := ["BadText"]
def tfL : List He.Defn := [("law", none)]
def tbL (K : PySem.W.Frag) : List (Addr × Str) := [((He.cT K ("law", none)).2, "law.<locals>.<lambda>")]
def fldL : List (Str × Str) := [("BadText", "column"), ("BadText", "line")]
def iniL : List IniD := [⟨"BadText", "BadText.__init__", defArgs (clsDef (top 2)), defBody (clsDef (top 2)), defScope (clsDef (top 2)), ["line", "column"]⟩]
def exL (K : PySem.W.Frag) : Bool := cstL.all (globB K) && (subL.all (subB K) && (clsL.all (fun c => baseB K (He.ga K c)) && (decide (tbOf K = tbL K) && (decide ((tbL K).map (·.1)).Nodup && (fldL.all (fldB K) && iniL.all (iniB (PySem.Challenge.rw_labelclocks_k02_tokens_of_texts).prog K))))))
abbrev R : PySem.W.OpenRow := PySem.W.OpenLaw.row PySem.Challenge.rw_labelclocks_k02_tokens_of_texts
abbrev hk : PySem.W.Hook := hookY 4 faL fnL tfL exL iniL
def ob (s : PySem.W.SharedT) : AlY := obsY 4 faL fnL tfL exL iniL (HandSHeadRun.getT s)
theorem ob_eq (s : PySem.W.SharedT) : ob s = hk.obs s.abs := obsY_eq (HandSHeadRun.getT_eq s)
def nms0 : List Str := ["ClockError", "BadText", "LETTERS", "DIGITS", "SIGNS_OF_WORDS", "END_OF_LINE", "END_OF_TEXT", "line_tokens", "tokens_of", "_law_begun", "_law_mixed", "_law_draw", "_law_pick", "_law_caught", "_law_tx_words", "_law_tx_name", "_law_tx_tokens", "_law_tx_bad", "_law_new_text"]
def nms : List Str := nms0
def lawIx : Nat := 22
theorem run (w : World) : HandSHeadRun.RunEq R (PySem.W.view R.prog [22]) hk ob 4000 nms w := by
  intro os
  kernel_rfl
section
variable {w : World} {h base : Heap} {K : PySem.W.Frag} {mg : Str → Option Value}
structure Hd (w : World) (h base : Heap) (K : PySem.W.Frag) (mg : Str → Option Value) : Prop where
  X : K.In base
  G : base.Ns mainGlobals mg
  c : He.SaysX faL fnL [] tfL exL w h K
  i : iniL.map (iniW K) = iniL.map IniD.val
theorem Hd.ex (H : Hd w h base K mg) : cstL.all (globB K) = true ∧ subL.all (subB K) = true ∧ clsL.all (fun c => baseB K (He.ga K c)) = true ∧ tbOf K = tbL K ∧ ((tbL K).map (·.1)).Nodup ∧ fldL.all (fldB K) = true ∧ iniL.all (iniB (PySem.Challenge.rw_labelclocks_k02_tokens_of_texts).prog K) = true := by
  have := H.c.more
  unfold exL at this
  simp only [Bool.and_eq_true, decide_eq_true_eq] at this
  exact this
theorem Hd.fact (H : Hd w h base K mg) (i : Nat) {f : He.Fa} (e : faL[i]? = some f := by rfl) : f.ok K = true := H.c.t.d.fact i e
theorem Hd.fr_len (H : Hd w h base K mg) : mg "len" = none := He.free_ok H.X H.G (H.fact 13)
theorem Hd.fr_isinstance (H : Hd w h base K mg) : mg "isinstance" = none := He.free_ok H.X H.G (H.fact 14)
theorem Hd.fr_str (H : Hd w h base K mg) : mg "str" = none := He.free_ok H.X H.G (H.fact 15)
theorem Hd.fr_enumerate (H : Hd w h base K mg) : mg "enumerate" = none := He.free_ok H.X H.G (H.fact 16)
theorem Hd.fr_abs (H : Hd w h base K mg) : mg "abs" = none := He.free_ok H.X H.G (H.fact 17)
theorem Hd.fr_int (H : Hd w h base K mg) : mg "int" = none := He.free_ok H.X H.G (H.fact 18)
theorem Hd.fr_range (H : Hd w h base K mg) : mg "range" = none := He.free_ok H.X H.G (H.fact 19)
theorem Hd.fr_min (H : Hd w h base K mg) : mg "min" = none := He.free_ok H.X H.G (H.fact 20)
theorem Hd.fr_tuple (H : Hd w h base K mg) : mg "tuple" = none := He.free_ok H.X H.G (H.fact 21)
theorem Hd.fr_list (H : Hd w h base K mg) : mg "list" = none := He.free_ok H.X H.G (H.fact 22)
theorem Hd.fr_bool (H : Hd w h base K mg) : mg "bool" = none := He.free_ok H.X H.G (H.fact 23)
theorem Hd.cl_ClockError (H : Hd w h base K mg) : mg "ClockError" = some (.ref (He.ga K "ClockError")) := He.glo_ok H.X H.G (H.fact 24)
theorem Hd.cl_BadText (H : Hd w h base K mg) : mg "BadText" = some (.ref (He.ga K "BadText")) := He.glo_ok H.X H.G (H.fact 25)
theorem Hd.gl_SIGNS_OF_WORDS (H : Hd w h base K mg) : GlobOk K mg "SIGNS_OF_WORDS" cst_SIGNS_OF_WORDS := globB_ok (p := ("SIGNS_OF_WORDS", cst_SIGNS_OF_WORDS)) H.X H.G (List.all_eq_true.mp H.ex.1 _ (List.mem_of_getElem? (i := 0) rfl))
theorem Hd.gl_END_OF_LINE (H : Hd w h base K mg) : GlobOk K mg "END_OF_LINE" cst_END_OF_LINE := globB_ok (p := ("END_OF_LINE", cst_END_OF_LINE)) H.X H.G (List.all_eq_true.mp H.ex.1 _ (List.mem_of_getElem? (i := 1) rfl))
theorem Hd.gl_END_OF_TEXT (H : Hd w h base K mg) : GlobOk K mg "END_OF_TEXT" cst_END_OF_TEXT := globB_ok (p := ("END_OF_TEXT", cst_END_OF_TEXT)) H.X H.G (List.all_eq_true.mp H.ex.1 _ (List.mem_of_getElem? (i := 2) rfl))
theorem Hd.sb_BadText (H : Hd w h base K mg) : SubOk K (subOf subL) "BadText" ∧ mg "BadText" = some (.ref (He.ga K "BadText")) := ⟨subs_ok H.ex.2.1 (List.all_eq_true.mp H.ex.2.2.1 _ (List.mem_of_getElem? (i := 0) rfl)), H.cl_BadText⟩
theorem Hd.cs (H : Hd w h base K mg) (c : Str) : ∀ y, subOf subL y c = some true → PySem.W.exmOne K (.ref (He.ga K y)) (.ref (He.ga K c)) = some true := csub_ok H.ex.2.1
theorem Hd.fn_line_tokens (H : Hd w h base K mg) : ∃ fd, FunD K "line_tokens" "line_tokens" (defArgs (top 9)) (defBody (top 9)) (defScope (top 9)) [] [] (He.ga K "line_tokens") fd := H.c.t.d.def_ 0
theorem Hd.nm_line_tokens (H : Hd w h base K mg) : mg "line_tokens" = some (.ref (He.ga K "line_tokens")) := He.glo_ok H.X H.G (H.fact 0)
theorem Hd.fn_tokens_of (H : Hd w h base K mg) : ∃ fd, FunD K "tokens_of" "tokens_of" (defArgs (top 10)) (defBody (top 10)) (defScope (top 10)) [] [] (He.ga K "tokens_of") fd := H.c.t.d.def_ 1
theorem Hd.nm_tokens_of (H : Hd w h base K mg) : mg "tokens_of" = some (.ref (He.ga K "tokens_of")) := He.glo_ok H.X H.G (H.fact 1)
theorem Hd.fn__law_begun (H : Hd w h base K mg) : ∃ fd, FunD K "_law_begun" "_law_begun" (defArgs (top 12)) (defBody (top 12)) (defScope (top 12)) [] [] (He.ga K "_law_begun") fd := H.c.t.d.def_ 2
theorem Hd.nm__law_begun (H : Hd w h base K mg) : mg "_law_begun" = some (.ref (He.ga K "_law_begun")) := He.glo_ok H.X H.G (H.fact 2)
theorem Hd.fn__law_mixed (H : Hd w h base K mg) : ∃ fd, FunD K "_law_mixed" "_law_mixed" (defArgs (top 13)) (defBody (top 13)) (defScope (top 13)) [] [] (He.ga K "_law_mixed") fd := H.c.t.d.def_ 3
theorem Hd.nm__law_mixed (H : Hd w h base K mg) : mg "_law_mixed" = some (.ref (He.ga K "_law_mixed")) := He.glo_ok H.X H.G (H.fact 3)
theorem Hd.fn__law_draw (H : Hd w h base K mg) : ∃ fd, FunD K "_law_draw" "_law_draw" (defArgs (top 14)) (defBody (top 14)) (defScope (top 14)) [] [] (He.ga K "_law_draw") fd := H.c.t.d.def_ 4
theorem Hd.nm__law_draw (H : Hd w h base K mg) : mg "_law_draw" = some (.ref (He.ga K "_law_draw")) := He.glo_ok H.X H.G (H.fact 4)
theorem Hd.fn__law_pick (H : Hd w h base K mg) : ∃ fd, FunD K "_law_pick" "_law_pick" (defArgs (top 15)) (defBody (top 15)) (defScope (top 15)) [] [] (He.ga K "_law_pick") fd := H.c.t.d.def_ 5
theorem Hd.nm__law_pick (H : Hd w h base K mg) : mg "_law_pick" = some (.ref (He.ga K "_law_pick")) := He.glo_ok H.X H.G (H.fact 5)
theorem Hd.fn__law_caught (H : Hd w h base K mg) : ∃ fd, FunD K "_law_caught" "_law_caught" (defArgs (top 16)) (defBody (top 16)) (defScope (top 16)) [] [] (He.ga K "_law_caught") fd := H.c.t.d.def_ 6
theorem Hd.nm__law_caught (H : Hd w h base K mg) : mg "_law_caught" = some (.ref (He.ga K "_law_caught")) := He.glo_ok H.X H.G (H.fact 6)
theorem Hd.fn__law_tx_words (H : Hd w h base K mg) : ∃ fd, FunD K "_law_tx_words" "_law_tx_words" (defArgs (top 17)) (defBody (top 17)) (defScope (top 17)) [] [] (He.ga K "_law_tx_words") fd := H.c.t.d.def_ 7
theorem Hd.nm__law_tx_words (H : Hd w h base K mg) : mg "_law_tx_words" = some (.ref (He.ga K "_law_tx_words")) := He.glo_ok H.X H.G (H.fact 7)
theorem Hd.fn__law_tx_name (H : Hd w h base K mg) : ∃ fd, FunD K "_law_tx_name" "_law_tx_name" (defArgs (top 18)) (defBody (top 18)) (defScope (top 18)) [] [] (He.ga K "_law_tx_name") fd := H.c.t.d.def_ 8
theorem Hd.nm__law_tx_name (H : Hd w h base K mg) : mg "_law_tx_name" = some (.ref (He.ga K "_law_tx_name")) := He.glo_ok H.X H.G (H.fact 8)
theorem Hd.fn__law_tx_tokens (H : Hd w h base K mg) : ∃ fd, FunD K "_law_tx_tokens" "_law_tx_tokens" (defArgs (top 19)) (defBody (top 19)) (defScope (top 19)) [] [] (He.ga K "_law_tx_tokens") fd := H.c.t.d.def_ 9
theorem Hd.nm__law_tx_tokens (H : Hd w h base K mg) : mg "_law_tx_tokens" = some (.ref (He.ga K "_law_tx_tokens")) := He.glo_ok H.X H.G (H.fact 9)
theorem Hd.fn__law_tx_bad (H : Hd w h base K mg) : ∃ fd, FunD K "_law_tx_bad" "_law_tx_bad" (defArgs (top 20)) (defBody (top 20)) (defScope (top 20)) [] [] (He.ga K "_law_tx_bad") fd := H.c.t.d.def_ 10
theorem Hd.nm__law_tx_bad (H : Hd w h base K mg) : mg "_law_tx_bad" = some (.ref (He.ga K "_law_tx_bad")) := He.glo_ok H.X H.G (H.fact 10)
theorem Hd.fn__law_new_text (H : Hd w h base K mg) : ∃ fd, FunD K "_law_new_text" "_law_new_text" (defArgs (top 21)) (defBody (top 21)) (defScope (top 21)) [] [] (He.ga K "_law_new_text") fd := H.c.t.d.def_ 11
theorem Hd.nm__law_new_text (H : Hd w h base K mg) : mg "_law_new_text" = some (.ref (He.ga K "_law_new_text")) := He.glo_ok H.X H.G (H.fact 11)
theorem Hd.fn_law (H : Hd w h base K mg) : ∃ fd, FunD K "law" "law" (defArgs (top 22)) (defBody (top 22)) (defScope (top 22)) [] [] (He.ga K "law") fd := H.c.t.d.def_ 12
theorem Hd.nm_law (H : Hd w h base K mg) : mg "law" = some (.ref (He.ga K "law")) := He.glo_ok H.X H.G (H.fact 12)
theorem Hd.ct_law (H : Hd w h base K mg) {P : Program} (hT : ∀ p ∈ tfL.map (He.cT K), LamX.TabB base mg p.1 p.2) (lv : Nat) (N : List Str) : CatchH P w K mg base "law" "_law_caught" "ClockError" lv N := by
  intro scope cdv h1 h2 A outer s Hh E hr
  obtain ⟨fd, F⟩ := H.fn__law_caught
  obtain ⟨oc, od, osl, fd', lk, hcd⟩ := h1
  obtain ⟨c, hc⟩ := He.codeIn_ref h2
  have hco : He.codeOf K ("law", none) = c := He.codeOf_eq (K := K) (p := ("law", none)) lk (hcd.trans hc)
  have hmem : (He.cT K ("law", none)) ∈ tfL.map (He.cT K) := List.mem_map.mpr ⟨_, by simp [tfL], rfl⟩
  have TB := hT _ hmem
  have e1 : (He.cT K ("law", none)).1 = c := hco
  rw [e1] at TB
  have ex := H.ex.2.2.2
  have hq : (((("law" : Str) ++ ".<locals>.") ++ "<lambda>" : Str)) = ("law.<locals>.<lambda>" : Str) := by decide +kernel
  have hm : ((He.cT K ("law", none)).2, (((("law" : Str) ++ ".<locals>.") ++ "<lambda>" : Str))) ∈ tbOf K := by rw [ex.1, hq]; simp [tbL]
  have fb : Binds K fd ["_law_action"] [] := F.bindsN fun _ _ _ _ _ _ us hl => match us, hl with | [_], _ => rfl
  exact catch_of (a := "_law_action") (y := "_law_found") (n := "error") F H.nm__law_caught fb ⟨rfl, rfl, rfl, by decide +kernel, rfl, by decide +kernel, by decide +kernel⟩ rfl H.cl_ClockError rfl rfl rfl rfl rfl rfl rfl rfl rfl rfl TB hc hm
    (fun p hp e => congrArg Prod.snd (fst_eq (l := tbOf K) (by rw [ex.1]; exact ex.2.1) hp hm e)) hr
theorem iniT_BadText : IniT (PySem.Challenge.rw_labelclocks_k02_tokens_of_texts).prog ⟨"BadText", "BadText.__init__", defArgs (clsDef (top 2)), defBody (clsDef (top 2)), defScope (clsDef (top 2)), ["line", "column"]⟩ :=
  ⟨rfl, rfl, rfl, by decide +kernel, by decide +kernel, rfl, rfl, free_by (by decide +kernel), ⟨_, rfl, rfl⟩, ⟨_, _, _, _, _, _, _, _, _, rfl, rfl, (.cons ⟨_, _, _, _, rfl⟩ (.cons ⟨_, _, _, _, rfl⟩ .nil))⟩, fun _ _ _ _ _ _ _ us hl => match us, hl with | [_, _, _], _ => rfl, by decide +kernel, by decide +kernel, by decide, by decide, by rfl⟩
theorem Hd.ini_BadText (H : Hd w h base K mg) : IniAt (PySem.Challenge.rw_labelclocks_k02_tokens_of_texts).prog K "BadText" ["line", "column"] := by
  refine ini_at iniT_BadText ?_ (List.all_eq_true.mp H.ex.2.2.2.2.2.2 _ (List.mem_of_getElem? (i := 0) rfl))
  have e : (iniL.map (iniW K))[0]? = (iniL.map IniD.val)[0]? := by rw [H.i]
  rw [List.getElem?_map, List.getElem?_map] at e
  exact Option.some.inj e
theorem Hd.xf_BadText (H : Hd w h base K mg) : mg "BadText" = some (.ref (He.ga K "BadText")) ∧ PySem.W.subIn K (.ref (He.ga K "BadText")) (.type "BaseException") = some true ∧ IniAt (PySem.Challenge.rw_labelclocks_k02_tokens_of_texts).prog K "BadText" ["line", "column"] := by
  have I := H.ini_BadText
  obtain ⟨_, _, I2⟩ := id I
  exact ⟨H.cl_BadText, I2.oex.exC, I⟩
theorem Hd.fd_BadText_column (H : Hd w h base K mg) : FldOk K "BadText" "column" := fldB_ok (p := ("BadText", "column")) (List.all_eq_true.mp H.ex.2.2.2.2.2.1 _ (List.mem_of_getElem? (i := 0) rfl))
theorem Hd.fd_BadText_line (H : Hd w h base K mg) : FldOk K "BadText" "line" := fldB_ok (p := ("BadText", "line")) (List.all_eq_true.mp H.ex.2.2.2.2.2.1 _ (List.mem_of_getElem? (i := 1) rfl))
theorem Hd.t_line_tokens (H : Hd w h base K mg) : ∃ fd, (∀ lv, DefT K mg (C_line_tokens lv) "line_tokens" ["line"] tm_line_tokens (He.ga K "line_tokens") fd) := by
  obtain ⟨fd, F⟩ := H.fn_line_tokens
  exact ⟨fd, fun lv => ⟨H.nm_line_tokens, ⟨_, _, _, F, sc_line_tokens, rfl, ck_line_tokens lv, Nat.le_of_ble_eq_true rfl⟩, F.bindsN fun _ _ _ _ _ _ us hl => match us, hl with | [_], _ => rfl, F.kp⟩⟩
theorem Hd.t_tokens_of (H : Hd w h base K mg) : ∃ fd, (∀ lv, DefT K mg (C_tokens_of lv) "tokens_of" ["text"] tm_tokens_of (He.ga K "tokens_of") fd) ∧ KB K fd ["text"] 0 ["text"] [] := by
  obtain ⟨fd, F⟩ := H.fn_tokens_of
  exact ⟨fd, fun lv => ⟨H.nm_tokens_of, ⟨_, _, _, F, sc_tokens_of, rfl, ck_tokens_of lv, Nat.le_of_ble_eq_true rfl⟩, F.bindsN fun _ _ _ _ _ _ us hl => match us, hl with | [_], _ => rfl, F.kp⟩, kb_of F (.inl rfl) fun kV doc pmx an cdv ct us ws h1 h2 => match us, ws, h1, h2 with | [], [_], _, _ => rfl⟩
theorem Hd.t__law_begun (H : Hd w h base K mg) : ∃ fd, (∀ lv, DefT K mg (C__law_begun lv) "_law_begun" ["_law_script"] tm__law_begun (He.ga K "_law_begun") fd) := by
  obtain ⟨fd, F⟩ := H.fn__law_begun
  exact ⟨fd, fun lv => ⟨H.nm__law_begun, ⟨_, _, _, F, sc__law_begun, rfl, ck__law_begun lv, Nat.le_of_ble_eq_true rfl⟩, F.bindsN fun _ _ _ _ _ _ us hl => match us, hl with | [_], _ => rfl, F.kp⟩⟩
theorem Hd.t__law_mixed (H : Hd w h base K mg) : ∃ fd, (∀ lv, DefT K mg (C__law_mixed lv) "_law_mixed" ["_law_state"] tm__law_mixed (He.ga K "_law_mixed") fd) := by
  obtain ⟨fd, F⟩ := H.fn__law_mixed
  exact ⟨fd, fun lv => ⟨H.nm__law_mixed, ⟨_, _, _, F, sc__law_mixed, rfl, ck__law_mixed lv, Nat.le_of_ble_eq_true rfl⟩, F.bindsN fun _ _ _ _ _ _ us hl => match us, hl with | [_], _ => rfl, F.kp⟩⟩
theorem Hd.t__law_draw (H : Hd w h base K mg) : ∃ fd, (∀ lv, DefT K mg (C__law_draw lv) "_law_draw" ["_law_state", "_law_room"] tm__law_draw (He.ga K "_law_draw") fd) := by
  obtain ⟨fd, F⟩ := H.fn__law_draw
  exact ⟨fd, fun lv => ⟨H.nm__law_draw, ⟨_, _, _, F, sc__law_draw, rfl, ck__law_draw lv, Nat.le_of_ble_eq_true rfl⟩, F.bindsN fun _ _ _ _ _ _ us hl => match us, hl with | [_, _], _ => rfl, F.kp⟩⟩
theorem Hd.t__law_pick (H : Hd w h base K mg) : ∃ fd, (∀ lv, DefT K mg (C__law_pick lv) "_law_pick" ["_law_state", "_law_some"] tm__law_pick (He.ga K "_law_pick") fd) := by
  obtain ⟨fd, F⟩ := H.fn__law_pick
  exact ⟨fd, fun lv => ⟨H.nm__law_pick, ⟨_, _, _, F, sc__law_pick, rfl, ck__law_pick lv, Nat.le_of_ble_eq_true rfl⟩, F.bindsN fun _ _ _ _ _ _ us hl => match us, hl with | [_, _], _ => rfl, F.kp⟩⟩
theorem Hd.t__law_tx_words (H : Hd w h base K mg) : ∃ fd, (∀ lv, DefT K mg (C__law_tx_words lv) "_law_tx_words" [] tm__law_tx_words (He.ga K "_law_tx_words") fd) := by
  obtain ⟨fd, F⟩ := H.fn__law_tx_words
  exact ⟨fd, fun lv => ⟨H.nm__law_tx_words, ⟨_, _, _, F, sc__law_tx_words, rfl, ck__law_tx_words lv, Nat.le_of_ble_eq_true rfl⟩, F.bindsN fun _ _ _ _ _ _ us hl => match us, hl with | [], _ => rfl, F.kp⟩⟩
theorem Hd.t__law_tx_name (H : Hd w h base K mg) : ∃ fd, (∀ lv, DefT K mg (C__law_tx_name lv) "_law_tx_name" ["_law_state", "_law_taken"] tm__law_tx_name (He.ga K "_law_tx_name") fd) := by
  obtain ⟨fd, F⟩ := H.fn__law_tx_name
  exact ⟨fd, fun lv => ⟨H.nm__law_tx_name, ⟨_, _, _, F, sc__law_tx_name, rfl, ck__law_tx_name lv, Nat.le_of_ble_eq_true rfl⟩, F.bindsN fun _ _ _ _ _ _ us hl => match us, hl with | [_, _], _ => rfl, F.kp⟩⟩
theorem Hd.t__law_tx_tokens (H : Hd w h base K mg) : ∃ fd, (∀ lv, DefT K mg (C__law_tx_tokens lv) "_law_tx_tokens" ["_law_text"] tm__law_tx_tokens (He.ga K "_law_tx_tokens") fd) := by
  obtain ⟨fd, F⟩ := H.fn__law_tx_tokens
  exact ⟨fd, fun lv => ⟨H.nm__law_tx_tokens, ⟨_, _, _, F, sc__law_tx_tokens, rfl, ck__law_tx_tokens lv, Nat.le_of_ble_eq_true rfl⟩, F.bindsN fun _ _ _ _ _ _ us hl => match us, hl with | [_], _ => rfl, F.kp⟩⟩
theorem Hd.t__law_tx_bad (H : Hd w h base K mg) : ∃ fd, (∀ lv, DefT K mg (C__law_tx_bad lv) "_law_tx_bad" ["_law_raised", "_law_line", "_law_column"] tm__law_tx_bad (He.ga K "_law_tx_bad") fd) := by
  obtain ⟨fd, F⟩ := H.fn__law_tx_bad
  exact ⟨fd, fun lv => ⟨H.nm__law_tx_bad, ⟨_, _, _, F, sc__law_tx_bad, rfl, ck__law_tx_bad lv, Nat.le_of_ble_eq_true rfl⟩, F.bindsN fun _ _ _ _ _ _ us hl => match us, hl with | [_, _, _], _ => rfl, F.kp⟩⟩
theorem Hd.t__law_new_text (H : Hd w h base K mg) : ∃ fd, (∀ lv, DefT K mg (C__law_new_text lv) "_law_new_text" ["_law_state"] tm__law_new_text (He.ga K "_law_new_text") fd) := by
  obtain ⟨fd, F⟩ := H.fn__law_new_text
  exact ⟨fd, fun lv => ⟨H.nm__law_new_text, ⟨_, _, _, F, sc__law_new_text, rfl, ck__law_new_text lv, Nat.le_of_ble_eq_true rfl⟩, F.bindsN fun _ _ _ _ _ _ us hl => match us, hl with | [_], _ => rfl, F.kp⟩⟩
theorem Hd.t_law (H : Hd w h base K mg) : ∃ fd, (∀ lv, DefT K mg (C_law lv) "law" ["_law_script"] tm_law (He.ga K "law") fd) := by
  obtain ⟨fd, F⟩ := H.fn_law
  exact ⟨fd, fun lv => ⟨H.nm_law, ⟨_, _, _, F, sc_law, rfl, ck_law lv, Nat.le_of_ble_eq_true rfl⟩, F.bindsN fun _ _ _ _ _ _ us hl => match us, hl with | [_], _ => rfl, F.kp⟩⟩
theorem Hd.dep_line_tokens (H : Hd w h base K mg) {P : Program} {lv : Nat} {ds : List DSp} (hf : DefL P w K mg base lv (C_line_tokens lv).fns ds) : Deps P w K mg base (envOf ds [cst_SIGNS_OF_WORDS] (subOf subL)) (C_line_tokens lv) :=
  mk_deps hf (fun p hp => by cases hp) (fun p hp => by cases hp) (AllL.all (F := fun x => mg x = none) (l := (C_line_tokens lv).free) ⟨H.fr_len, trivial⟩) (.cons H.gl_SIGNS_OF_WORDS .nil) (AllL.all (F := fun c => SubOk K (subOf subL) c ∧ mg c = some (.ref (He.ga K c))) (l := (C_line_tokens lv).clss) trivial) (H.cs _) (AllL.all (F := fun c => mg c = some (.ref (He.ga K c)) ∧ (He.Fa.exc c).ok K = true) (l := (C_line_tokens lv).excs) trivial)
theorem Hd.dep_tokens_of (H : Hd w h base K mg)  {lv : Nat} {ds : List DSp} (hf : DefL (PySem.Challenge.rw_labelclocks_k02_tokens_of_texts).prog w K mg base lv (C_tokens_of lv).fns ds) (h2 : 2 ≤ lv) : Deps (PySem.Challenge.rw_labelclocks_k02_tokens_of_texts).prog w K mg base (envOf ds [cst_END_OF_LINE, cst_END_OF_TEXT] (subOf subL)) (C_tokens_of lv) :=
  mk_deps hf (fun p hp => by cases hp) (fun p hp => by cases hp) (AllL.all (F := fun x => mg x = none) (l := (C_tokens_of lv).free) ⟨H.fr_isinstance, H.fr_str, H.fr_enumerate, H.fr_len, trivial⟩) (.cons H.gl_END_OF_LINE (.cons H.gl_END_OF_TEXT .nil)) (AllL.all (F := fun c => SubOk K (subOf subL) c ∧ mg c = some (.ref (He.ga K c))) (l := (C_tokens_of lv).clss) trivial) (H.cs _) (AllL.all (F := fun c => mg c = some (.ref (He.ga K c)) ∧ (He.Fa.exc c).ok K = true) (l := (C_tokens_of lv).excs) trivial) (AllL.all (F := fun p => 2 ≤ (C_tokens_of lv).lv ∧ mg p.1 = some (.ref (He.ga K p.1)) ∧ PySem.W.subIn K (.ref (He.ga K p.1)) (.type "BaseException") = some true ∧ IniAt (PySem.Challenge.rw_labelclocks_k02_tokens_of_texts).prog K p.1 p.2) (l := (C_tokens_of lv).xfs) ⟨⟨h2, H.xf_BadText⟩, trivial⟩)
theorem Hd.dep__law_begun (H : Hd w h base K mg) {P : Program} {lv : Nat} {ds : List DSp} (hf : DefL P w K mg base lv (C__law_begun lv).fns ds) : Deps P w K mg base (envOf ds [] (subOf subL)) (C__law_begun lv) :=
  mk_deps hf (fun p hp => by cases hp) (fun p hp => by cases hp) (AllL.all (F := fun x => mg x = none) (l := (C__law_begun lv).free) ⟨H.fr_abs, trivial⟩) .nil (AllL.all (F := fun c => SubOk K (subOf subL) c ∧ mg c = some (.ref (He.ga K c))) (l := (C__law_begun lv).clss) trivial) (H.cs _) (AllL.all (F := fun c => mg c = some (.ref (He.ga K c)) ∧ (He.Fa.exc c).ok K = true) (l := (C__law_begun lv).excs) trivial)
theorem Hd.dep__law_mixed (H : Hd w h base K mg) {P : Program} {lv : Nat} {ds : List DSp} (hf : DefL P w K mg base lv (C__law_mixed lv).fns ds) : Deps P w K mg base (envOf ds [] (subOf subL)) (C__law_mixed lv) :=
  mk_deps hf (fun p hp => by cases hp) (fun p hp => by cases hp) (AllL.all (F := fun x => mg x = none) (l := (C__law_mixed lv).free) ⟨H.fr_int, trivial⟩) .nil (AllL.all (F := fun c => SubOk K (subOf subL) c ∧ mg c = some (.ref (He.ga K c))) (l := (C__law_mixed lv).clss) trivial) (H.cs _) (AllL.all (F := fun c => mg c = some (.ref (He.ga K c)) ∧ (He.Fa.exc c).ok K = true) (l := (C__law_mixed lv).excs) trivial)
theorem Hd.dep__law_draw (H : Hd w h base K mg) {P : Program} {lv : Nat} {ds : List DSp} (hf : DefL P w K mg base lv (C__law_draw lv).fns ds) : Deps P w K mg base (envOf ds [] (subOf subL)) (C__law_draw lv) :=
  mk_deps hf (fun p hp => by cases hp) (fun p hp => by cases hp) (AllL.all (F := fun x => mg x = none) (l := (C__law_draw lv).free) ⟨H.fr_int, trivial⟩) .nil (AllL.all (F := fun c => SubOk K (subOf subL) c ∧ mg c = some (.ref (He.ga K c))) (l := (C__law_draw lv).clss) trivial) (H.cs _) (AllL.all (F := fun c => mg c = some (.ref (He.ga K c)) ∧ (He.Fa.exc c).ok K = true) (l := (C__law_draw lv).excs) trivial)
theorem Hd.dep__law_pick (H : Hd w h base K mg) {P : Program} {lv : Nat} {ds : List DSp} (hf : DefL P w K mg base lv (C__law_pick lv).fns ds) : Deps P w K mg base (envOf ds [] (subOf subL)) (C__law_pick lv) :=
  mk_deps hf (fun p hp => by cases hp) (fun p hp => by cases hp) (AllL.all (F := fun x => mg x = none) (l := (C__law_pick lv).free) ⟨H.fr_len, trivial⟩) .nil (AllL.all (F := fun c => SubOk K (subOf subL) c ∧ mg c = some (.ref (He.ga K c))) (l := (C__law_pick lv).clss) trivial) (H.cs _) (AllL.all (F := fun c => mg c = some (.ref (He.ga K c)) ∧ (He.Fa.exc c).ok K = true) (l := (C__law_pick lv).excs) trivial)
theorem Hd.dep__law_tx_words (H : Hd w h base K mg) {P : Program} {lv : Nat} {ds : List DSp} (hf : DefL P w K mg base lv (C__law_tx_words lv).fns ds) : Deps P w K mg base (envOf ds [] (subOf subL)) (C__law_tx_words lv) :=
  mk_deps hf (fun p hp => by cases hp) (fun p hp => by cases hp) (AllL.all (F := fun x => mg x = none) (l := (C__law_tx_words lv).free) trivial) .nil (AllL.all (F := fun c => SubOk K (subOf subL) c ∧ mg c = some (.ref (He.ga K c))) (l := (C__law_tx_words lv).clss) trivial) (H.cs _) (AllL.all (F := fun c => mg c = some (.ref (He.ga K c)) ∧ (He.Fa.exc c).ok K = true) (l := (C__law_tx_words lv).excs) trivial)
theorem Hd.dep__law_tx_name (H : Hd w h base K mg) {P : Program} {lv : Nat} {ds : List DSp} (hf : DefL P w K mg base lv (C__law_tx_name lv).fns ds) : Deps P w K mg base (envOf ds [] (subOf subL)) (C__law_tx_name lv) :=
  mk_deps hf (fun p hp => by cases hp) (fun p hp => by cases hp) (AllL.all (F := fun x => mg x = none) (l := (C__law_tx_name lv).free) ⟨H.fr_range, H.fr_str, trivial⟩) .nil (AllL.all (F := fun c => SubOk K (subOf subL) c ∧ mg c = some (.ref (He.ga K c))) (l := (C__law_tx_name lv).clss) trivial) (H.cs _) (AllL.all (F := fun c => mg c = some (.ref (He.ga K c)) ∧ (He.Fa.exc c).ok K = true) (l := (C__law_tx_name lv).excs) trivial)
theorem Hd.dep__law_tx_tokens (H : Hd w h base K mg) {P : Program} {lv : Nat} {ds : List DSp} (hf : DefL P w K mg base lv (C__law_tx_tokens lv).fns ds) : Deps P w K mg base (envOf ds [] (subOf subL)) (C__law_tx_tokens lv) :=
  mk_deps hf (fun p hp => by cases hp) (fun p hp => by cases hp) (AllL.all (F := fun x => mg x = none) (l := (C__law_tx_tokens lv).free) ⟨H.fr_enumerate, H.fr_len, trivial⟩) .nil (AllL.all (F := fun c => SubOk K (subOf subL) c ∧ mg c = some (.ref (He.ga K c))) (l := (C__law_tx_tokens lv).clss) trivial) (H.cs _) (AllL.all (F := fun c => mg c = some (.ref (He.ga K c)) ∧ (He.Fa.exc c).ok K = true) (l := (C__law_tx_tokens lv).excs) trivial)
theorem Hd.dep__law_tx_bad (H : Hd w h base K mg) {P : Program} {lv : Nat} {ds : List DSp} (hf : DefL P w K mg base lv (C__law_tx_bad lv).fns ds) : Deps P w K mg base (envOf ds [] (subOf subL)) (C__law_tx_bad lv) :=
  mk_deps hf (fun p hp => by cases hp) (fun p hp => by cases hp) (AllL.all (F := fun x => mg x = none) (l := (C__law_tx_bad lv).free) ⟨H.fr_isinstance, trivial⟩) .nil (AllL.all (F := fun c => SubOk K (subOf subL) c ∧ mg c = some (.ref (He.ga K c))) (l := (C__law_tx_bad lv).clss) ⟨H.sb_BadText, trivial⟩) (H.cs _) (AllL.all (F := fun c => mg c = some (.ref (He.ga K c)) ∧ (He.Fa.exc c).ok K = true) (l := (C__law_tx_bad lv).excs) trivial) (hx := by intro p hp; cases hp) (hfl := (AllL.all (F := fun p => FldOk K p.1 p.2) (l := (C__law_tx_bad lv).flds) ⟨H.fd_BadText_column, H.fd_BadText_line, trivial⟩))
theorem Hd.dep__law_new_text (H : Hd w h base K mg) {P : Program} {lv : Nat} {ds : List DSp} (hf : DefL P w K mg base lv (C__law_new_text lv).fns ds) : Deps P w K mg base (envOf ds [] (subOf subL)) (C__law_new_text lv) :=
  mk_deps hf (fun p hp => by cases hp) (fun p hp => by cases hp) (AllL.all (F := fun x => mg x = none) (l := (C__law_new_text lv).free) ⟨H.fr_range, H.fr_len, trivial⟩) .nil (AllL.all (F := fun c => SubOk K (subOf subL) c ∧ mg c = some (.ref (He.ga K c))) (l := (C__law_new_text lv).clss) trivial) (H.cs _) (AllL.all (F := fun c => mg c = some (.ref (He.ga K c)) ∧ (He.Fa.exc c).ok K = true) (l := (C__law_new_text lv).excs) trivial)
theorem Hd.dep_law (H : Hd w h base K mg) {P : Program} {lv : Nat} {ds : List DSp} (hf : DefL P w K mg base lv (C_law lv).fns ds) (hk : KDefL P w K mg base lv ds (C_law lv).kfn) : Deps P w K mg base (envOf ds [] (subOf subL)) (C_law lv) :=
  mk_deps hf hk (fun p hp => by cases hp) (AllL.all (F := fun x => mg x = none) (l := (C_law lv).free) ⟨H.fr_range, H.fr_min, H.fr_len, H.fr_isinstance, H.fr_tuple, H.fr_list, H.fr_bool, trivial⟩) .nil (AllL.all (F := fun c => SubOk K (subOf subL) c ∧ mg c = some (.ref (He.ga K c))) (l := (C_law lv).clss) trivial) (H.cs _) (AllL.all (F := fun c => mg c = some (.ref (He.ga K c)) ∧ (He.Fa.exc c).ok K = true) (l := (C_law lv).excs) trivial)
end
end DL.LW
namespace DL.LW
open PySem PySem.Spec PyProof.Rows L2 DL
abbrev PG : Program := (PySem.Challenge.rw_labelclocks_k02_tokens_of_texts).prog
section
variable {w : World} {h base : Heap} {K : PySem.W.Frag} {mg : Str → Option Value}
abbrev D (w : World) (K : PySem.W.Frag) (mg : Str → Option Value) (base : Heap) (k : Nat) (x : Str) (n : Nat) (dsp : DSp) : Prop := DefS PG w K mg base k x n dsp
theorem k_line_tokens (H : Hd w h base K mg) : D w K mg base 1 "line_tokens" 1 (detX fLine) := by
  obtain ⟨fd, T⟩ := H.t_line_tokens
  exact (mk_def (T 0) (H.dep_line_tokens (ds := []) .nil) rfl detX_mono (raw_line rfl)).s
theorem x_tokens_of (H : Hd w h base K mg) : ∃ fd, DefX PG w K mg base 3 "tokens_of" ["text"] (He.ga K "tokens_of") fd (detL fTok) ∧ KB K fd ["text"] 0 ["text"] [] := by
  obtain ⟨fd, T, kb⟩ := H.t_tokens_of
  exact ⟨fd, mk_def (T 2) (H.dep_tokens_of (ds := [detX fLine]) (.cons ((k_line_tokens H).mono (by decide)) .nil) (by decide)) rfl detL_mono (raw_tokens_of rfl rfl rfl), kb⟩
theorem k_mixed (H : Hd w h base K mg) : D w K mg base 1 "_law_mixed" 1 dspMx := by
  obtain ⟨fd, T⟩ := H.t__law_mixed
  exact (mk_def0 (T 0) (H.dep__law_mixed (ds := []) .nil) rfl dspMx_mono fun _ => wrapM).s
theorem k_draw (H : Hd w h base K mg) : D w K mg base 2 "_law_draw" 2 dspD := by
  obtain ⟨fd, T⟩ := H.t__law_draw
  exact (mk_def0 (T 1) (H.dep__law_draw (ds := [dspMx]) (.cons (k_mixed H) .nil)) rfl dspD_mono fun _ => wrapD rfl).s
theorem k_begun (H : Hd w h base K mg) : D w K mg base 1 "_law_begun" 1 dspB := by
  obtain ⟨fd, T⟩ := H.t__law_begun
  exact (mk_def0 (T 0) (H.dep__law_begun (ds := []) .nil) rfl dspB_mono fun _ => wrapB).s
theorem k_pick (H : Hd w h base K mg) : D w K mg base 3 "_law_pick" 2 spPick := by
  obtain ⟨fd, T⟩ := H.t__law_pick
  refine (mk_def (T 2) (H.dep__law_pick (ds := [dspD]) (.cons (k_draw H) .nil)) rfl drawD_mono ?_).s
  rintro vs T Q X ⟨n, ds, rfl, rfl, hp, q⟩
  exact raw_pick rfl hp fun r hr => q r n hr (Nat.le_refl _)
theorem k_tx_words (H : Hd w h base K mg) : D w K mg base 1 "_law_tx_words" 0 (detX fTxWords) := by
  obtain ⟨fd, T⟩ := H.t__law_tx_words
  refine (mk_det (fs := []) 0 (T 0) (H.dep__law_tx_words .nil) rfl fun ds r e => ?_).s
  unfold fTxWords at e
  split at e
  · cases e; exact ev_tx_words
  · cases e
theorem k_tx_name (H : Hd w h base K mg) : D w K mg base 4 "_law_tx_name" 2 (drawD 20 nmPre nmPost) := by
  obtain ⟨fd, T⟩ := H.t__law_tx_name
  exact (mk_def (T 3) (H.dep__law_tx_name (ds := [dspD, spPick, detX fTxWords]) (.cons ((k_draw H).mono (by decide)) (.cons (k_pick H) (.cons ((k_tx_words H).mono (by decide)) .nil)))) rfl drawD_mono (raw_name rfl rfl rfl)).s
theorem k_tx_tokens (H : Hd w h base K mg) : D w K mg base 1 "_law_tx_tokens" 1 (detX fTx) := by
  obtain ⟨fd, T⟩ := H.t__law_tx_tokens
  exact (mk_def (T 0) (H.dep__law_tx_tokens (ds := []) .nil) rfl detX_mono raw_tx_tokens).s
theorem k_bad (H : Hd w h base K mg) : D w K mg base 1 "_law_tx_bad" 3 dspBad := by
  obtain ⟨fd, T⟩ := H.t__law_tx_bad
  exact (mk_def (T 0) (H.dep__law_tx_bad (ds := []) .nil) rfl dspBad_mono (raw_bad (by decide))).s
theorem k_new_text (H : Hd w h base K mg) : D w K mg base 5 "_law_new_text" 1 (drawD 2000 txPre txPost) := by
  obtain ⟨fd, T⟩ := H.t__law_new_text
  exact (mk_def (T 4) (H.dep__law_new_text (ds := [spPick, dspD, drawD 20 nmPre nmPost]) (.cons ((k_pick H).mono (by decide)) (.cons ((k_draw H).mono (by decide)) (.cons (k_tx_name H) .nil)))) rfl drawD_mono (raw_new_text rfl rfl rfl)).s
theorem x_law (H : Hd w h base K mg) (hT : ∀ p ∈ tfL.map (He.cT K), LamX.TabB base mg p.1 p.2) {fd : FuncData} (F : FunD K "law" "law" (defArgs (top lawIx)) (defBody (top lawIx)) (defScope (top lawIx)) [] [] (He.ga K "law") fd) : DefX PG w K mg base 8 "law" ["_law_script"] (He.ga K "law") fd dspLaw := by
  have T : ∀ lv, DefT K mg (C_law lv) "law" ["_law_script"] tm_law (He.ga K "law") fd := fun lv => ⟨H.nm_law, ⟨_, _, _, F, sc_law, rfl, ck_law lv, Nat.le_of_ble_eq_true rfl⟩, F.bindsN fun _ _ _ _ _ _ us hl => match us, hl with | [_], _ => rfl, F.kp⟩
  obtain ⟨ft, xt, kt⟩ := x_tokens_of H
  refine mk_lam (T 5) (H.dep_law (ds := [dspB, drawD 2000 txPre txPost, detL fTok, detX fTx, spPick, dspBad]) (.cons ((k_begun H).mono (by decide)) (.cons (k_new_text H) (.cons (xt.s.mono (by decide)) (.cons ((k_tx_tokens H).mono (by decide)) (.cons ((k_pick H).mono (by decide)) (.cons ((k_bad H).mono (by decide)) .nil)))))) ?_) (H.ct_law hT 5 _)
    (by rintro vs T Q Q' X X' hq hx ⟨ns, h1, h2, h3, h4⟩; exact ⟨ns, h1, h2, h3, hq _ _ h4⟩) (raw_law rfl rfl rfl rfl rfl rfl (by decide))
  intro p hp
  have hp : p ∈ ([("tokens_of", 2, 0, ["text"], [])] : List (Str × Nat × Nat × List Str × List Nat)) := hp
  simp only [List.mem_cons, List.not_mem_nil, or_false] at hp
  subst hp
  exact (xt.kw (n := 0) rfl kt).mono (by decide)
end
end DL.LW
open PySem PySem.W PySem.Calls PyProof.Rows
set_option maxRecDepth 100000 in
set_option maxHeartbeats 0 in
theorem PySem.Challenge.cw_labelclocks_k02_tokens_of_texts_holds : PySem.Challenge.rw_labelclocks_k02_tokens_of_texts.Holds := by
  w_on; o_law
  refine HandSHeadRun.head_any (r := OpenLaw.row PySem.Challenge.rw_labelclocks_k02_tokens_of_texts) (q := view (OpenLaw.row PySem.Challenge.rw_labelclocks_k02_tokens_of_texts).prog [DL.LW.lawIx]) (H := DL.LW.hk) (ob := DL.LW.ob) (M := 4000) (loose := DL.LW.nms) (d := HandSHeadRun.topDef (OpenLaw.row PySem.Challenge.rw_labelclocks_k02_tokens_of_texts).prog DL.LW.lawIx) (kwd := []) DL.LW.ob_eq
    (by kernel_rfl) (fun s => by kernel_rfl) DL.LW.run (by kernel_rfl) (by kernel_rfl) (by kernel_rfl) (by rfl) (by first | assumption | decide +kernel) (by decide +kernel) ⟨rfl, rfl, rfl, rfl, rfl, by decide +kernel⟩ ?hw ?hc
  case hw => w_witness2
  case hc =>
    refine LamX.walk_ofTsE (l := PySem.Challenge.rw_labelclocks_k02_tokens_of_texts) (n := 63) (k := 8) (x := "_law_script") (CX := fun w => L2.CX (PySem.Challenge.rw_labelclocks_k02_tokens_of_texts).prog w) rfl (by decide) (by kernel_rfl) ⟨rfl, by decide, by decide⟩ ?F (fun w H s e s' z => by obtain ⟨_, _, _, _, _, _, _, _, _, _, _, _, z⟩ := z; exact z)
    intro w mg fa h Y G hmg0
    obtain ⟨K, KX, cY⟩ := Y
    have c := cY.x
    have ci := cY.ini
    have hmg : mg ("law" : PySem.Str) = some (.ref fa) := by
      have e : (HandSHeadRun.topDef (OpenLaw.row PySem.Challenge.rw_labelclocks_k02_tokens_of_texts).prog DL.LW.lawIx).name = ("law" : PySem.Str) := by kernel_rfl
      rw [← e]
      exact hmg0
    have H0 : DL.LW.Hd w h h K mg := ⟨KX, G, c, ci⟩
    have e1 : fa = He.ga K "law" := by
      have := hmg.symm.trans H0.nm_law
      cases this; rfl
    subst e1
    obtain ⟨fd, F⟩ := H0.fn_law
    refine ⟨K, KX, fd, DL.LW.tfL.map (He.cT K), DL.spOf K 1 DL.LW.dspLaw, ?_, ?_, ?_, ?_, ?_, ?_⟩
    · intro p hp
      obtain ⟨q, hq, rfl⟩ := List.mem_map.mp hp
      exact c.empty q hq
    · intro p hp
      obtain ⟨q, hq, rfl⟩ := List.mem_map.mp hp
      exact c.out q hq
    · intro p hp
      obtain ⟨q, hq, rfl⟩ := List.mem_map.mp hp
      exact PySem.W.codeHd_of_K KX (c.hd q hq)
    · exact fun s u => F.bindsA (ps := ["_law_script"]) (fun _ _ _ _ _ _ us hl => match us, hl with | [_], _ => rfl) s [u] rfl
    · intro H a ns hl _ hH hS
      refine DL.start_sp (fun p hp => ?_) hS fun Q X q => ⟨ns, rfl, rfl, hl, q⟩
      have ex := H0.ex.2.2.2.1
      rw [ex] at hp
      have : ∃ q ∈ DL.LW.tfL.map (He.cT K), q.2 = p.1 := by
        simp only [DL.LW.tbL, List.mem_cons, List.not_mem_nil, or_false] at hp
        rcases hp with rfl
        exact ⟨_, List.mem_map.mpr ⟨_, List.mem_of_getElem? (i := 0) rfl, rfl⟩, rfl⟩
      obtain ⟨q, hq, e⟩ := this
      rw [← e]
      exact hH q hq
    · intro base KB GB hT
      have HB : DL.LW.Hd w h base K mg := ⟨KB, GB, c, ci⟩
      exact (DL.LW.x_law HB hT F).ok
