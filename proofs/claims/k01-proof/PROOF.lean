import PyProof.Rows.All
import Wide.All
import OpenK.AllK
import Wide.FinOn
import KE.KExcSuper
import HandS.ForMost
import HandS.ForExc
import HandS.ExcInit
import HandS.Nested
import HandS.NestedK
import HandS.Evl
import HandS.Deep
import HandS.IsInst
import HandS.TupAny
import HandS.Walk
import PySem.Challenge.RW_verifiedruns_k01_kinds_of_values
import HandS.Strs
import HandS.SetTxt0
import HandS.SetFor
import HandS.ExcField
set_option Elab.async false
set_option linter.all false
set_option maxRecDepth 100000
set_option maxHeartbeats 4000000
/-! An own exception class over ValueError (a base of the program's own may stand between) whose __init__ says super().__init__(text) first. -/
namespace L2
open PySem PySem.Spec PyProof.Rows

/-- what the written part says for super() in C's own __init__ at f -/
structure SupC (P : Program) (K : PySem.W.Frag) (mg : Str → Option Value) (C f cc cda : Addr) (F : NdefX.NF) : Prop where
  T : OexC K C
  lk : ∃ oc od osl doc pm an ct, K.lookup f = some ⟨oc, od, .func (PySem.W.fnX F.name F.qual F.params F.body F.scope F.cl .none .none doc pm an (.ref F.c) ct), osl⟩
  cl : F.cl = ([(("__class__" : Str), cc)] : List (Str × Addr))
  c : F.c = cda
  code : ∃ ccl cdd vs ccs file tf, K.lookup cda = some ⟨ccl, cdd, .fields vs, ccs⟩ ∧ vs[2]? = some (.str file tf) ∧ ((P.main.file : Str) == file) = true
  cell : ∃ cl cld csl, K.lookup cc = some ⟨cl, cld, .cell (some (.ref C)), csl⟩
  sup : mg "super" = none
  top : (P.main.scope.names.lookup ("super" : Str)).isSome = false
  any : PySem.W.nsIn K PySem.cStatics "thirdparty.any" = some none
  along : PySem.W.ks_superIn K C C "__init__" = some (some (.builtin "ValueError.__init__"))
  subV : PySem.W.subIn K (.ref C) (.type "ValueError") = some true
  subC : PySem.W.mroIn K C (.ref C) = some true

section
variable {X : Cx} {pins : List (Addr × Obj)} {σ : St} {H : Hp} {s : Shared} {C f cc cda : Addr} {F : NdefX.NF}

/-- the bound ValueError.__init__ is called -/
theorem sup_call {a u : Addr} {ws : List Value} {Q : Value → Shared → Prop} {E : Value → Shared → Prop} (T : OexC X.K C) (I : Inv X pins σ H s) (e : H a = some (exo a C none)) (hu : s.heap.get? u = some (PySem.W.kxs_mw "ValueError.__init__" a))
    (hl : ws.length ≤ sizeLine) (h : ∀ s', Inv X pins σ H s' → Q .none s') : wpAny (model X.prog X.w) X.A (call (.ref u) ws) Q E s := by
  obtain ⟨nm, q, N, bs, bm, sn, sub, ab, col, dd, k0, k1, k2, k3, k5, hC, hbm⟩ := T.cls
  obtain ⟨t1, ho⟩ := exo_at I.hok e
  have hC' := I.kIn _ _ hC
  obtain ⟨hp, g, d, t, os⟩ := s
  have fin : ∀ h' t2, (∀ b o, b ≠ a → hp.get? b = some o → h'.get? b = some o) → h'.get? a = some (PySem.W.excObj C t2 none .none) → Q .none ⟨h', g, d, t, os⟩ := fun h' t2 k hx => by
    have J := I.write (t' := t) (x := a) (e := a) (o := exo a C none) (h' := h') (by rw [e]; exact True.intro) (.inl rfl) k ⟨_, hx⟩ (exo_ok hx)
    have eu : upd H a (exo a C none) = H := by
      funext b
      by_cases hb : b = a
      · rw [hb, upd_same, e]
      · rw [upd_ne hb]
    rw [eu] at J
    exact h _ J
  refine wpAny_call (codeAny_of_tree ?_)
  show wpAny _ X.A.in1 (callAny (.ref u) ⟨ws, []⟩) _ _ _
  simp only [callAny]
  refine wpAny_bind (wpAny_load hu ?_)
  simp only [PySem.W.kxs_mw, show (Value.type "method-wrapper" == Value.type "method" || Value.type "method-wrapper" == Value.type "builtin_function_or_method" || Value.type "method-wrapper" == Value.type "method-wrapper") = true by decide, if_true]
  refine PySem.W.KFB.if_so (by decide) ?_
  refine wpAny_bind (PySem.W.check_bound_init F.excBase_ValueError.toExcCallFacts hC' ho rfl ?_)
  refine wpAny_bind (wpAny_pure (wpAny_pure ?_))
  refine ⟨plainId_quiet F.excBase_ValueError.init.plain _, codeAny_builtin F.excBase_ValueError.initEntry ?_⟩
  exact PySem.W.exc_init_tree (cls := .ref C) (t0 := t1) (dv := none) (c2 := .none) (c3 := .none) (b4 := .bool false) ho hl (fun h' k e' t' => fin h' _ k e')
/-- super().__init__(text), the first statement of C's own __init__ -/
theorem sup_stmt {a L : Addr} {pl : Sem Bool} {body : List Stmt} {z : Str} {j : Nat} {p0 p1 p2 p3 p4 p5 : Pos} {ag : Arg} {rs : List Arg} (S : SupC X.prog X.K X.mg C f cc cda F) (I : Inv X pins σ H s) (henv : X.env = NdefX.envF F f L)
    (har : F.params.posonlyargs ++ F.params.args = ag :: rs) (h0 : X.N[0]? = some ag.arg) (hσ : σ[0]? = some (some (.ref a))) (e : H a = some (exo a C none))
    (k1 : F.scope.names.lookup ("super" : Str) = some .globalImplicit) (k2 : F.scope.names.lookup ("__class__" : Str) = some .free) (k3 : F.scope.names.lookup ag.arg = some .local) (hsw : swapsWith (.Call (.Attribute (.Call (.Name "super" p0) [] [] p1) "__init__" p2) [.Constant (.str z) j p3] [] p4) none p5.line X.env = pure false := by rfl)
    (hec : eval (.Call (.Attribute (.Call (.Name "super" p0) [] [] p1) "__init__" p2) [.Constant (.str z) j p3] [] p4) X.env = (do
      let ov ← attributeBase (.Call (.Name "super" p0) [] [] p1) "__init__" X.env (eval (.Call (.Name "super" p0) [] [] p1) X.env)
      standAt p2.atName
      let (f, first) ← holding [ov] (getMethod ov "__init__" pl)
      callWith p4 f first (backTo p4 (starEach [.Constant (.str z) j p3] X.env)) []) := by rfl) :
    _root_.PySem.wpAt (model X.prog X.w) X.A (.func body X.env) (exec (.Expr (.Call (.Attribute (.Call (.Name "super" p0) [] [] p1) "__init__" p2) [.Constant (.str z) j p3] [] p4) p5) X.env) (fun fl s' => fl = .next ∧ Inv X pins σ H s') X.xe s := by
  obtain ⟨nm, q, N, bs, bm, sn, sub, ab, col, dd, q0, q1, q2, q3, q5, hC, hbm⟩ := S.T.cls
  have hcl : PySem.W.clsIn X.K C = some { name := nm, bases := bs, mro := .ref C :: bm, ns := N, qualname := q, hasDict := true, slotNames := sn, subclasses := sub, abstract := ab, collection := col, hasDel := false } := by unfold PySem.W.clsIn; rw [hC] <;> rfl
  obtain ⟨oc, od, osl, doc, pm, an, ct, lk⟩ := S.lk
  obtain ⟨ccl, cdd, vs, ccs, file, tf, lc, hvs, hfile⟩ := S.code
  obtain ⟨cl, cld, csl, lcell⟩ := S.cell
  obtain ⟨t1, ho⟩ := exo_at I.hok e
  have hkf : X.env.func = some f := by rw [henv]
  have hkc : X.env.code = .ref cda := by rw [henv, ← S.c]
  have e1 : X.env.kindOf ("super" : Str) = some .globalImplicit := by rw [henv]; exact k1
  have e2 : X.env.kindOf ("__class__" : Str) = some .free := by rw [henv]; exact k2
  have e3 : X.env.kindOf ag.arg = some .local := by rw [henv]; exact k3
  have e4 : X.env.cells.lookup ("__class__" : Str) = some cc := by rw [henv]; show F.cl.lookup _ = _; rw [S.cl]; rfl
  refine PySem.ks_wpAt_Expr_any ?_ I.quiet hsw
  refine PySem.ks_wpAt_MethodCall (pl := pl) ?_ hec
  obtain ⟨hp, g, d, t, os⟩ := s
  refine PySem.ks_wpAt_super_base e1 e2 (by decide) hkf (I.kIn _ _ lk) rfl (by rw [har]; rfl) hkc (I.kIn _ _ lc) rfl hvs hfile S.top ?_
  obtain ⟨mb, h1, h2⟩ := I.mod.blt
  refine PySem.W.ks_loadName_global I.ok.kind e1 (Calls.loadGlobal_builtin (by rw [I.ok.glob]; exact I.mod.glob.keeps I.bk) S.sup (by rw [I.ok.blt]; exact h1.keeps I.bk) ((h2 "super" (by decide)).trans (by first | rfl | kernel_rfl)) ⟨rfl, ?_⟩)
  refine wpAny_loadName_free I.ok.kind e2 e4 ⟨_, I.kIn _ _ lcell, rfl⟩ ?_
  obtain ⟨m, hn, hl⟩ := I.loc
  obtain ⟨u, ru, lu⟩ := hl 0 ag.arg (.ref a) h0 hσ (.inl e3)
  obtain rfl : u = Value.ref a := ru
  have hm : m ag.arg = some (.ref a) := by
    rcases lu with ⟨_, z⟩ | ⟨z, _⟩
    · exact z
    · rw [e3] at z; rcases z with z | z <;> cases z
  refine wpAny_loadName_local I.ok.kind e3 hn hm ?_
  have hC' := I.kIn _ _ hC
  refine PySem.ks_wpAny_isType_cls hC' rfl ⟨rfl, ?_⟩
  refine PySem.ks_wpAny_call_super hC' rfl ho rfl (fun c z => by cases z) (PySem.W.looks_mroIn I.kIn S.subC) (fun h' es k => ?_)
  have J : Inv X pins σ H ⟨h', g, d, t, os⟩ := I.kept (t' := t) k
  obtain ⟨t2, ho2⟩ := exo_at J.hok e
  have hxC : a ≠ C := fun z => by
    rw [z] at ho
    rw [hC'] at ho
    cases ho
  have hal := S.along
  unfold PySem.W.ks_superIn at hal
  rw [hcl] at hal
  have IA : PySem.W.InstAt h' a (PySem.W.excObj C t2 none .none) C none := ⟨ho2, rfl, rfl, trivial⟩
  refine PySem.W.kxs_getMethod PySem.W.kxs_ValueError es (PySem.W.looks_opaque J.kIn S.any) (l₀ := .ref C :: bm) ?_ rfl J.kIn hal (IA.type.andThen (PySem.W.looks_subIn J.kIn S.subV)) hxC (by decide) ?_
  · exact fun A Q E s k q => wpAny_bind ((PySem.W.looks_clsIn J.kIn hcl) A _ E s k (wpAny_pure q))
  have J2 : Inv X pins σ H ⟨h'.push (PySem.W.kxs_mw "ValueError.__init__" a), g, d, t + 1, os⟩ := J.kept (t' := t + 1) fun b o q => Heap.get?_push_of_some _ q
  have hu : (h'.push (PySem.W.kxs_mw "ValueError.__init__" a)).get? h'.objs.size = some (PySem.W.kxs_mw "ValueError.__init__" a) := Heap.get?_push_at rfl rfl
  show wpAny _ _ (callWith p4 (.ref h'.objs.size) [] (backTo p4 (starEach [.Constant (.str z) j p3] X.env)) []) _ _ _
  refine PySem.W.kxs_callWith (i := "ValueError.__init__") (x := a) (by rfl) ?_
  have nu : H h'.objs.size = none := J.hok.fresh (Nat.le_refl _)
  have J3 : Inv X ((h'.objs.size, PySem.W.kxs_mw "ValueError.__init__" a) :: pins) σ H ⟨h'.push (PySem.W.kxs_mw "ValueError.__init__" a), g, d, t + 1, os⟩ := by
    refine ⟨J2.ok, J2.os, J2.bare, J2.base, J2.loc, J2.cell, J2.free, J2.freeC, fun p hp => ?_, J2.hok, J2.len⟩
    have hp' : p = (h'.objs.size, PySem.W.kxs_mw "ValueError.__init__" a) ∨ p ∈ X.pn ++ pins := by
      rcases List.mem_append.mp hp with q | q
      · exact .inr (List.mem_append_left _ q)
      · rcases List.mem_cons.mp q with q | q
        · exact .inl q
        · exact .inr (List.mem_append_right _ q)
    rcases hp' with rfl | hp'
    · exact ⟨hu, nu, Nat.ne_of_gt J.lt, J.nofs (Nat.le_refl _), fun v z => by cases z⟩
    · exact J2.pin p hp'
  refine Calls.evalArgs_plain (rest := []) ?_
  refine thn ((pa_cons (pe_str (X := X) (x := z) (j := j) (pos := p3)) pa_nil).run p4 _ _ σ H (fun ws H1 => ws = [.str z] ∧ H1 = H) J3 ⟨rfl, rfl⟩) fun us s1 ⟨ws, H1, J4, r3, e5, e6⟩ => ?_
  subst e6
  have hu2 := (J4.pin _ (List.mem_append_right _ (List.mem_cons_self))).1
  have J5 : Inv X pins σ H1 s1 := ⟨J4.ok, J4.os, J4.bare, J4.base, J4.loc, J4.cell, J4.free, J4.freeC, fun p hp => J4.pin p (by
    rcases List.mem_append.mp hp with q | q
    · exact List.mem_append_left _ q
    · exact List.mem_append_right _ (List.mem_cons_of_mem _ q)), J4.hok, J4.len⟩
  refine ⟨hu2, ?_⟩
  have hlen : us.length ≤ sizeLine := by
    rw [← Paired.length r3, e5, sizeLine_eq]
    exact (by decide : 1 ≤ 16777216)
  exact sup_call S.T J5 e hu2 hlen fun s' J6 => ⟨rfl, J6⟩
end
/-- THE RULE: C's own __init__, super().__init__(text) first, then the rest -/
theorem fnS_of {CX : CXT} {P : Program} {w : World} {K : PySem.W.Frag} {mg : Str → Option Value} {base : Heap} {k : Nat} {C f cc cda : Addr} {F : NdefX.NF} {fd : FuncData} {oc : Value} {od : Option Addr} {osl : Array (Option Value)} {doc pm : Value} {an : Option Addr} {ct : Value}
    {N ps : List Str} {rest : List Stmt} {z : Str} {j : Nat} {p0 p1 p2 p3 p4 p5 : Pos} {ag : Arg} {rs : List Arg} {sp : Sp} (S : SupC P K mg C f cc cda F)
    (hfd : fd = PySem.W.fnX F.name F.qual F.params F.body F.scope F.cl .none .none doc pm an (.ref F.c) ct) (lk : K.lookup f = some ⟨oc, od, .func fd, osl⟩) (hcd : PySem.W.codeIn K (.ref F.c) F.qual = true)
    (hb : F.body = .Expr (.Call (.Attribute (.Call (.Name "super" p0) [] [] p1) "__init__" p2) [.Constant (.str z) j p3] [] p4) p5 :: rest)
    (sc : NdefX.NScope N ps ["__class__"] F.scope) (har : F.params.posonlyargs ++ F.params.args = ag :: rs) (h0 : N[0]? = some ag.arg)
    (k1 : F.scope.names.lookup ("super" : Str) = some .globalImplicit) (k2 : F.scope.names.lookup ("__class__" : Str) = some .free) (k3 : F.scope.names.lookup ag.arg = some .local)
    (len : ∀ vs H Q E, sp vs H Q E → vs.length = ps.length)
    (self : ∀ vs H Q E, sp vs H Q E → ∃ a r, vs = .ref a :: r ∧ H a = some (exo a C none))
    (hx : ∀ L : Addr, (∃ pl : Sem Bool, eval (.Call (.Attribute (.Call (.Name "super" p0) [] [] p1) "__init__" p2) [.Constant (.str z) j p3] [] p4) (NdefX.envF F f L) = (do
      let ov ← attributeBase (.Call (.Name "super" p0) [] [] p1) "__init__" (NdefX.envF F f L) (eval (.Call (.Name "super" p0) [] [] p1) (NdefX.envF F f L))
      standAt p2.atName
      let (g, first) ← holding [ov] (getMethod ov "__init__" pl)
      callWith p4 g first (backTo p4 (starEach [.Constant (.str z) j p3] (NdefX.envF F f L))) [])) ∧
      swapsWith (.Call (.Attribute (.Call (.Name "super" p0) [] [] p1) "__init__" p2) [.Constant (.str z) j p3] [] p4) none p5.line (NdefX.envF F f L) = pure false)
    (hbody : ∀ (A : Around) (outer : List Env) (s : Shared) (H : Hp) (vs : List V) (Q : VK) (E : XK), Room k (A.deeper (NdefX.envF F f s.heap.objs.size)) → sp vs H Q E →
      ∃ t, PSs (NdefX.ncx CX P w K mg base N F f A outer s H E) rest t ∧ t { nx := fun _ H' => Q .non H', rt := Q } (NdefX.startF N vs [some (.ref C)]) H) :
    FnOk P w K mg base CX (k + 1) f fd ps sp := by
  refine ⟨len, fun A outer s H args us vs Q E hr e0 hbi r hsp => ?_⟩
  have KX : K.In s.heap := e0.mod.kin.keeps fun b o e => (e0.bs b o e).1
  have hl := len _ _ _ _ hsp
  have lim : s.heap.NoLimit := e0.mod.nolimit.keeps fun b o e => (e0.bs b o e).1
  subst hfd
  obtain ⟨cl, cld, csl, lcell⟩ := S.cell
  have hcells : NdefX.CellsAt F.cl ["__class__"] [some (V.ref C)] s.heap H := by
    have one : ∀ y c, F.cl.lookup y = some c → c = cc := fun y c e => by
      rw [S.cl] at e
      unfold List.lookup at e
      split at e
      · exact (Option.some.inj e).symm
      · cases e
    have cellb : base.get? cc = some ⟨cl, cld, .cell (some (.ref C)), csl⟩ := e0.mod.kin _ _ lcell
    refine ⟨rfl, fun y c e => ?_, fun x y c e1 e2 => ?_, fun i y hy => ?_⟩
    · rw [one y c e]
      exact ⟨(e0.bs _ _ cellb).2, _, _, (e0.bs _ _ cellb).1, rfl⟩
    · rw [S.cl] at e1 e2
      have q : ∀ x, List.lookup x ([(("__class__" : Str), cc)] : List (Str × Addr)) = some c → x = "__class__" := fun x e => by
        unfold List.lookup at e
        split at e
        · rename_i h; exact eq_of_beq h
        · cases e
      rw [q x e1, q y e2]
    · match i, hy with
      | 0, hy =>
        have ey : ("__class__" : Str) = y := Option.some.inj hy
        subst ey
        refine ⟨cc, by rw [S.cl]; rfl, fun v hv => ?_⟩
        have ev : V.ref C = v := Option.some.inj (Option.some.inj hv)
        subst ev
        exact ⟨_, rfl, _, (e0.bs _ _ cellb).1, rfl⟩
      | i + 1, hy => cases hy
  refine ks_codeAny_call_defAt (body := F.body) (binds := ps.zip us) hr.depth (KX _ _ lk) rfl lim (PySem.W.codeRec_of KX hcd) rfl hbi sc.nocell (fun y hy => sc.par y.1 (List.of_mem_zip (a := y.1) (b := y.2) hy).1) (fun h₁ hns kp => ?_) sc.co sc.gen sc.kind
  obtain ⟨t, ht, hq⟩ := hbody A outer s H vs Q E (hr.deeper _) hsp
  obtain ⟨a, rr, hvs, ha⟩ := self _ _ _ _ hsp
  have I : Inv (NdefX.ncx CX P w K mg base N F f A outer s H E) [] (NdefX.startF N vs [some (.ref C)]) H { s with heap := h₁, toks := s.toks + (ps.zip us).length } := NdefX.inv_startN sc hr.hd e0 hl r hcells hns kp
  obtain ⟨⟨pl, hx1⟩, hx2⟩ := hx s.heap.objs.size
  show _root_.PySem.wpAt _ _ (.func F.body (NdefX.envF F f s.heap.objs.size)) (execs F.body (NdefX.envF F f s.heap.objs.size)) _ _ _
  have go : _root_.PySem.wpAt (model P w) (A.deeper (NdefX.envF F f s.heap.objs.size)) (.func F.body (NdefX.envF F f s.heap.objs.size)) (exec (.Expr (.Call (.Attribute (.Call (.Name "super" p0) [] [] p1) "__init__" p2) [.Constant (.str z) j p3] [] p4) p5) (NdefX.envF F f s.heap.objs.size)) _ _ _ :=
    sup_stmt (X := NdefX.ncx CX P w K mg base N F f A outer s H E) (body := F.body) (p0 := p0) (p1 := p1) (p2 := p2) (p3 := p3) (p4 := p4) (p5 := p5) (z := z) (j := j) S I rfl har h0 (by rw [hvs]; rfl) ha k1 k2 k3 hx2 hx1
  conv => arg 4; rw [hb]
  refine ks_wpAt_execs_cons (ks_wpAt_mono go (fun fl s' hs => ?_) fun e s' hs => hs)
  obtain ⟨rfl, J⟩ := hs
  refine wpAt_of_wpAny ?_
  have fin : ∀ {σ' : L2.St} {H' : Hp} {v : V} {u : Value} {s' : Shared}, Inv (NdefX.ncx CX P w K mg base N F f A outer s H E) [] σ' H' s' → L2.RelV v u → Q v H' → CE outer P w H s Q u s' :=
    fun {σ' H' v u s'} J rv q => ⟨v, H', J.os, J.bare, J.base, J.hok, rv, q⟩
  refine wpAny_mono (ht.run [] _ _ H _ J hq) (fun fl s' hs => ?_) fun e s' hs => hs
  cases fl with
  | ret u =>
    obtain ⟨v, σ', H', J, rv, q⟩ := hs
    exact fin J rv q
  | next =>
    obtain ⟨σ', H', J, q⟩ := hs
    exact fin (v := V.non) (u := Value.none) J rfl q
  | brk =>
    obtain ⟨_, _, _, q⟩ := hs
    exact False.elim q
  | cont =>
    obtain ⟨_, _, _, q⟩ := hs
    exact False.elim q
end L2

set_option maxRecDepth 100000
set_option maxHeartbeats 4000000
/-! Data as a whole (PyData: None, bools, ints, texts, tuples, lists) over HandS: what an expression evaluates to as data, the heap only growing. -/
namespace Dat
open PySem L2 Evl

section
variable {K : PySem.W.Frag} {H H' : Hp}
mutual
theorem dp_ex (e : Ex H H') : ∀ {v : V} {d : PyData}, Dp K H v d → Dp K H' v d
  | _, _, .non => .non
  | _, _, .bl b => .bl b
  | _, _, .int i => .int i
  | _, _, .str x => .str x
  | _, _, .lst h a => .lst (ex_l e h) (dpa_ex e a)
  | _, _, .tup h a => .tup (ex_t e h) (dpa_ex e a)
theorem dpa_ex (e : Ex H H') : ∀ {vs : List V} {ds : List PyData}, DpAll K H vs ds → DpAll K H' vs ds
  | _, _, .nil => .nil
  | _, _, .cons h t => .cons (dp_ex e h) (dpa_ex e t)
end
/-- all but what stands at t is as it was -/
def Bt (t : Addr) (H H' : Hp) : Prop := ∀ b o, b ≠ t → H b = some o → H' b = some o
theorem Bt.refl (t : Addr) (H : Hp) : Bt t H H := fun _ _ _ h => h
theorem Bt.trans {t : Addr} {H1 H2 : Hp} (a : Bt t H H1) (b : Bt t H1 H2) : Bt t H H2 := fun c o n h => b c o n (a c o n h)
theorem Bt.ex {t : Addr} {H H' : Hp} (e : Ex H H') : Bt t H H' := fun c o _ h => e c o h
/-- what stands at t is no list and no tuple that data leans on -/
def Off : Option HO → Prop
  | some (.dK _) => True
  | some (.dT _) => True
  | some (.ins _ _ _) => True
  | _ => False
theorem bt_rd {t a : Addr} {u : HO} (n : Off (H t)) (e : Bt t H H') (hu : u = .lst xs ∨ u = .tup xs) (h : Rd H a u) : Rd H' a u := by
  have ne : a ≠ t := fun z => by
    subst z
    rcases h with h | ⟨o, h⟩
    · rw [h] at n
      rcases hu with rfl | rfl <;> exact n
    · rw [h] at n
      exact n
  rcases h with h | ⟨o, h⟩
  · exact .inl (e _ _ ne h)
  · exact .inr ⟨o, e _ _ ne h⟩
theorem bt_l {t a : Addr} {xs : List V} (n : Off (H t)) (e : Bt t H H') (h : SqL K H a xs) : SqL K H' a xs := by
  rcases h with h | h
  · exact .inl (bt_rd n e (.inl rfl) h)
  · exact .inr h
theorem bt_t {t a : Addr} {xs : List V} (n : Off (H t)) (e : Bt t H H') (h : SqT K H a xs) : SqT K H' a xs := by
  rcases h with h | h
  · exact .inl (bt_rd n e (.inr rfl) h)
  · exact .inr h
mutual
theorem dp_bt {t : Addr} (n : Off (H t)) (e : Bt t H H') : ∀ {v : V} {d : PyData}, Dp K H v d → Dp K H' v d
  | _, _, .non => .non
  | _, _, .bl b => .bl b
  | _, _, .int i => .int i
  | _, _, .str x => .str x
  | _, _, .lst h a => .lst (bt_l n e h) (dpa_bt n e a)
  | _, _, .tup h a => .tup (bt_t n e h) (dpa_bt n e a)
theorem dpa_bt {t : Addr} (n : Off (H t)) (e : Bt t H H') : ∀ {vs : List V} {ds : List PyData}, DpAll K H vs ds → DpAll K H' vs ds
  | _, _, .nil => .nil
  | _, _, .cons h t => .cons (dp_bt n e h) (dpa_bt n e t)
end
theorem dpa_len : ∀ {vs : List V} {ds : List PyData}, DpAll K H vs ds → vs.length = ds.length
  | _, _, .nil => rfl
  | _, _, .cons _ t => congrArg (· + 1) (dpa_len t)
theorem dpa_get : ∀ {vs : List V} {ds : List PyData} {i : Nat} {d : PyData}, DpAll K H vs ds → ds[i]? = some d → ∃ v, vs[i]? = some v ∧ Dp K H v d
  | _, _, _, _, .nil, e => by simp at e
  | _, _, 0, d, .cons h _, e => by simp at e; subst e; exact ⟨_, rfl, h⟩
  | _, _, i + 1, d, .cons _ t, e => by
    obtain ⟨v, h1, h2⟩ := dpa_get (i := i) (d := d) t (by simpa using e)
    exact ⟨v, by simpa using h1, h2⟩
theorem dpa_get' : ∀ {vs : List V} {ds : List PyData} {i : Nat} {v : V}, DpAll K H vs ds → vs[i]? = some v → ∃ d, ds[i]? = some d ∧ Dp K H v d
  | _, _, _, _, .nil, e => by simp at e
  | _, _, 0, v, .cons h _, e => by simp at e; subst e; exact ⟨_, rfl, h⟩
  | _, _, i + 1, v, .cons _ t, e => by
    obtain ⟨d, h1, h2⟩ := dpa_get' (i := i) (v := v) t (by simpa using e)
    exact ⟨d, by simpa using h1, h2⟩
theorem dpa_append : ∀ {vs ws : List V} {ds es : List PyData}, DpAll K H vs ds → DpAll K H ws es → DpAll K H (vs ++ ws) (ds ++ es)
  | _, _, _, _, .nil, s => s
  | _, _, _, _, .cons h t, s => .cons h (dpa_append t s)
theorem dp_str {v : V} {x : Str} (h : Dp K H v (.str x)) : v = .str x := by cases h; rfl
theorem dp_int {v : V} {i : Int} (h : Dp K H v (.int i)) : v = .int i := by cases h; rfl
theorem dp_bool {v : V} {b : Bool} (h : Dp K H v (.bool b)) : v = .bl b := by cases h; rfl
theorem dp_none {v : V} (h : Dp K H v .none) : v = .non := by cases h; rfl
theorem dp_tup {v : V} {ds : List PyData} (h : Dp K H v (.tuple ds)) : ∃ a xs, v = .ref a ∧ SqT K H a xs ∧ DpAll K H xs ds := by cases h with | tup h a => exact ⟨_, _, rfl, h, a⟩
theorem dp_lst {v : V} {ds : List PyData} (h : Dp K H v (.list ds)) : ∃ a xs, v = .ref a ∧ SqL K H a xs ∧ DpAll K H xs ds := by cases h with | lst h a => exact ⟨_, _, rfl, h, a⟩
/-- a tuple of data at a new place -/
theorem dp_newT {p : Addr} {xs : List V} {ds : List PyData} (h : H' p = some (.tup xs)) (a : DpAll K H' xs ds) : Dp K H' (.ref p) (.tuple ds) := .tup (st_of h) a
theorem dp_newL {p : Addr} {xs : List V} {ds : List PyData} (h : H' p = some (.lst xs)) (a : DpAll K H' xs ds) : Dp K H' (.ref p) (.list ds) := .lst (sq_of h) a
theorem dpa_strs : ∀ {ss : List Str}, DpAll K H (ss.map V.str) (ss.map PyData.str)
  | [] => .nil
  | s :: r => .cons (.str s) (dpa_strs (ss := r))
end

/-! ### x in t, t a tuple of data -/
def rInT (K : PySem.W.Frag) (neg : Bool) : R2 := fun x y H Q => ∃ d ds, Dp K H x d ∧ Dp K H y (.tuple ds) ∧ SeqAt.shaped d = true ∧ SeqAt.shaped (.tuple ds) = true ∧ Q (.bl (if neg then !(ds.any fun z => PyData.eqv z d) else ds.any fun z => PyData.eqv z d)) H
section
variable {X : Cx}
theorem op_inT (hu : X.A.units + 65 < cLine) : OpR X (compareOp .In) (rInT X.K false) := by
  intro pins s σ H x y v u Q I rx ry h
  obtain ⟨d, ds, hd, he, sd, se, q⟩ := h
  obtain ⟨as, r1⟩ := Dp.reads I d x v hd rx
  obtain ⟨bs, r2⟩ := Dp.reads I (.tuple ds) y u he ry
  exact SeqAt.in_tuple_reads r2 r1 (SeqAt.canLay_of_shaped se) (SeqAt.canLay_of_shaped sd) (PyProof.Rows.room_in_shaped sd hu) ⟨.bl _, H, I, rfl, q⟩
theorem op_notInT (hu : X.A.units + 65 < cLine) : OpR X (compareOp .NotIn) (rInT X.K true) := by
  intro pins s σ H x y v u Q I rx ry h
  obtain ⟨d, ds, hd, he, sd, se, q⟩ := h
  obtain ⟨as, r1⟩ := Dp.reads I d x v hd rx
  obtain ⟨bs, r2⟩ := Dp.reads I (.tuple ds) y u he ry
  exact SeqAt.notIn_tuple_reads r2 r1 (SeqAt.canLay_of_shaped se) (SeqAt.canLay_of_shaped sd) (PyProof.Rows.room_in_shaped sd hu) ⟨.bl _, H, I, rfl, q⟩
end
theorem un64 {k : Nat} {A : Around} (hr : Room k A) : A.units + 64 < cLine := hr.units
theorem un65 {k : Nat} {A : Around} (hr : Room k A) : A.units + 65 < cLine := by have := hr.un; omega

/-! ### what evaluates to what -/
def EvD (K : PySem.W.Frag) (te : TE) (σ : L2.St) (H : Hp) (d : PyData) : Prop := ∀ H1, Ex H H1 → ∀ Q : VK, (∀ v H2, Ex H1 H2 → Dp K H2 v d → Q v H2) → te σ H1 Q
def EvDA (K : PySem.W.Frag) (ta : TA) (σ : L2.St) (H : Hp) (ds : List PyData) : Prop := ∀ H1, Ex H H1 → ∀ Q : List V → Hp → Prop, (∀ vs H2, Ex H1 H2 → DpAll K H2 vs ds → Q vs H2) → ta σ H1 Q
section
variable {K : PySem.W.Frag} {σ : L2.St} {H H' : Hp} {ta tb te tx : TE} {t u : TT} {tr : TA} {x y z v : V} {d e : PyData} {ds : List PyData}
theorem EvD.mono (h : Ex H H') (q : EvD K te σ H d) : EvD K te σ H' d := fun H1 a Q k => q H1 (h.trans a) Q k
theorem EvDA.mono (h : Ex H H') (q : EvDA K tr σ H ds) : EvDA K tr σ H' ds := fun H1 a Q k => q H1 (h.trans a) Q k
theorem EvD.is (q : EvD K te σ H d) (h : d = e) : EvD K te σ H e := h ▸ q
theorem ed_ev (h : Ev te σ H v) (k : Dp K H v d) : EvD K te σ H d := fun H1 e1 Q q => h H1 e1 Q fun H2 e2 => q v H2 e2 (dp_ex (e1.trans e2) k)
theorem ed_var {i : Nat} (h : σ[i]? = some (some v)) (k : Dp K H v d) : EvD K (tVar i) σ H d := ed_ev (ev_var h) k
theorem ed_str {s : Str} : EvD K (tC (.str s)) σ H (.str s) := ed_ev ev_c (.str s)
theorem ed_int {i : Int} : EvD K (tC (.int i)) σ H (.int i) := ed_ev ev_c (.int i)
theorem ed_bl {b : Bool} : EvD K (tC (.bl b)) σ H (.bool b) := ed_ev ev_c (.bl b)
theorem ed_non : EvD K (tC .non) σ H .none := ed_ev ev_c .non
theorem ed_c (k : Dp K H v d) : EvD K (tC v) σ H d := ed_ev ev_c k
theorem ev_edS {s : Str} (h : EvD K te σ H (.str s)) : Ev te σ H (.str s) := fun H1 e1 Q q => h H1 e1 Q fun v H2 e2 k => by rw [dp_str k]; exact q H2 e2
theorem ev_edI {i : Int} (h : EvD K te σ H (.int i)) : Ev te σ H (.int i) := fun H1 e1 Q q => h H1 e1 Q fun v H2 e2 k => by rw [dp_int k]; exact q H2 e2
theorem ev_edB {b : Bool} (h : EvD K te σ H (.bool b)) : Ev te σ H (.bl b) := fun H1 e1 Q q => h H1 e1 Q fun v H2 e2 k => by rw [dp_bool k]; exact q H2 e2
theorem eda_nil : EvDA K tNil σ H [] := fun H1 _ _ q => q [] H1 (Ex.refl H1) .nil
theorem eda_cons (h : EvD K ta σ H d) (hr : EvDA K tr σ H ds) : EvDA K (tCons ta tr) σ H (d :: ds) := fun H1 e1 Q q =>
  h H1 e1 _ fun v H2 e2 k => hr H2 (e1.trans e2) _ fun vs H3 e3 ks => q _ H3 (e2.trans e3) (.cons (dp_ex e3 k) ks)
theorem ed_tup (h : EvDA K tr σ H ds) (hl : ds.length ≤ 1000) : EvD K (tTup tr) σ H (.tuple ds) := fun H1 e1 Q q =>
  h H1 e1 _ fun vs H2 e2 ks => ⟨sz_of (by rw [dpa_len ks]; omega), fun p hp => q _ _ (e2.trans (Ex.new hp)) (dp_newT upd_same (dpa_ex (Ex.new hp) ks))⟩
theorem ed_lst (h : EvDA K tr σ H ds) (hl : ds.length ≤ 1000) : EvD K (tLst tr) σ H (.list ds) := fun H1 e1 Q q =>
  h H1 e1 _ fun vs H2 e2 ks => ⟨sz_of (by rw [dpa_len ks]; omega), fun p hp => q _ _ (e2.trans (Ex.new hp)) (dp_newL upd_same (dpa_ex (Ex.new hp) ks))⟩
/-- two expressions, then something by their data -/
theorem ed_op2 {r : R2} {f : PyData} (ha : EvD K ta σ H d) (hb : EvD K tb σ H e) (hr : ∀ H1 x y, Ex H H1 → Dp K H1 x d → Dp K H1 y e → ∀ Q : VK, (∀ v H2, Ex H1 H2 → Dp K H2 v f → Q v H2) → r x y H1 Q) : EvD K (tOp r ta tb) σ H f := fun H1 e1 Q q =>
  ha H1 e1 _ fun x H2 e2 kx => hb H2 (e1.trans e2) _ fun y H3 e3 ky => hr H3 x y ((e1.trans e2).trans e3) (dp_ex e3 kx) ky Q fun v H4 e4 k => q v H4 ((e2.trans e3).trans e4) k
theorem ed_ixT {i : Int} (ha : EvD K ta σ H (.tuple ds)) (hb : EvD K tb σ H (.int i)) (hi : atI ds i = some d) : EvD K (tOp (rIx K) ta tb) σ H d := ed_op2 ha hb fun H1 x y _ kx ky Q q => by
  obtain ⟨a, xs, rfl, hx, ks⟩ := dp_tup kx
  rw [dp_int ky]
  obtain ⟨j, hj, hd⟩ := Option.bind_eq_some_iff.mp hi
  obtain ⟨v, hv, kv⟩ := dpa_get ks hd
  exact .inr (.inl ⟨a, xs, i, v, rfl, rfl, hx, by unfold atI; rw [dpa_len ks, hj]; exact hv, q v H1 (Ex.refl H1) kv⟩)
theorem ed_ixL {i : Int} (ha : EvD K ta σ H (.list ds)) (hb : EvD K tb σ H (.int i)) (hi : atI ds i = some d) : EvD K (tOp (rIx K) ta tb) σ H d := ed_op2 ha hb fun H1 x y _ kx ky Q q => by
  obtain ⟨a, xs, rfl, hx, ks⟩ := dp_lst kx
  rw [dp_int ky]
  obtain ⟨j, hj, hd⟩ := Option.bind_eq_some_iff.mp hi
  obtain ⟨v, hv, kv⟩ := dpa_get ks hd
  exact .inl ⟨a, xs, i, v, rfl, rfl, hx, by unfold atI; rw [dpa_len ks, hj]; exact hv, q v H1 (Ex.refl H1) kv⟩
theorem ed_ixS {s : Str} {i : Int} {c : Nat} (ha : EvD K ta σ H (.str s)) (hb : EvD K tb σ H (.int i)) (hz : s.length ≤ 100000) (hi : atI s.cps.toList i = some c) : EvD K (tOp (rIx K) ta tb) σ H (.str ⟨#[c]⟩) := ed_op2 ha hb fun H1 x y _ kx ky Q q => by
  rw [dp_str kx, dp_int ky]
  exact .inr (.inr ⟨s, i, c, rfl, rfl, sz_of hz, hi, q _ H1 (Ex.refl H1) (.str _)⟩)
theorem ed_eq (ha : EvD K ta σ H d) (hb : EvD K tb σ H e) (sd : SeqAt.shaped d = true) (se : SeqAt.shaped e = true) : EvD K (tOp (rEqD K) ta tb) σ H (.bool (PyData.eqv d e)) := ed_op2 ha hb fun H1 x y _ kx ky Q q =>
  ⟨d, e, kx, ky, sd, se, q _ H1 (Ex.refl H1) (.bl _)⟩
theorem ed_ne (ha : EvD K ta σ H d) (hb : EvD K tb σ H e) (sd : SeqAt.shaped d = true) (se : SeqAt.shaped e = true) : EvD K (tOp (rNeD K) ta tb) σ H (.bool (!PyData.eqv d e)) := ed_op2 ha hb fun H1 x y _ kx ky Q q =>
  ⟨d, e, kx, ky, sd, se, q _ H1 (Ex.refl H1) (.bl _)⟩
theorem ed_inT {neg : Bool} (ha : EvD K ta σ H d) (hb : EvD K tb σ H (.tuple ds)) (sd : SeqAt.shaped d = true) (se : SeqAt.shaped (.tuple ds) = true) : EvD K (tOp (rInT K neg) ta tb) σ H (.bool (if neg then !(ds.any fun z => PyData.eqv z d) else ds.any fun z => PyData.eqv z d)) := ed_op2 ha hb fun H1 x y _ kx ky Q q =>
  ⟨d, ds, kx, ky, sd, se, q _ H1 (Ex.refl H1) (.bl _)⟩
theorem ed_if {b : Bool} (h : EvT t σ H b) (h1 : b = true → EvD K ta σ H d) (h2 : b = false → EvD K tb σ H d) : EvD K (tIf t ta tb) σ H d := fun H1 e1 Q q => h H1 e1 _ fun H2 e2 => by
  cases b with
  | true =>
    show ta σ H2 Q
    exact h1 rfl H2 (e1.trans e2) Q fun v H3 e3 k => q v H3 (e2.trans e3) k
  | false =>
    show tb σ H2 Q
    exact h2 rfl H2 (e1.trans e2) Q fun v H3 e3 k => q v H3 (e2.trans e3) k
theorem ed_addS {a b : Str} (ha : EvD K ta σ H (.str a)) (hb : EvD K tb σ H (.str b)) (hz : a.length + b.length ≤ 100000) : EvD K (tOp (fun x y H Q => ∃ i j, x = .str i ∧ y = .str j ∧ i.length + j.length ≤ sizeLine ∧ Q (.str (i ++ j)) H) ta tb) σ H (.str (a ++ b)) :=
  ed_op2 ha hb fun H1 x y _ kx ky Q q => by
    rw [dp_str kx, dp_str ky]
    exact ⟨a, b, rfl, rfl, sz_of hz, q _ H1 (Ex.refl H1) (.str _)⟩
/-! ### tests -/
theorem et_d {b : Bool} (h : EvD K te σ H (.bool b)) : EvT (tTest te) σ H b := et_test (ev_edB h)
theorem et_dB {b : Bool} (h : EvD K te σ H (.bool b)) : EvT (tB te) σ H b := et_B (ev_edB h)
/-! ### isinstance -/
theorem tyX_of {v : V} : ∀ {d : PyData}, Dp K H v d → ∃ t, TyX K H v (.type t) ∧ t = (match d with | .none => "NoneType" | .bool _ => "bool" | .int _ => "int" | .str _ => "str" | .list _ => "list" | .tuple _ => "tuple" | .dict _ => "dict")
  | _, .non => ⟨_, .base .non, rfl⟩
  | _, .bl b => ⟨_, .base (.bl b), rfl⟩
  | _, .int i => ⟨_, .base (.int i), rfl⟩
  | _, .str x => ⟨_, .base (.str x), rfl⟩
  | _, .lst h _ => by
    rcases h with (h | ⟨o, h⟩) | ⟨o, its, n, h, c, _⟩
    · exact ⟨_, .base (.lst h), rfl⟩
    · exact ⟨_, .base (.frz h), rfl⟩
    · exact ⟨_, .kList h c, rfl⟩
  | _, .tup h _ => by
    rcases h with (h | ⟨o, h⟩) | ⟨o, its, n, h, c, _⟩
    · exact ⟨_, .base (.tup h), rfl⟩
    · exact ⟨_, .fTuple h, rfl⟩
    · exact ⟨_, .kTuple h c, rfl⟩

def tyName : PyData → String
  | .none => "NoneType" | .bool _ => "bool" | .int _ => "int" | .str _ => "str" | .list _ => "list" | .tuple _ => "tuple" | .dict _ => "dict"
theorem tyX {v : V} {d : PyData} (h : Dp K H v d) : TyX K H v (.type (tyName d)) := by
  obtain ⟨t, h1, h2⟩ := tyX_of h
  subst h2
  cases d <;> exact h1
theorem ed_isi {n : String} {b : Bool} (ha : EvD K ta σ H d) (hk : PySem.W.kitOne K (.type (tyName d)) (.type n) = some b) : EvD K (tCB (rIsi K) (tCons ta (tCons (tC (.ty n)) tNil))) σ H (.bool b) := fun H1 e1 Q q =>
  ha H1 e1 _ fun v H2 e2 k => ⟨v, .ty n, .type (tyName d), .type n, b, rfl, .ty n, tyX k, hk, q _ H2 e2 (.bl _)⟩
/-! ### calls by data -/
/-- a pure def: R ds r: of the arguments ds it makes r -/
def SpD (K : PySem.W.Frag) (R : List PyData → PyData → Prop) : Sp := fun vs H Q _ => ∃ ds r, DpAll K H vs ds ∧ R ds r ∧ ∀ v H', Ex H H' → Dp K H' v r → Q v H'
theorem ed_call {R : List PyData → PyData → Prop} {E : XK} (h : EvDA K tr σ H ds) (hr : R ds d) : EvD K (tCall (SpD K R) [] E tr) σ H d := fun H1 e1 Q q =>
  h H1 e1 _ fun vs H2 e2 ks => ⟨ds, d, by rw [List.append_nil]; exact ks, hr, fun v H' e3 k => q v H' (e2.trans e3) k⟩
theorem ed_andV {a b : Bool} (h1 : EvD K ta σ H (.bool a)) (h2 : a = true → EvD K tb σ H (.bool b)) : EvD K (tAndV ta tb) σ H (.bool (a && b)) := ed_ev (ev_andV (ev_edB h1) fun h => ev_edB (h2 h)) (.bl _)
theorem ed_orV {a b : Bool} (h1 : EvD K ta σ H (.bool a)) (h2 : a = false → EvD K tb σ H (.bool b)) : EvD K (tOrV ta tb) σ H (.bool (a || b)) := ed_ev (ev_orV (ev_edB h1) fun h => ev_edB (h2 h)) (.bl _)
theorem ed_notV {a : Bool} (h1 : EvD K ta σ H (.bool a)) : EvD K (tNotV ta) σ H (.bool (!a)) := ed_ev (ev_notV (ev_edB h1)) (.bl _)
/-! ### statements -/
variable {D : Ends} {tu tw tz : TS}
theorem d_ret (h : EvD K te σ H d) (k : ∀ v H1, Ex H H1 → Dp K H1 v d → D.rt v H1) : tRet te D σ H := h H (Ex.refl H) _ k
theorem d_asg {i : Nat} (h : EvD K te σ H d) (k : ∀ v H1, Ex H H1 → Dp K H1 v d → D.nx (σ.set i (some v)) H1) : tAsg te (gName i) D σ H := h H (Ex.refl H) _ k
theorem dq_asg {i : Nat} (h : EvD K te σ H d) (k : ∀ v H1, Ex H H1 → Dp K H1 v d → tz D (σ.set i (some v)) H1) : tSeq (tAsg te (gName i)) tz D σ H := d_asg (D := { D with nx := tz D }) h k
/-- if c: return e, where the way is known -/
theorem dq_ifT (h : EvT t σ H true) (k : ∀ H1, Ex H H1 → tu { D with nx := tz D } σ H1) : tSeq (tIfS t tu tw) tz D σ H := q_if h (fun _ => k) (fun z => Bool.noConfusion z)
theorem dq_ifF (h : EvT t σ H false) (k : ∀ H1, Ex H H1 → tz D σ H1) : tSeq (tIfS t tu tNext) tz D σ H := q_when h (fun z => Bool.noConfusion z) (fun _ => k)
theorem dq_ifF2 (h : EvT t σ H false) (k : ∀ H1, Ex H H1 → tw { D with nx := tz D } σ H1) : tSeq (tIfS t tu tw) tz D σ H := q_if h (fun z => Bool.noConfusion z) (fun _ => k)
end
end Dat

set_option maxRecDepth 100000
set_option maxHeartbeats 4000000
/-! Data over HandS, further: comprehensions, join, slices, lengths, numbers. -/
namespace Dat
open PySem L2 Evl
mutual
/-- no list within -/
def noL : PyData → Bool
  | .list _ => false
  | .dict _ => false
  | .tuple ds => noLs ds
  | _ => true
def noLs : List PyData → Bool
  | [] => true
  | d :: r => noL d && noLs r
end
theorem noLs_mem : ∀ {ds : List PyData}, noLs ds = true → ∀ d ∈ ds, noL d = true
  | [], _, d, h => by cases h
  | e :: r, h, d, hd => by
    have h' : noL e = true ∧ noLs r = true := by simpa [noLs] using h
    rcases List.mem_cons.mp hd with rfl | hd
    · exact h'.1
    · exact noLs_mem h'.2 d hd
theorem noLs_of : ∀ {ds : List PyData}, (∀ d ∈ ds, noL d = true) → noLs ds = true
  | [], _ => rfl
  | e :: r, h => by
    simp [noLs, h e List.mem_cons_self, noLs_of (ds := r) fun d hd => h d (List.mem_cons_of_mem _ hd)]
/-- no tuple, nothing locked -/
def OffT (o : Option HO) : Prop := (∀ xs, o ≠ some (.tup xs)) ∧ ∀ ob u, o ≠ some (.frz ob u)
theorem offT_lst {xs : List V} : OffT (some (.lst xs)) := ⟨fun _ z => (by cases z), fun _ _ z => (by cases z)⟩
section
variable {K : PySem.W.Frag} {H H' : Hp}
theorem btT_t {t a : Addr} {xs : List V} (n : OffT (H t)) (e : Bt t H H') (h : SqT K H a xs) : SqT K H' a xs := by
  rcases h with (h | ⟨o, h⟩) | h
  · exact .inl (.inl (e _ _ (fun z => by subst z; exact n.1 _ h) h))
  · exact .inl (.inr ⟨o, e _ _ (fun z => by subst z; exact n.2 _ _ h) h⟩)
  · exact .inr h
mutual
theorem dp_btT {t : Addr} (n : OffT (H t)) (e : Bt t H H') : ∀ {v : V} {d : PyData}, noL d = true → Dp K H v d → Dp K H' v d
  | _, _, _, .non => .non
  | _, _, _, .bl b => .bl b
  | _, _, _, .int i => .int i
  | _, _, _, .str x => .str x
  | _, _, hd, .lst h a => by simp [noL] at hd
  | _, _, hd, .tup h a => .tup (btT_t n e h) (dpa_btT n e (by simpa [noL] using hd) a)
theorem dpa_btT {t : Addr} (n : OffT (H t)) (e : Bt t H H') : ∀ {vs : List V} {ds : List PyData}, noLs ds = true → DpAll K H vs ds → DpAll K H' vs ds
  | _, _, _, .nil => .nil
  | _ :: _, d :: ds, hd, .cons h t => by
    have h' : noL d = true ∧ noLs ds = true := by simpa [noLs] using hd
    exact .cons (dp_btT n e h'.1 h) (dpa_btT n e h'.2 t)
end
theorem dpa_strs_inv : ∀ {xs : List V} {ys : List Str}, DpAll K H xs (ys.map PyData.str) → xs = ys.map V.str
  | _, [], .nil => rfl
  | _, y :: r, .cons h t => by rw [dp_str h, dpa_strs_inv t]; rfl
theorem dpa_bools_inv : ∀ {xs : List V} {bs : List Bool}, DpAll K H xs (bs.map PyData.bool) → xs = bs.map V.bl
  | _, [], .nil => rfl
  | _, y :: r, .cons h t => by rw [dp_bool h, dpa_bools_inv t]; rfl
end
section
variable {K : PySem.W.Frag} {σ : L2.St} {H H' : Hp} {ta tb te tl : TE} {t u : TT} {tr : TA} {x y z v : V} {d e : PyData} {ds : List PyData}
theorem et_yes : EvT tYes σ H true := fun H1 _ _ q => q H1 (Ex.refl H1)
/-- the turns of a comprehension over xs, which are the data ds in the heap H1 -/
theorem lc_turns {J : It} {G : Hp → Prop} {j D : Addr} {vs : List Nat} {H0 H1 : Hp} {xs : List V} {p : PyData → Bool} {f : PyData → PyData} {Q : VK} (hw : ∀ x, wipe ((wipe σ vs).set j (some x)) vs = wipe σ vs)
    (w : Walk J xs.length G (YAt xs)) (hG : ∀ H', Ex H1 H' → G H') (ks : DpAll K H1 xs ds) (hz : ds.length ≤ 1000) (hD : H1 D = none)
    (ht : ∀ d ∈ ds, ∀ v H', Ex H1 H' → Dp K H' v d → EvT t ((wipe σ vs).set j (some v)) H' (p d))
    (hn : ∀ d ∈ ds, p d = true → noL (f d) = true) (he : ∀ d ∈ ds, p d = true → ∀ v H', Ex H1 H' → Dp K H' v d → EvD K te ((wipe σ vs).set j (some v)) H' (f d))
    (q : ∀ H', Ex H1 H' → Dp K H' (.ref D) (.list ((ds.filter p).map f)) → Q (.ref D) H') :
    ∃ W : Nat → Nat → Hp → Prop, (∃ m, W 0 m (upd H1 D (.lst []))) ∧ ∀ i m H, W i m H →
      (J.stop i H ∧ Q (.ref D) H) ∨ (J.go i H ∧ ∃ Nx : Hp → Prop, (∀ H', Nx H' → ∃ m', m' < m ∧ W (i + 1) m' H') ∧ ∀ x H', J.yld i H x H' → gName j x (wipe σ vs) H' fun σ2 H2 => wipe σ2 vs = wipe σ vs ∧ t σ2 H2 fun b H3 =>
        if b = true then te σ2 H3 fun y H4 => ∃ acc, H4 D = some (.lst acc) ∧ acc.length < sizeLine ∧ Nx (upd H4 D (.lst (acc ++ [y]))) else Nx H3) := by
  refine lc_it w (fun i H' => Ex H1 H' ∧ ∃ acc, H' D = some (.lst acc) ∧ DpAll K H' acc (((ds.take i).filter p).map f) ∧ acc.length ≤ i) ⟨Ex.new hD, [], upd_same, .nil, Nat.zero_le _⟩ (fun i H' _ pv => hG H' pv.1) ?_ ?_
  · rintro i x H' H'' hi ⟨ex, acc, hacc, hda, hal⟩ ⟨rfl, hx⟩
    obtain ⟨d, hd, hxd⟩ := dpa_get' ks hx
    have hmem : d ∈ ds := List.mem_of_getElem? hd
    have hlt : i < ds.length := (List.getElem?_eq_some_iff.mp hd).1
    have htk : ds.take (i + 1) = ds.take i ++ [d] := by rw [List.take_add_one, hd]; rfl
    show wipe ((wipe σ vs).set j (some x)) vs = wipe σ vs ∧ _
    refine ⟨hw x, ?_⟩
    refine ht d hmem x H'' ex (dp_ex ex hxd) H'' (Ex.refl _) _ fun H3 e3 => ?_
    cases hp : p d with
    | true =>
      show te ((wipe σ vs).set j (some x)) H3 _
      refine he d hmem hp x H'' ex (dp_ex ex hxd) H3 e3 _ fun y H4 e4 ky => ?_
      have h4 : H4 D = some (.lst acc) := e4 D _ (e3 D _ hacc)
      have bt : Bt D H4 (upd H4 D (.lst (acc ++ [y]))) := fun b o nb hb => by rw [upd_ne nb]; exact hb
      have off : OffT (H4 D) := by rw [h4]; exact offT_lst
      have hnl : noLs (((ds.take i).filter p).map f) = true := noLs_of fun d' hd' => by
        obtain ⟨d2, hd2, rfl⟩ := List.mem_map.mp hd'
        obtain ⟨h5, h6⟩ := List.mem_filter.mp hd2
        exact hn d2 (List.mem_of_mem_take h5) h6
      refine ⟨acc, h4, sz_lt (by omega), fun b o hb => ?_, acc ++ [y], upd_same, ?_, by rw [List.length_append]; simp; omega⟩
      · rw [upd_ne (ne_of_none hb hD)]
        exact e4 _ _ (e3 _ _ (ex _ _ hb))
      · rw [htk, List.filter_append, List.map_append]
        rw [show ([d].filter p).map f = [f d] by simp [hp]]
        exact dpa_append (dpa_btT off bt hnl (dpa_ex (e3.trans e4) hda)) (.cons (dp_btT off bt (hn d hmem hp) ky) .nil)
    | false =>
      show Ex H1 H3 ∧ _
      refine ⟨ex.trans e3, acc, e3 D _ hacc, ?_, by omega⟩
      rw [htk, List.filter_append, List.map_append]
      rw [show ([d].filter p).map f = [] by simp [hp], List.append_nil]
      exact dpa_ex e3 hda
  · rintro H' ⟨ex, acc, hacc, hda, _⟩
    rw [dpa_len ks, List.take_length] at hda
    exact q H' ex (dp_newL hacc hda)
theorem ed_lcT {j : Nat} {vs : List Nat} {p : PyData → Bool} {f : PyData → PyData} (h : EvD K tl σ H (.tuple ds)) (hz : ds.length ≤ 1000) (hw : ∀ x, wipe ((wipe σ vs).set j (some x)) vs = wipe σ vs)
    (ht : ∀ d ∈ ds, ∀ v H', Ex H H' → Dp K H' v d → EvT t ((wipe σ vs).set j (some v)) H' (p d)) (hn : ∀ d ∈ ds, p d = true → noL (f d) = true)
    (he : ∀ d ∈ ds, p d = true → ∀ v H', Ex H H' → Dp K H' v d → EvD K te ((wipe σ vs).set j (some v)) H' (f d)) : EvD K (tLc (iTup K tl) (gName j) t te vs) σ H (.list ((ds.filter p).map f)) := fun H0 e0 Q q => h H0 e0 _ fun v H1 e1 k => by
  obtain ⟨a, xs, rfl, hx, ks⟩ := dp_tup k
  exact ⟨a, rfl, ⟨xs, hx⟩, fun D hD => lc_turns (K := K) (H0 := H0) hw walk_tup (fun H' e => ex_t e hx) ks hz hD (fun d hd v H' e kd => ht d hd v H' ((e0.trans e1).trans e) kd) hn (fun d hd hp v H' e kd => he d hd hp v H' ((e0.trans e1).trans e) kd)
    fun H' e kd => q _ H' (e1.trans e) kd⟩
theorem ed_lcL {j : Nat} {vs : List Nat} {p : PyData → Bool} {f : PyData → PyData} (h : EvD K tl σ H (.list ds)) (hz : ds.length ≤ 1000) (hw : ∀ x, wipe ((wipe σ vs).set j (some x)) vs = wipe σ vs)
    (ht : ∀ d ∈ ds, ∀ v H', Ex H H' → Dp K H' v d → EvT t ((wipe σ vs).set j (some v)) H' (p d)) (hn : ∀ d ∈ ds, p d = true → noL (f d) = true)
    (he : ∀ d ∈ ds, p d = true → ∀ v H', Ex H H' → Dp K H' v d → EvD K te ((wipe σ vs).set j (some v)) H' (f d)) : EvD K (tLc (iList K tl) (gName j) t te vs) σ H (.list ((ds.filter p).map f)) := fun H0 e0 Q q => h H0 e0 _ fun v H1 e1 k => by
  obtain ⟨a, xs, rfl, hx, ks⟩ := dp_lst k
  exact ⟨a, rfl, ⟨xs, hx⟩, fun D hD => lc_turns (K := K) (H0 := H0) hw walk_list (fun H' e => ex_l e hx) ks hz hD (fun d hd v H' e kd => ht d hd v H' ((e0.trans e1).trans e) kd) hn (fun d hd hp v H' e kd => he d hd hp v H' ((e0.trans e1).trans e) kd)
    fun H' e kd => q _ H' (e1.trans e) kd⟩
/-- over a text, no test -/
theorem ed_lcS {j : Nat} {vs : List Nat} {s : Str} {f : Nat → PyData} (h : EvD K tl σ H (.str s)) (hz : s.cps.size ≤ 1000) (hw : ∀ x, wipe ((wipe σ vs).set j (some x)) vs = wipe σ vs) (hn : ∀ c, noL (f c) = true)
    (he : ∀ c ∈ s.cps.toList, ∀ H', Ex H H' → EvD K te ((wipe σ vs).set j (some (.str ⟨#[c]⟩))) H' (f c)) : EvD K (tLc (iStr tl) (gName j) tYes te vs) σ H (.list (s.cps.toList.map f)) := fun H0 e0 Q q => h H0 e0 _ fun v H1 e1 k => by
  rw [dp_str k]
  refine ⟨s, rfl, fun D hD => lc_it walk_str (fun i H' => Ex H1 H' ∧ ∃ acc, H' D = some (.lst acc) ∧ DpAll K H' acc ((s.cps.toList.take i).map f) ∧ acc.length ≤ i) ⟨Ex.new hD, [], upd_same, .nil, Nat.zero_le _⟩ (fun i H' _ pv => trivial) ?_ ?_⟩
  · rintro i x H' H'' hi ⟨ex, acc, hacc, hda, hal⟩ ⟨rfl, c, hc, rfl⟩
    have hc' : s.cps.toList[i]? = some c := by simpa using hc
    have hmem : c ∈ s.cps.toList := List.mem_of_getElem? hc'
    have htk : s.cps.toList.take (i + 1) = s.cps.toList.take i ++ [c] := by rw [List.take_add_one, hc']; rfl
    show wipe ((wipe σ vs).set j (some (.str ⟨#[c]⟩))) vs = wipe σ vs ∧ te _ H'' _
    refine ⟨hw _, ?_⟩
    refine he c hmem H'' ((e0.trans e1).trans ex) H'' (Ex.refl _) _ fun y H4 e4 ky => ?_
    have h4 : H4 D = some (.lst acc) := e4 D _ hacc
    have bt : Bt D H4 (upd H4 D (.lst (acc ++ [y]))) := fun b o nb hb => by rw [upd_ne nb]; exact hb
    have off : OffT (H4 D) := by rw [h4]; exact offT_lst
    have hnl : noLs ((s.cps.toList.take i).map f) = true := noLs_of fun d' hd' => by
      obtain ⟨d2, hd2, rfl⟩ := List.mem_map.mp hd'
      exact hn d2
    refine ⟨acc, h4, sz_lt (by omega), fun b o hb => ?_, acc ++ [y], upd_same, ?_, by rw [List.length_append]; simp; omega⟩
    · rw [upd_ne (ne_of_none hb hD)]
      exact e4 _ _ (ex _ _ hb)
    · rw [htk, List.map_append]
      exact dpa_append (dpa_btT off bt hnl (dpa_ex e4 hda)) (.cons (dp_btT off bt (hn c) ky) .nil)
  · rintro H' ⟨ex, acc, hacc, hda, _⟩
    have e : s.cps.toList.take s.cps.size = s.cps.toList := List.take_of_length_le (by simp)
    rw [e] at hda
    exact q _ H' (e1.trans ex) (dp_newL hacc hda)
theorem ed_join {a : Str} {ys : List Str} (ha : EvD K ta σ H (.str a)) (hb : EvD K tb σ H (.list (ys.map PyData.str))) (hz : (ys.map (·.length)).sum + ys.length * a.length ≤ 16777216) :
    EvD K (tM1 (fun x xs H Q => ∃ a p, ∃ ys : List Str, x = .str a ∧ xs = [.ref p] ∧ (SqL K H p (ys.map V.str) ∨ SqT K H p (ys.map V.str)) ∧ (ys.map (·.length)).sum + ys.length * a.length ≤ 16777216 ∧ Q (.str (Txt.join a ys)) H) ta tb) σ H (.str (Txt.join a ys)) :=
  fun H1 e1 Q q => ha H1 e1 _ fun x H2 e2 kx => ⟨⟨a, dp_str kx⟩, hb H2 (e1.trans e2) _ fun y H3 e3 ky => by
    obtain ⟨p, xs, rfl, hx, ks⟩ := dp_lst ky
    rw [dpa_strs_inv ks] at hx
    exact ⟨a, p, ys, dp_str kx, rfl, .inl hx, hz, q _ H3 (e2.trans e3) (.str _)⟩⟩
theorem ed_slS {s : Str} {lo hi : Option Int} {tlo thi : TO} (h : EvD K te σ H (.str s)) (h1 : EvO tlo σ H lo) (h2 : EvO thi σ H hi) (hz : s.length ≤ 100000) : EvD K (tSl rSlS te tlo thi) σ H (.str (cutS s lo hi)) := fun H1 e Q q =>
  h H1 e _ fun v H2 e2 k => h1 H2 (e.trans e2) _ fun H3 e3 => h2 H3 ((e.trans e2).trans e3) _ fun H4 e4 => ⟨s, dp_str k, sz_of hz, q _ H4 ((e2.trans e3).trans e4) (.str _)⟩
theorem eo_d {i : Int} (h : EvD K te σ H (.int i)) : EvO (tPart te) σ H (some i) := eo_some (ev_edI h)
theorem ed_cb {r : List V → Hp → VK → Prop} {f : PyData} (h : EvDA K tr σ H ds) (hr : ∀ H1 vs, Ex H H1 → DpAll K H1 vs ds → ∀ Q : VK, (∀ v H2, Ex H1 H2 → Dp K H2 v f → Q v H2) → r vs H1 Q) : EvD K (tCB r tr) σ H f := fun H1 e1 Q q =>
  h H1 e1 _ fun vs H2 e2 ks => hr H2 vs (e1.trans e2) ks Q fun v H3 e3 k => q v H3 (e2.trans e3) k
theorem ed_lenS {s : Str} (h : EvD K te σ H (.str s)) (hz : s.length ≤ 100000) : EvD K (tCB (fun xs H Q => ∃ x n, xs = [x] ∧ LenV K x H n ∧ Q (.int n) H) (tCons te tNil)) σ H (.int s.length) := ed_cb (eda_cons h eda_nil) fun H1 vs _ ks Q q => by
  cases ks with
  | cons h t =>
    cases t
    rw [dp_str h]
    exact ⟨_, s.length, rfl, ⟨sz_of hz, rfl⟩, q _ H1 (Ex.refl _) (.int _)⟩
theorem ed_lenL (h : EvD K te σ H (.list ds)) : EvD K (tCB (fun xs H Q => ∃ x n, xs = [x] ∧ LenV K x H n ∧ Q (.int n) H) (tCons te tNil)) σ H (.int ds.length) := ed_cb (eda_cons h eda_nil) fun H1 vs _ ks Q q => by
  cases ks with
  | cons h t =>
    cases t
    obtain ⟨a, xs, rfl, hx, ks⟩ := dp_lst h
    exact ⟨_, ds.length, rfl, .inl ⟨xs, hx, (dpa_len ks).symm⟩, q _ H1 (Ex.refl _) (.int _)⟩
theorem ed_lenT (h : EvD K te σ H (.tuple ds)) : EvD K (tCB (fun xs H Q => ∃ x n, xs = [x] ∧ LenV K x H n ∧ Q (.int n) H) (tCons te tNil)) σ H (.int ds.length) := ed_cb (eda_cons h eda_nil) fun H1 vs _ ks Q q => by
  cases ks with
  | cons h t =>
    cases t
    obtain ⟨a, xs, rfl, hx, ks⟩ := dp_tup h
    exact ⟨_, ds.length, rfl, .inr ⟨xs, hx, (dpa_len ks).symm⟩, q _ H1 (Ex.refl _) (.int _)⟩
theorem ed_all {bs : List Bool} (h : EvD K te σ H (.list (bs.map PyData.bool))) : EvD K (tCB (rAll K) (tCons te tNil)) σ H (.bool (bs.all id)) := ed_cb (eda_cons h eda_nil) fun H1 vs _ ks Q q => by
  cases ks with
  | cons h t =>
    cases t
    obtain ⟨a, xs, rfl, hx, ks⟩ := dp_lst h
    rw [dpa_bools_inv ks] at hx
    exact ⟨a, bs, rfl, hx, q _ H1 (Ex.refl _) (.bl _)⟩
theorem ed_any {bs : List Bool} (h : EvD K te σ H (.list (bs.map PyData.bool))) : EvD K (tCB (rAny K) (tCons te tNil)) σ H (.bool (bs.any id)) := ed_cb (eda_cons h eda_nil) fun H1 vs _ ks Q q => by
  cases ks with
  | cons h t =>
    cases t
    obtain ⟨a, xs, rfl, hx, ks⟩ := dp_lst h
    rw [dpa_bools_inv ks] at hx
    exact ⟨a, bs, rfl, hx, q _ H1 (Ex.refl _) (.bl _)⟩
/-- tuple(a list) -/
theorem ed_tupOf (h : EvD K te σ H (.list ds)) : EvD K (tCB (fun xs H Q => ∃ p ys, xs = [.ref p] ∧ ((SqL K H p ys ∧ ∀ l, H l = none → Q (.ref l) (upd H l (.tup ys))) ∨ (SqT K H p ys ∧ Q (.ref p) H))) (tCons te tNil)) σ H (.tuple ds) := ed_cb (eda_cons h eda_nil) fun H1 vs _ ks Q q => by
  cases ks with
  | cons h t =>
    cases t
    obtain ⟨a, xs, rfl, hx, ks⟩ := dp_lst h
    exact ⟨a, xs, rfl, .inl ⟨hx, fun l hl => q _ _ (Ex.new hl) (dp_newT upd_same (dpa_ex (Ex.new hl) ks))⟩⟩
/-! ### numbers, texts -/
theorem ed_I0 {g : Int → Int → Int} {i j : Int} (ha : EvD K ta σ H (.int i)) (hb : EvD K tb σ H (.int j)) : EvD K (tOp (rI0 fun i j => .int (g i j)) ta tb) σ H (.int (g i j)) := ed_op2 ha hb fun H1 x y _ kx ky Q q => by
  rw [dp_int kx, dp_int ky]
  exact ⟨i, j, rfl, rfl, q _ H1 (Ex.refl _) (.int _)⟩
theorem ed_B0 {g : Int → Int → Bool} {i j : Int} (ha : EvD K ta σ H (.int i)) (hb : EvD K tb σ H (.int j)) : EvD K (tOp (rI0 fun i j => .bl (g i j)) ta tb) σ H (.bool (g i j)) := ed_op2 ha hb fun H1 x y _ kx ky Q q => by
  rw [dp_int kx, dp_int ky]
  exact ⟨i, j, rfl, rfl, q _ H1 (Ex.refl _) (.bl _)⟩
theorem ed_eqS {a b : Str} (ha : EvD K ta σ H (.str a)) (hb : EvD K tb σ H (.str b)) : EvD K (tOp rEq ta tb) σ H (.bool (decide (a = b))) := ed_op2 ha hb fun H1 x y _ kx ky Q q => by
  rw [dp_str kx, dp_str ky]
  refine ⟨rfl, q _ H1 (Ex.refl _) ?_⟩
  have e : decide (V.str a = V.str b) = decide (a = b) := by
    by_cases h : a = b
    · simp [h]
    · simp [h]
  rw [e]
  exact .bl _
theorem ed_neS {a b : Str} (ha : EvD K ta σ H (.str a)) (hb : EvD K tb σ H (.str b)) : EvD K (tOp rNe ta tb) σ H (.bool (!decide (a = b))) := ed_op2 ha hb fun H1 x y _ kx ky Q q => by
  rw [dp_str kx, dp_str ky]
  refine ⟨rfl, q _ H1 (Ex.refl _) ?_⟩
  have e : decide (V.str a = V.str b) = decide (a = b) := by
    by_cases h : a = b
    · simp [h]
    · simp [h]
  rw [e]
  exact .bl _
theorem ed_eqI {a b : Int} (ha : EvD K ta σ H (.int a)) (hb : EvD K tb σ H (.int b)) : EvD K (tOp rEq ta tb) σ H (.bool (decide (a = b))) := ed_op2 ha hb fun H1 x y _ kx ky Q q => by
  rw [dp_int kx, dp_int ky]
  refine ⟨rfl, q _ H1 (Ex.refl _) ?_⟩
  have e : decide (V.int a = V.int b) = decide (a = b) := by
    by_cases h : a = b
    · simp [h]
    · simp [h]
  rw [e]
  exact .bl _
theorem ed_inSign {c : Nat} {s : Str} (ha : EvD K ta σ H (.str ⟨#[c]⟩)) (hb : EvD K tb σ H (.str s)) : EvD K (tOp (fun x y H Q => ∃ (c : Nat) (z : Str), x = .str ⟨#[c]⟩ ∧ y = .str z ∧ Q (.bl (decide (c ∈ z.cps.toList))) H) ta tb) σ H (.bool (decide (c ∈ s.cps.toList))) := ed_op2 ha hb fun H1 x y _ kx ky Q q => by
  rw [dp_str kx, dp_str ky]
  exact ⟨c, s, rfl, rfl, q _ H1 (Ex.refl _) (.bl _)⟩
/-- a text in a tuple, a list of texts -/
theorem inV_strs (a : Str) (ss : List Str) : inV (V.str a) (ss.map V.str) = ss.any fun y => y == a := by
  unfold inV
  rw [List.any_map]
  rfl
theorem flat_strs (ss : List Str) : (ss.map V.str).all flatV = true := by
  rw [List.all_map]
  simp [Function.comp_def, flatV]
theorem ed_inStrsT {neg : Bool} {a : Str} {ss : List Str} (ha : EvD K ta σ H (.str a)) (hb : EvD K tb σ H (.tuple (ss.map PyData.str))) : EvD K (tOp (rIn K neg) ta tb) σ H (.bool (if neg then !(ss.any fun y => y == a) else ss.any fun y => y == a)) := ed_op2 ha hb fun H1 x y _ kx ky Q q => by
  obtain ⟨p, xs, rfl, hx, ks⟩ := dp_tup ky
  rw [dpa_strs_inv ks] at hx
  rw [dp_str kx]
  refine ⟨p, _, rfl, .inr hx, rfl, flat_strs ss, ?_⟩
  rw [inV_strs]
  exact q _ H1 (Ex.refl _) (.bl _)
theorem ed_inStrsL {neg : Bool} {a : Str} {ss : List Str} (ha : EvD K ta σ H (.str a)) (hb : EvD K tb σ H (.list (ss.map PyData.str))) : EvD K (tOp (rIn K neg) ta tb) σ H (.bool (if neg then !(ss.any fun y => y == a) else ss.any fun y => y == a)) := ed_op2 ha hb fun H1 x y _ kx ky Q q => by
  obtain ⟨p, xs, rfl, hx, ks⟩ := dp_lst ky
  rw [dpa_strs_inv ks] at hx
  rw [dp_str kx]
  refine ⟨p, _, rfl, .inl hx, rfl, flat_strs ss, ?_⟩
  rw [inV_strs]
  exact q _ H1 (Ex.refl _) (.bl _)
/-! ### tests, by the value that is told -/
theorem te_eq {b : Bool} (ha : EvD K ta σ H d) (hb : EvD K tb σ H e) (sd : SeqAt.shaped d = true) (se : SeqAt.shaped e = true) (h : PyData.eqv d e = b) : EvD K (tOp (rEqD K) ta tb) σ H (.bool b) := h ▸ ed_eq ha hb sd se
theorem te_ne {b : Bool} (ha : EvD K ta σ H d) (hb : EvD K tb σ H e) (sd : SeqAt.shaped d = true) (se : SeqAt.shaped e = true) (h : PyData.eqv d e = !b) : EvD K (tOp (rNeD K) ta tb) σ H (.bool b) := by
  have q := ed_ne ha hb sd se
  rw [h, Bool.not_not] at q
  exact q
theorem te_inT {neg b : Bool} (ha : EvD K ta σ H d) (hb : EvD K tb σ H (.tuple ds)) (sd : SeqAt.shaped d = true) (se : SeqAt.shaped (.tuple ds) = true) (h : (if neg then !(ds.any fun z => PyData.eqv z d) else ds.any fun z => PyData.eqv z d) = b) : EvD K (tOp (rInT K neg) ta tb) σ H (.bool b) := h ▸ ed_inT ha hb sd se
end
end Dat

set_option maxRecDepth 100000
set_option maxHeartbeats 4000000
/-! Data over HandS: dict displays and what is read of them. -/
namespace Dat
open PySem L2 Evl
section
variable {K : PySem.W.Frag} {σ : L2.St} {H H' : Hp} {ta tb te tl td ty : TE} {t u : TT} {v : V} {d e : PyData}
theorem valV_none_any {kvs : List (Key × V)} {k : Key} (h : ∀ p ∈ kvs, p.1 ≠ k) : (kvs.any fun kv => decide (kv.1 = k)) = false := by
  rw [List.any_eq_false]
  intro p hp
  simp [h p hp]
theorem putK_new {kvs : List (Key × V)} {k : Key} {v : V} (h : ∀ p ∈ kvs, p.1 ≠ k) : putK kvs k v = kvs ++ [(k, v)] := by
  unfold putK
  rw [if_neg (by rw [valV_none_any h]; decide)]
theorem merge_app : ∀ (more acc : List (Key × V)), ((acc ++ more).map (·.1)).Nodup → mergeK acc more = acc ++ more
  | [], acc, _ => (List.append_nil acc).symm
  | (k, v) :: r, acc, h => by
    have e : acc ++ (k, v) :: r = (acc ++ [(k, v)]) ++ r := by simp
    show mergeK (putK acc k v) r = _
    rw [putK_new (fun p hp q => ?_), e]
    · exact merge_app r _ (by rw [← e]; exact h)
    · rw [List.map_append, List.nodup_append] at h
      exact h.2.2 p.1 (List.mem_map_of_mem hp) k (by simp) q
theorem merge_nil {kvs : List (Key × V)} (h : (kvs.map (·.1)).Nodup) : mergeK [] kvs = kvs := (merge_app kvs [] h).trans rfl
/-- a new dict -/
def EvK (te : TE) (σ : L2.St) (H : Hp) (kvs : List (Key × V)) : Prop := ∀ H1, Ex H H1 → ∀ Q : VK, (∀ p H2, H1 p = none → Ex H1 H2 → H2 p = some (.dK kvs) → Q (.ref p) H2) → te σ H1 Q
def EvPs (σ : L2.St) (H : Hp) : List (TE × TE) → List (Key × V) → Prop
  | [], [] => True
  | (tk, tv) :: r, (k, v) :: s => Ev tk σ H (kV k) ∧ Ev tv σ H v ∧ EvPs σ H r s
  | _, _ => False
theorem pairs_run : ∀ {trs : List (TE × TE)} {kvs : List (Key × V)}, EvPs σ H trs kvs → ∀ H1, Ex H H1 → ∀ Q : List (V × V) → Hp → Prop, (∀ H2, Ex H1 H2 → Q (kvs.map fun kv => (kV kv.1, kv.2)) H2) → tPairs trs σ H1 Q
  | [], [], _, H1, _, Q, q => q H1 (Ex.refl H1)
  | [], _ :: _, h, _, _, _, _ => h.elim
  | _ :: _, [], h, _, _, _, _ => h.elim
  | (tk, tv) :: r, (k, v) :: s, h, H1, e1, Q, q => h.1 H1 e1 _ fun H2 e2 => h.2.1 H2 (e1.trans e2) _ fun H3 e3 => pairs_run h.2.2 H3 ((e1.trans e2).trans e3) _ fun H4 e4 => q H4 ((e2.trans e3).trans e4)
theorem ek_disp {trs : List (TE × TE)} {kvs : List (Key × V)} (h : EvPs σ H trs kvs) (hl : kvs.length ≤ 15) (hn : (kvs.map (·.1)).Nodup) : EvK (tDisp trs) σ H kvs := fun H1 e1 Q q p hp =>
  pairs_run h (upd H1 p (.dK [])) (e1.trans (Ex.new hp)) _ fun H2 e2 => ⟨e2 p _ upd_same, kvs, rfl, hl, by
    rw [merge_nil hn]
    exact q p _ hp (Ex.mut ((Ex.new hp).trans e2) hp) upd_same⟩
theorem ev_dget {kvs : List (Key × V)} {k : Key} (h : EvK td σ H kvs) (hi : Ev ty σ H (kV k)) (hv : valV kvs k = some v) : Ev (tDGet td ty) σ H v := fun H1 e1 Q q =>
  h H1 e1 _ fun p H2 hp e2 h2 => hi H2 (e1.trans e2) _ fun H3 e3 => ⟨p, v, rfl, by rw [← hv]; exact .inl ⟨kvs, k, .inl (e3 p _ h2), rfl, rfl⟩, q H3 (e2.trans e3)⟩
/-- d[k], d a dict that stands -/
theorem ev_dgetA {a : Addr} {kvs : List (Key × V)} {k : Key} (h : Ev td σ H (.ref a)) (hd : Rd H a (.dK kvs)) (hi : Ev ty σ H (kV k)) (hv : valV kvs k = some v) : Ev (tDGet td ty) σ H v := fun H1 e1 Q q =>
  h H1 e1 _ fun H2 e2 => hi H2 (e1.trans e2) _ fun H3 e3 => ⟨a, v, rfl, by rw [← hv]; exact .inl ⟨kvs, k, ex_rd ((e1.trans e2).trans e3) hd, rfl, rfl⟩, q H3 (e2.trans e3)⟩
/-- d.get(k) -/
theorem ev_dget1A {a : Addr} {kvs : List (Key × V)} {k : Key} (h : Ev td σ H (.ref a)) (hd : Rd H a (.dK kvs)) (hi : Ev ty σ H (kV k)) : Ev (tDGet1 td ty) σ H ((valV kvs k).getD .non) := fun H1 e1 Q q =>
  h H1 e1 _ fun H2 e2 => ⟨a, rfl, .inl ⟨kvs, ex_rd (e1.trans e2) hd⟩, hi H2 (e1.trans e2) _ fun H3 e3 => ⟨_, .inl ⟨kvs, k, ex_rd ((e1.trans e2).trans e3) hd, rfl, rfl⟩, q H3 (e2.trans e3)⟩⟩
end
end Dat

set_option maxRecDepth 100000
set_option maxHeartbeats 4000000
/-! law_k01: the mathematics, no program in sight: kinds, their texts, reading them, lines of classes, being below, joins. -/
namespace K01
open PySem L2

inductive Kd where
  | int | void | null | unset
  | cls (n : Str) | arr (k : Kd) | chan (k : Kd) | weak (k : Kd)
  | fn (ps : List Kd) (r : Kd)
  | fresh (n : Str) (i : Int)

mutual
def Kd.d : Kd → PyData
  | .int => .str "int"
  | .void => .str "void"
  | .null => .str "null"
  | .unset => .str "unset"
  | .cls n => .tuple [.str "class", .str n]
  | .arr k => .tuple [.str "array", k.d]
  | .chan k => .tuple [.str "channel", k.d]
  | .weak k => .tuple [.str "weak", k.d]
  | .fn ps r => .tuple [.str "func", .tuple (Kd.dAll ps), r.d]
  | .fresh n i => .tuple [.str "fresh", .str n, .int i]
def Kd.dAll : List Kd → List PyData
  | [] => []
  | k :: r => k.d :: Kd.dAll r
end
theorem dAll_map : ∀ ks : List Kd, Kd.dAll ks = ks.map Kd.d
  | [] => rfl
  | k :: r => by show k.d :: Kd.dAll r = _; rw [dAll_map r]; rfl
mutual
def Kd.beq : Kd → Kd → Bool
  | .int, .int => true
  | .void, .void => true
  | .null, .null => true
  | .unset, .unset => true
  | .cls a, .cls b => a == b
  | .arr a, .arr b => Kd.beq a b
  | .chan a, .chan b => Kd.beq a b
  | .weak a, .weak b => Kd.beq a b
  | .fn p r, .fn q s => Kd.beqAll p q && Kd.beq r s
  | .fresh a i, .fresh b j => a == b && i == j
  | _, _ => false
def Kd.beqAll : List Kd → List Kd → Bool
  | [], [] => true
  | a :: r, b :: s => Kd.beq a b && Kd.beqAll r s
  | _, _ => false
end
mutual
theorem beq_of : ∀ {a b : Kd}, Kd.beq a b = true → a = b
  | .int, b, h => by cases b <;> simp_all [Kd.beq]
  | .void, b, h => by cases b <;> simp_all [Kd.beq]
  | .null, b, h => by cases b <;> simp_all [Kd.beq]
  | .unset, b, h => by cases b <;> simp_all [Kd.beq]
  | .cls n, b, h => by cases b <;> simp_all [Kd.beq]
  | .fresh n i, b, h => by cases b <;> simp_all [Kd.beq]
  | .arr k, b, h => by
    cases b with
    | arr k' => rw [beq_of (a := k) (b := k') (by simpa [Kd.beq] using h)]
    | _ => simp [Kd.beq] at h
  | .chan k, b, h => by
    cases b with
    | chan k' => rw [beq_of (a := k) (b := k') (by simpa [Kd.beq] using h)]
    | _ => simp [Kd.beq] at h
  | .weak k, b, h => by
    cases b with
    | weak k' => rw [beq_of (a := k) (b := k') (by simpa [Kd.beq] using h)]
    | _ => simp [Kd.beq] at h
  | .fn ps r, b, h => by
    cases b with
    | fn qs s =>
      have h' : Kd.beqAll ps qs = true ∧ Kd.beq r s = true := by simpa [Kd.beq] using h
      rw [beqAll_of h'.1, beq_of h'.2]
    | _ => simp [Kd.beq] at h
theorem beqAll_of : ∀ {a b : List Kd}, Kd.beqAll a b = true → a = b
  | [], b, h => by cases b <;> simp_all [Kd.beqAll]
  | k :: r, b, h => by
    cases b with
    | nil => simp [Kd.beqAll] at h
    | cons k' r' =>
      have h' : Kd.beq k k' = true ∧ Kd.beqAll r r' = true := by simpa [Kd.beqAll] using h
      rw [beq_of h'.1, beqAll_of h'.2]
end
mutual
theorem beq_refl : ∀ a : Kd, Kd.beq a a = true
  | .int => rfl
  | .void => rfl
  | .null => rfl
  | .unset => rfl
  | .cls n => by simp [Kd.beq]
  | .fresh n i => by simp [Kd.beq]
  | .arr k => by simpa [Kd.beq] using beq_refl k
  | .chan k => by simpa [Kd.beq] using beq_refl k
  | .weak k => by simpa [Kd.beq] using beq_refl k
  | .fn ps r => by simp [Kd.beq, beqAll_refl ps, beq_refl r]
theorem beqAll_refl : ∀ a : List Kd, Kd.beqAll a a = true
  | [] => rfl
  | k :: r => by simp [Kd.beqAll, beq_refl k, beqAll_refl r]
end
instance : DecidableEq Kd := fun a b => if h : Kd.beq a b = true then isTrue (beq_of h) else isFalse fun e => h (by rw [e]; exact beq_refl b)
theorem beq_dec (a b : Kd) : Kd.beq a b = decide (a = b) := by
  by_cases h : a = b
  · subst h; simp [beq_refl]
  · rw [decide_eq_false h]
    cases e : Kd.beq a b with
    | false => rfl
    | true => exact absurd (beq_of e) h
mutual
theorem eqv_beq : ∀ a b : Kd, PyData.eqv a.d b.d = Kd.beq a b
  | .int, b => by cases b <;> simp only [Kd.d, PyData.eqv, Kd.beq] <;> first | rfl | decide +kernel
  | .void, b => by cases b <;> simp only [Kd.d, PyData.eqv, Kd.beq] <;> first | rfl | decide +kernel
  | .null, b => by cases b <;> simp only [Kd.d, PyData.eqv, Kd.beq] <;> first | rfl | decide +kernel
  | .unset, b => by cases b <;> simp only [Kd.d, PyData.eqv, Kd.beq] <;> first | rfl | decide +kernel
  | .cls n, b => by
    cases b <;> simp only [Kd.d, PyData.eqv, PyData.eqvAll, Kd.beq]
    all_goals first
      | rfl
      | (rw [show (("class" : Str) == "class") = true by decide +kernel]; simp)
      | (rw [show (("class" : Str) == "array") = false by decide +kernel]; rfl)
      | (rw [show (("class" : Str) == "channel") = false by decide +kernel]; rfl)
      | (rw [show (("class" : Str) == "weak") = false by decide +kernel]; rfl)
      | (rw [show (("class" : Str) == "func") = false by decide +kernel]; rfl)
      | (rw [show (("class" : Str) == "fresh") = false by decide +kernel]; rfl)
  | .fresh n i, b => by
    cases b <;> simp only [Kd.d, PyData.eqv, PyData.eqvAll, Kd.beq]
    all_goals first
      | rfl
      | (rw [show (("fresh" : Str) == "fresh") = true by decide +kernel]; simp)
      | (rw [show (("fresh" : Str) == "array") = false by decide +kernel]; rfl)
      | (rw [show (("fresh" : Str) == "channel") = false by decide +kernel]; rfl)
      | (rw [show (("fresh" : Str) == "weak") = false by decide +kernel]; rfl)
      | (rw [show (("fresh" : Str) == "func") = false by decide +kernel]; rfl)
      | (rw [show (("fresh" : Str) == "class") = false by decide +kernel]; rfl)
  | .arr k, b => by
    cases b with
    | arr k' =>
      simp only [Kd.d, PyData.eqv, PyData.eqvAll, Kd.beq]
      rw [show (("array" : Str) == "array") = true by decide +kernel, eqv_beq k k']
      simp
    | _ =>
      simp only [Kd.d, PyData.eqv, PyData.eqvAll, Kd.beq] <;> first
      | rfl
      | (rw [show (("array" : Str) == "class") = false by decide +kernel]; rfl)
      | (rw [show (("array" : Str) == "channel") = false by decide +kernel]; rfl)
      | (rw [show (("array" : Str) == "weak") = false by decide +kernel]; rfl)
      | (rw [show (("array" : Str) == "func") = false by decide +kernel]; rfl)
      | (rw [show (("array" : Str) == "fresh") = false by decide +kernel]; rfl)
  | .chan k, b => by
    cases b with
    | chan k' =>
      simp only [Kd.d, PyData.eqv, PyData.eqvAll, Kd.beq]
      rw [show (("channel" : Str) == "channel") = true by decide +kernel, eqv_beq k k']
      simp
    | _ =>
      simp only [Kd.d, PyData.eqv, PyData.eqvAll, Kd.beq] <;> first
      | rfl
      | (rw [show (("channel" : Str) == "class") = false by decide +kernel]; rfl)
      | (rw [show (("channel" : Str) == "array") = false by decide +kernel]; rfl)
      | (rw [show (("channel" : Str) == "weak") = false by decide +kernel]; rfl)
      | (rw [show (("channel" : Str) == "func") = false by decide +kernel]; rfl)
      | (rw [show (("channel" : Str) == "fresh") = false by decide +kernel]; rfl)
  | .weak k, b => by
    cases b with
    | weak k' =>
      simp only [Kd.d, PyData.eqv, PyData.eqvAll, Kd.beq]
      rw [show (("weak" : Str) == "weak") = true by decide +kernel, eqv_beq k k']
      simp
    | _ =>
      simp only [Kd.d, PyData.eqv, PyData.eqvAll, Kd.beq] <;> first
      | rfl
      | (rw [show (("weak" : Str) == "class") = false by decide +kernel]; rfl)
      | (rw [show (("weak" : Str) == "array") = false by decide +kernel]; rfl)
      | (rw [show (("weak" : Str) == "channel") = false by decide +kernel]; rfl)
      | (rw [show (("weak" : Str) == "func") = false by decide +kernel]; rfl)
      | (rw [show (("weak" : Str) == "fresh") = false by decide +kernel]; rfl)
  | .fn ps r, b => by
    cases b with
    | fn qs s =>
      simp only [Kd.d, PyData.eqv, PyData.eqvAll, Kd.beq]
      rw [show (("func" : Str) == "func") = true by decide +kernel, eqv_beqAll ps qs, eqv_beq r s]
      simp
    | _ =>
      simp only [Kd.d, PyData.eqv, PyData.eqvAll, Kd.beq] <;> first
      | rfl
      | (rw [show (("func" : Str) == "class") = false by decide +kernel]; rfl)
      | (rw [show (("func" : Str) == "array") = false by decide +kernel]; rfl)
      | (rw [show (("func" : Str) == "channel") = false by decide +kernel]; rfl)
      | (rw [show (("func" : Str) == "weak") = false by decide +kernel]; rfl)
      | (rw [show (("func" : Str) == "fresh") = false by decide +kernel]; rfl)
theorem eqv_beqAll : ∀ a b : List Kd, PyData.eqvAll (Kd.dAll a) (Kd.dAll b) = Kd.beqAll a b
  | [], b => by cases b <;> simp only [Kd.dAll, PyData.eqvAll, Kd.beqAll]
  | k :: r, b => by
    cases b with
    | nil => simp only [Kd.dAll, PyData.eqvAll, Kd.beqAll]
    | cons k' r' =>
      simp only [Kd.dAll, PyData.eqvAll, Kd.beqAll]
      rw [eqv_beq k k', eqv_beqAll r r']
end
/-- == of kinds as data is equality -/
theorem eqv_kd (a b : Kd) : PyData.eqv a.d b.d = decide (a = b) := (eqv_beq a b).trans (beq_dec a b)
end K01

set_option maxRecDepth 100000
set_option maxHeartbeats 4000000
/-! Kinds as texts (lists of code points), and reading them. -/
namespace K01
open PySem L2 TL

def cs (s : String) : List Nat := (Str.ofString s).cps.toList
def letters : List Nat := cs "abcdefghijklmnopqrstuvwxyzABCDEFGHIJKLMNOPQRSTUVWXYZ"
def wch : List Nat := cs "abcdefghijklmnopqrstuvwxyzABCDEFGHIJKLMNOPQRSTUVWXYZ0123456789_"
def isW (c : Nat) : Bool := decide (c ∈ wch)
mutual
def Kd.wr : Kd → List Nat
  | .int => cs "int"
  | .void => cs "void"
  | .null => cs "null"
  | .unset => cs "unset"
  | .cls n => n.cps.toList
  | .arr k => 91 :: (k.wr ++ [93])
  | .chan k => 60 :: (k.wr ++ [62])
  | .weak k => 63 :: k.wr
  | .fn ps r => 40 :: (joinL [44] (Kd.wrAll ps) ++ 41 :: r.wr)
  | .fresh n i => []
def Kd.wrAll : List Kd → List (List Nat)
  | [] => []
  | k :: r => k.wr :: Kd.wrAll r
end
theorem wrAll_map : ∀ ks : List Kd, Kd.wrAll ks = ks.map Kd.wr
  | [] => rfl
  | k :: r => by show k.wr :: Kd.wrAll r = _; rw [wrAll_map r]; rfl

/-- is_name -/
def isName (w : List Nat) : Bool := match w with
  | [] => false
  | c :: r => decide (c ∈ letters) && (c :: r).all isW
/-- the word that s begins with -/
def word (s : List Nat) : List Nat := s.takeWhile isW
abbrev Rs := Option (Option (Kd × Nat))
def wordKd (w : List Nat) : Option Kd :=
  if w = cs "int" then some .int else if w = cs "void" then some .void
  else if isName w = false ∨ w = cs "null" ∨ w = cs "unset" ∨ w = cs "fresh" then none else some (.cls ⟨w.toArray⟩)
/-- the params of a function's kind behind its bracket: f reads one; c codes are behind us -/
def pars (f : List Nat → Rs) : Nat → List Nat → Nat → List Kd → Option (Option (List Kd × Nat))
  | 0, _, _, _ => none
  | m + 1, s, c, acc => match f s with
    | none => none
    | some none => some none
    | some (some (k, n)) => if k = .void then some none
      else if (s.drop n).take 1 = [41] then some (some (acc ++ [k], c + n + 1))
      else if (s.drop n).take 1 ≠ [44] then some none
      else pars f m (s.drop (n + 1)) (c + n + 1) (acc ++ [k])
/-- func_at: s begins with its bracket -/
def funcAt (f : List Nat → Rs) (s : List Nat) : Rs :=
  match (if (s.drop 1).take 1 = [41] then some (some ([], 2)) else pars f s.length (s.drop 1) 1 []) with
  | none => none
  | some none => some none
  | some (some (ps, c)) => match f (s.drop c) with
    | none => none
    | some none => some none
    | some (some (r, n)) => some (some (.fn ps r, c + n))
def bra (f : List Nat → Rs) (close : Nat) (mk : Kd → Kd) (s : List Nat) : Rs := match f (s.drop 1) with
  | none => none
  | some none => some none
  | some (some (k, n)) => if k = .void ∨ (s.drop (1 + n)).take 1 ≠ [close] then some none else some (some (mk k, 1 + n + 1))
def Kd.isCls : Kd → Bool
  | .cls _ => true
  | _ => false
def weakAt (f : List Nat → Rs) (s : List Nat) : Rs := match f (s.drop 1) with
  | none => none
  | some none => some none
  | some (some (k, n)) => if k.isCls then some (some (.weak k, 1 + n)) else some none
/-- type_at, at most n deep, on the text from its place on: the kind and how many codes it takes -/
def typeAt : Nat → List Nat → Rs
  | 0, _ => none
  | n + 1, s =>
    if s.take 1 = [91] then bra (typeAt n) 93 .arr s
    else if s.take 1 = [60] then bra (typeAt n) 62 .chan s
    else if s.take 1 = [63] then weakAt (typeAt n) s
    else if s.take 1 = [40] then funcAt (typeAt n) s
    else match wordKd (word s) with
      | none => some none
      | some k => some (some (k, (word s).length))
def readType (n : Nat) (s : List Nat) : Option (Option Kd) := match typeAt n s with
  | none => none
  | some none => some none
  | some (some (k, c)) => if c < s.length ∨ k = .void then some none else some (some k)

/-! ### what is written is read -/
def goodN (n : Str) : Bool := isName n.cps.toList && !(n.cps.toList = cs "int" || n.cps.toList = cs "void" || n.cps.toList = cs "null" || n.cps.toList = cs "unset" || n.cps.toList = cs "fresh")
mutual
/-- kinds that are written and read, n deep -/
def ok : Nat → Kd → Bool
  | _, .int => true
  | _, .cls n => goodN n
  | n + 1, .arr k => ok n k
  | n + 1, .chan k => ok n k
  | n + 1, .weak k => k.isCls && ok n k
  | n + 1, .fn ps r => okAll n ps && (r.beq .void || ok n r)
  | _, _ => false
def okAll : Nat → List Kd → Bool
  | _, [] => true
  | n, k :: r => ok n k && okAll n r
end
/-- s does not go on with a sign of a word -/
def stopW (s : List Nat) : Bool := match s with
  | [] => true
  | c :: _ => !isW c
theorem word_app {w post : List Nat} (h : w.all isW = true) (hs : stopW post = true) : word (w ++ post) = w := by
  unfold word
  induction w with
  | nil =>
    cases post with
    | nil => rfl
    | cons c r =>
      have e : isW c = false := by simpa [stopW] using hs
      simp [List.takeWhile, e]
  | cons c r ih =>
    have h' : isW c = true ∧ r.all isW = true := by simpa using h
    simp only [List.cons_append, List.takeWhile, h'.1, ih h'.2]
theorem isName_all {w : List Nat} (h : isName w = true) : w.all isW = true := by
  cases w with
  | nil => rfl
  | cons c r =>
    simp only [isName, Bool.and_eq_true] at h
    exact h.2
theorem isName_head {w : List Nat} (h : isName w = true) : ∃ c r, w = c :: r ∧ c ∈ letters := by
  cases w with
  | nil => simp [isName] at h
  | cons c r =>
    simp only [isName, Bool.and_eq_true, decide_eq_true_eq] at h
    exact ⟨c, r, rfl, h.1⟩
theorem letters_not {c : Nat} (h : c ∈ letters) : c ≠ 91 ∧ c ≠ 60 ∧ c ≠ 63 ∧ c ≠ 40 ∧ c ≠ 41 := by
  have q : ∀ c ∈ letters, c ≠ 91 ∧ c ≠ 60 ∧ c ≠ 63 ∧ c ≠ 40 ∧ c ≠ 41 := by decide +kernel
  exact q c h
theorem int_name : isName (cs "int") = true := by decide +kernel
theorem void_name : isName (cs "void") = true := by decide +kernel
/-- a word is read -/
theorem typeAt_word {n : Nat} {w post : List Nat} (hn : isName w = true) (hs : stopW post = true) {k : Kd} (hk : wordKd w = some k) : typeAt (n + 1) (w ++ post) = some (some (k, w.length)) := by
  obtain ⟨c, r, rfl, hc⟩ := isName_head hn
  obtain ⟨h1, h2, h3, h4, _⟩ := letters_not hc
  have ew := word_app (isName_all hn) hs
  unfold typeAt
  rw [ew, hk]
  simp [h1, h2, h3, h4]
theorem int_kd : wordKd (cs "int") = some .int := by unfold wordKd; rw [if_pos rfl]
theorem void_kd : wordKd (cs "void") = some .void := by unfold wordKd; rw [if_neg (by decide +kernel), if_pos rfl]
theorem cls_kd {n : Str} (h : goodN n = true) : isName n.cps.toList = true ∧ wordKd n.cps.toList = some (.cls n) := by
  unfold goodN at h
  simp only [Bool.and_eq_true, Bool.not_eq_true', Bool.or_eq_false_iff, decide_eq_false_iff_not] at h
  obtain ⟨h0, ⟨⟨⟨h1, h2⟩, h3⟩, h4⟩, h5⟩ := h
  refine ⟨h0, ?_⟩
  unfold wordKd
  rw [if_neg h1, if_neg h2, if_neg (by rw [h0]; simp [h3, h4, h5])]
theorem stop_close : stopW [93] = true ∧ stopW [62] = true := by decide +kernel
theorem isW_signs : isW 93 = false ∧ isW 62 = false ∧ isW 41 = false ∧ isW 44 = false := by decide +kernel
theorem drop_len_app {α : Type} (a b : List α) : (a ++ b).drop a.length = b := by simp
theorem okAll_mem : ∀ {n : Nat} {ps : List Kd}, okAll n ps = true → ∀ k ∈ ps, ok n k = true
  | n, [], _, k, h => by cases h
  | n, p :: r, h, k, hk => by
    have h' : ok n p = true ∧ okAll n r = true := by simpa [okAll] using h
    rcases List.mem_cons.mp hk with rfl | hk
    · exact h'.1
    · exact okAll_mem h'.2 k hk
theorem ok_ne_void {n : Nat} {k : Kd} (h : ok n k = true) : k ≠ .void := by
  rintro rfl
  cases n <;> simp [ok] at h
/-- the params are read -/
theorem pars_ok {n : Nat} (IH : ∀ (k : Kd) (post : List Nat), ok n k = true → stopW post = true → typeAt (n + 1) (k.wr ++ post) = some (some (k, k.wr.length))) :
    ∀ (ps : List Kd) (k : Kd) (m c : Nat) (acc : List Kd) (post : List Nat), okAll n (k :: ps) = true → ps.length < m →
      pars (typeAt (n + 1)) m (joinL [44] (Kd.wrAll (k :: ps)) ++ 41 :: post) c acc = some (some (acc ++ (k :: ps), c + (joinL [44] (Kd.wrAll (k :: ps))).length + 1))
  | [], k, m, c, acc, post, h, hm => by
    obtain ⟨m, rfl⟩ : ∃ m', m = m' + 1 := ⟨m - 1, by simp at hm; omega⟩
    have hk : ok n k = true := by simpa [okAll] using h
    show pars (typeAt (n + 1)) (m + 1) (k.wr ++ 41 :: post) c acc = _
    unfold pars
    rw [IH k (41 :: post) hk (by simp [stopW, isW_signs])]
    simp only [if_neg (ok_ne_void hk), drop_len_app]
    rw [if_pos (by rfl)]
    rfl
  | k2 :: r, k, m, c, acc, post, h, hm => by
    obtain ⟨m, rfl⟩ : ∃ m', m = m' + 1 := ⟨m - 1, by simp at hm; omega⟩
    have hk : ok n k = true ∧ okAll n (k2 :: r) = true := by simpa [okAll] using h
    have e : joinL [44] (Kd.wrAll (k :: k2 :: r)) = k.wr ++ ([44] ++ joinL [44] (Kd.wrAll (k2 :: r))) := rfl
    rw [e]
    have e2 : (k.wr ++ ([44] ++ joinL [44] (Kd.wrAll (k2 :: r)))) ++ 41 :: post = k.wr ++ (44 :: (joinL [44] (Kd.wrAll (k2 :: r)) ++ 41 :: post)) := by simp
    rw [e2]
    unfold pars
    rw [IH k _ hk.1 (by simp [stopW, isW_signs])]
    simp only [if_neg (ok_ne_void hk.1), drop_len_app]
    rw [if_neg (by simp), if_neg (by simp)]
    have e3 : List.drop (k.wr.length + 1) (k.wr ++ 44 :: (joinL [44] (Kd.wrAll (k2 :: r)) ++ 41 :: post)) = joinL [44] (Kd.wrAll (k2 :: r)) ++ 41 :: post := by
      rw [← List.drop_drop, drop_len_app]; rfl
    rw [e3, pars_ok IH r k2 m (c + k.wr.length + 1) (acc ++ [k]) post hk.2 (by simp at hm; omega)]
    simp
    omega
theorem join_len : ∀ (ps : List Kd) (k : Kd), ps.length ≤ (joinL [44] (Kd.wrAll (k :: ps))).length
  | [], k => Nat.zero_le _
  | k2 :: r, k => by
    have ih := join_len r k2
    have e : joinL [44] (Kd.wrAll (k :: k2 :: r)) = k.wr ++ ([44] ++ joinL [44] (Kd.wrAll (k2 :: r))) := rfl
    rw [e]
    simp
    omega
theorem wr_head {n : Nat} {k : Kd} (h : ok n k = true) : k.wr.take 1 ≠ [41] ∧ k.wr ≠ [] := by
  cases k with
  | int => exact ⟨by decide +kernel, by decide +kernel⟩
  | cls s =>
    have hg : goodN s = true := by cases n <;> simpa [ok] using h
    obtain ⟨h1, _⟩ := cls_kd hg
    obtain ⟨c, r, e, hc⟩ := isName_head h1
    show s.cps.toList.take 1 ≠ [41] ∧ s.cps.toList ≠ []
    rw [e]
    have := (letters_not hc).2.2.2.2
    simp [this]
  | arr k => simp [Kd.wr]
  | chan k => simp [Kd.wr]
  | weak k => simp [Kd.wr]
  | fn ps r => simp [Kd.wr]
  | _ => cases n <;> simp [ok] at h
/-- ROUND TRIP -/
theorem typeAt_wr : ∀ (n : Nat) (k : Kd) (post : List Nat), ok n k = true → stopW post = true → typeAt (n + 1) (k.wr ++ post) = some (some (k, k.wr.length))
  | n, .int, post, _, hs => typeAt_word int_name hs int_kd
  | n, .cls s, post, h, hs => by
    have hg : goodN s = true := by cases n <;> simpa [ok] using h
    exact typeAt_word (cls_kd hg).1 hs (cls_kd hg).2
  | n + 1, .arr k, post, h, hs => by
    have hk : ok n k = true := by simpa [ok] using h
    unfold typeAt
    rw [if_pos (by rfl)]
    unfold bra
    have e : List.drop 1 (Kd.wr (.arr k) ++ post) = k.wr ++ 93 :: post := by simp [Kd.wr]
    rw [e, typeAt_wr n k (93 :: post) hk (by simp [stopW, isW_signs])]
    have e2 : List.drop (1 + k.wr.length) (Kd.wr (.arr k) ++ post) = 93 :: post := by
      rw [← List.drop_drop, e, drop_len_app]
    simp only [e2]
    rw [if_neg (by simp [ok_ne_void hk])]
    simp [Kd.wr]
    omega
  | n + 1, .chan k, post, h, hs => by
    have hk : ok n k = true := by simpa [ok] using h
    unfold typeAt
    rw [if_neg (by simp [Kd.wr]), if_pos (by rfl)]
    unfold bra
    have e : List.drop 1 (Kd.wr (.chan k) ++ post) = k.wr ++ 62 :: post := by simp [Kd.wr]
    rw [e, typeAt_wr n k (62 :: post) hk (by simp [stopW, isW_signs])]
    have e2 : List.drop (1 + k.wr.length) (Kd.wr (.chan k) ++ post) = 62 :: post := by
      rw [← List.drop_drop, e, drop_len_app]
    simp only [e2]
    rw [if_neg (by simp [ok_ne_void hk])]
    simp [Kd.wr]
    omega
  | n + 1, .weak k, post, h, hs => by
    have hk : k.isCls = true ∧ ok n k = true := by simpa [ok] using h
    unfold typeAt
    rw [if_neg (by simp [Kd.wr]), if_neg (by simp [Kd.wr]), if_pos (by rfl)]
    unfold weakAt
    have e : List.drop 1 (Kd.wr (.weak k) ++ post) = k.wr ++ post := by simp [Kd.wr]
    rw [e, typeAt_wr n k post hk.2 hs]
    simp only
    rw [if_pos hk.1]
    simp [Kd.wr]
    omega
  | n + 1, .fn ps r, post, h, hs => by
    have hk : okAll n ps = true ∧ (r.beq .void = true ∨ ok n r = true) := by simpa [ok] using h
    have hr : typeAt (n + 1) (r.wr ++ post) = some (some (r, r.wr.length)) := by
      rcases hk.2 with e | e
      · rw [beq_of e]
        exact typeAt_word void_name hs void_kd
      · exact typeAt_wr n r post e hs
    unfold typeAt
    rw [if_neg (by simp [Kd.wr]), if_neg (by simp [Kd.wr]), if_neg (by simp [Kd.wr]), if_pos (by rfl)]
    have fin : ∀ c, List.drop c (Kd.wr (.fn ps r) ++ post) = r.wr ++ post → c + r.wr.length = (Kd.wr (.fn ps r)).length →
        (match (some (some (ps, c)) : Option (Option (List Kd × Nat))) with
          | none => none
          | some none => some none
          | some (some (ps, c)) => match typeAt (n + 1) ((Kd.wr (.fn ps r) ++ post).drop c) with
            | none => none
            | some none => some none
            | some (some (r, n)) => some (some (Kd.fn ps r, c + n))) = some (some (Kd.fn ps r, (Kd.wr (.fn ps r)).length)) := by
      intro c h1 h2
      simp only [h1, hr, h2]
    cases ps with
    | nil =>
      have f := fin 2 (by simp [Kd.wr, Kd.wrAll, joinL]) (by simp [Kd.wr, Kd.wrAll, joinL]; omega)
      unfold funcAt
      rw [if_pos (by simp [Kd.wr, Kd.wrAll, joinL])]
      exact f
    | cons k ps =>
      have hkk : ok n k = true := okAll_mem hk.1 k (List.mem_cons_self)
      have hlen := join_len ps k
      have e1 : List.drop 1 (Kd.wr (.fn (k :: ps) r) ++ post) = joinL [44] (Kd.wrAll (k :: ps)) ++ 41 :: (r.wr ++ post) := by simp [Kd.wr]
      have hp := pars_ok (n := n) (fun k post => typeAt_wr n k post) ps k (Kd.wr (.fn (k :: ps) r) ++ post).length 1 [] (r.wr ++ post) hk.1 (by
        simp [Kd.wr]; omega)
      have f := fin (1 + (joinL [44] (Kd.wrAll (k :: ps))).length + 1) (by
        rw [Nat.add_assoc, ← List.drop_drop, e1, ← List.drop_drop, drop_len_app]; rfl) (by simp [Kd.wr]; omega)
      unfold funcAt
      rw [if_neg (by
        rw [e1]
        have e3 : (joinL [44] (Kd.wrAll (k :: ps)) ++ 41 :: (r.wr ++ post)).take 1 = k.wr.take 1 := by
          have hne := (wr_head hkk).2
          obtain ⟨c0, r0, ec⟩ : ∃ c0 r0, k.wr = c0 :: r0 := by
            cases e : k.wr with
            | nil => exact absurd e hne
            | cons a b => exact ⟨a, b, rfl⟩
          cases ps with
          | nil => simp [Kd.wrAll, joinL, ec]
          | cons a b => simp [Kd.wrAll, joinL, ec]
        rw [e3]
        exact (wr_head hkk).1), e1, hp]
      exact f
  | 0, .arr k, _, h, _ => by simp [ok] at h
  | 0, .chan k, _, h, _ => by simp [ok] at h
  | 0, .weak k, _, h, _ => by simp [ok] at h
  | 0, .fn ps r, _, h, _ => by simp [ok] at h
  | 0, .void, _, h, _ => by simp [ok] at h
  | 0, .null, _, h, _ => by simp [ok] at h
  | 0, .unset, _, h, _ => by simp [ok] at h
  | 0, .fresh _ _, _, h, _ => by simp [ok] at h
  | n + 1, .void, _, h, _ => by simp [ok] at h
  | n + 1, .null, _, h, _ => by simp [ok] at h
  | n + 1, .unset, _, h, _ => by simp [ok] at h
  | n + 1, .fresh _ _, _, h, _ => by simp [ok] at h
theorem readType_wr {n : Nat} {k : Kd} (h : ok n k = true) : readType (n + 1) k.wr = some (some k) := by
  have e := typeAt_wr n k [] h rfl
  rw [List.append_nil] at e
  unfold readType
  rw [e]
  simp only
  rw [if_neg]
  rintro (q | q)
  · exact Nat.lt_irrefl _ q
  · exact ok_ne_void h q
/-! ### the wrong texts -/
def wrongs : List String := ["", "void", "[int", "[void]", "?int", "?[A]", "(int", "(int,)int", "(void)int", "int]", "<A", "null", "fresh", "1a", "A b"]
theorem wrongs_refused : ∀ w ∈ wrongs, readType 4 (cs w) = some none := by decide +kernel
end K01

set_option maxRecDepth 100000
set_option maxHeartbeats 4000000
/-! Lines of classes, being below, joins. -/
namespace K01
open PySem L2

def obj : Str := "Object"
/-- a tree of classes: dom the classes, par the parent, rk falls -/
structure Tree where
  dom : List Str
  par : Str → Option Str
  rk : Str → Nat
  has : obj ∈ dom
  root : ∀ s ∈ dom, par s = none ↔ s = obj
  closed : ∀ s ∈ dom, ∀ p, par s = some p → p ∈ dom
  falls : ∀ s ∈ dom, ∀ p, par s = some p → rk p < rk s
def lineN (par : Str → Option Str) : Nat → Str → List Str
  | 0, _ => []
  | n + 1, s => s :: (match par s with | none => [] | some p => lineN par n p)
def Tree.ln (T : Tree) (s : Str) : List Str := lineN T.par (T.rk s + 1) s
section
variable {T : Tree} {a b c s z : Str}
theorem lineN_fuel {T : Tree} : ∀ (n m : Nat) (s : Str), s ∈ T.dom → T.rk s < n → T.rk s < m → lineN T.par n s = lineN T.par m s
  | 0, _, _, _, h, _ => absurd h (Nat.not_lt_zero _)
  | _, 0, _, _, _, h => absurd h (Nat.not_lt_zero _)
  | n + 1, m + 1, s, hs, h1, h2 => by
    unfold lineN
    cases e : T.par s with
    | none => rfl
    | some p =>
      have hf := T.falls s hs p e
      simp only
      rw [lineN_fuel n m p (T.closed s hs p e) (by omega) (by omega)]
theorem ln_root (hs : s ∈ T.dom) (h : T.par s = none) : T.ln s = [s] := by
  unfold Tree.ln lineN
  rw [h]
theorem ln_step {p : Str} (hs : s ∈ T.dom) (h : T.par s = some p) : T.ln s = s :: T.ln p := by
  unfold Tree.ln
  conv => lhs; unfold lineN
  rw [h]
  simp only
  have hf := T.falls s hs p h
  rw [lineN_fuel (T.rk s) (T.rk p + 1) p (T.closed s hs p h) hf (Nat.lt_succ_self _)]
theorem ln_self (hs : s ∈ T.dom) : s ∈ T.ln s := by
  unfold Tree.ln lineN
  exact List.mem_cons_self
/-- what stands in a line: in the tree, not higher in rank, and its own line is the rest -/
theorem ln_suffix {T : Tree} : ∀ (n : Nat) (s z : Str), T.rk s < n → s ∈ T.dom → z ∈ T.ln s → z ∈ T.dom ∧ ∃ pre, T.ln s = pre ++ T.ln z ∧ ∀ y ∈ pre, T.rk z < T.rk y
  | 0, _, _, h, _, _ => absurd h (Nat.not_lt_zero _)
  | n + 1, s, z, h, hs, hz => by
    cases e : T.par s with
    | none =>
      rw [ln_root hs e] at hz
      have ez : z = s := by simpa using hz
      subst ez
      exact ⟨hs, [], rfl, fun y hy => by cases hy⟩
    | some p =>
      have hf := T.falls s hs p e
      rw [ln_step hs e] at hz
      rcases List.mem_cons.mp hz with rfl | hz
      · exact ⟨hs, [], rfl, fun y hy => by cases hy⟩
      · obtain ⟨h1, pre, h2, h3⟩ := ln_suffix n p z (by omega) (T.closed s hs p e) hz
        refine ⟨h1, s :: pre, by rw [ln_step hs e, h2]; rfl, fun y hy => ?_⟩
        rcases List.mem_cons.mp hy with rfl | hy
        · have : T.rk z ≤ T.rk p := by
            cases pre with
            | nil =>
              have : z = p := by
                have q : T.ln p = T.ln z := h2
                have e1 : (T.ln p).head? = some p := by unfold Tree.ln lineN; rfl
                have e2 : (T.ln z).head? = some z := by unfold Tree.ln lineN; rfl
                rw [q, e2] at e1
                exact Option.some.inj e1
              rw [this]
              exact Nat.le_refl _
            | cons q r =>
              have e1 : (T.ln p).head? = some p := by unfold Tree.ln lineN; rfl
              rw [h2] at e1
              have : q = p := by simpa using e1
              have := h3 q List.mem_cons_self
              subst_vars
              omega
          omega
        · exact h3 y hy
theorem ln_rk (hs : s ∈ T.dom) (hz : z ∈ T.ln s) : T.rk z ≤ T.rk s := by
  obtain ⟨_, pre, h2, h3⟩ := ln_suffix _ s z (Nat.lt_succ_self _) hs hz
  have e1 : (T.ln s).head? = some s := by unfold Tree.ln lineN; rfl
  cases pre with
  | nil =>
    have e2 : (T.ln z).head? = some z := by unfold Tree.ln lineN; rfl
    have q : T.ln s = T.ln z := h2
    rw [q, e2] at e1
    rw [Option.some.inj e1]
    exact Nat.le_refl _
  | cons q r =>
    rw [h2] at e1
    have e : q = s := by simpa using e1
    have := h3 q List.mem_cons_self
    rw [e] at this
    omega
theorem ln_dom (hs : s ∈ T.dom) (hz : z ∈ T.ln s) : z ∈ T.dom := (ln_suffix _ s z (Nat.lt_succ_self _) hs hz).1
theorem ln_eq (hs : s ∈ T.dom) (hz : z ∈ T.ln s) (h : T.rk s ≤ T.rk z) : z = s := by
  obtain ⟨_, pre, h2, h3⟩ := ln_suffix _ s z (Nat.lt_succ_self _) hs hz
  have e1 : (T.ln s).head? = some s := by unfold Tree.ln lineN; rfl
  cases pre with
  | nil =>
    have e2 : (T.ln z).head? = some z := by unfold Tree.ln lineN; rfl
    have q : T.ln s = T.ln z := h2
    rw [q, e2] at e1
    exact Option.some.inj e1
  | cons q r =>
    rw [h2] at e1
    have e : q = s := by simpa using e1
    have := h3 q List.mem_cons_self
    rw [e] at this
    omega
theorem ln_obj {T : Tree} : ∀ (n : Nat) (s : Str), T.rk s < n → s ∈ T.dom → obj ∈ T.ln s
  | 0, _, h, _ => absurd h (Nat.not_lt_zero _)
  | n + 1, s, h, hs => by
    cases e : T.par s with
    | none =>
      rw [(T.root s hs).mp e]
      exact ln_self T.has
    | some p =>
      rw [ln_step hs e]
      have hf := T.falls s hs p e
      exact List.mem_cons_of_mem _ (ln_obj n p (by omega) (T.closed s hs p e))
theorem ln_len {T : Tree} : ∀ (n : Nat) (s : Str), T.rk s < n → s ∈ T.dom → (T.ln s).length ≤ n
  | 0, _, h, _ => absurd h (Nat.not_lt_zero _)
  | n + 1, s, h, hs => by
    cases e : T.par s with
    | none => rw [ln_root hs e]; simp
    | some p =>
      rw [ln_step hs e]
      have hf := T.falls s hs p e
      have := ln_len n p (by omega) (T.closed s hs p e)
      simp
      omega
/-- the first of a line that is in another one -/
def Tree.lca (T : Tree) (a b : Str) : Str := ((T.ln a).find? fun x => decide (x ∈ T.ln b)).getD obj
theorem find_split {α : Type} {p : α → Bool} : ∀ {l : List α} {x : α}, l.find? p = some x → ∃ pre post, l = pre ++ x :: post ∧ p x = true ∧ ∀ y ∈ pre, p y = false
  | [], x, h => by simp at h
  | a :: l, x, h => by
    rw [List.find?_cons] at h
    split at h
    · rename_i e
      cases h
      exact ⟨[], l, rfl, e, fun y hy => by cases hy⟩
    · rename_i e
      obtain ⟨pre, post, h1, h2, h3⟩ := find_split h
      refine ⟨a :: pre, post, by rw [h1]; rfl, h2, fun y hy => ?_⟩
      rcases List.mem_cons.mp hy with rfl | hy
      · exact e
      · exact h3 y hy
theorem lca_spec (ha : a ∈ T.dom) (hb : b ∈ T.dom) : T.lca a b ∈ T.ln a ∧ T.lca a b ∈ T.ln b ∧ ∀ c, c ∈ T.ln a → c ∈ T.ln b → c ∈ T.ln (T.lca a b) := by
  have oa := ln_obj _ a (Nat.lt_succ_self _) ha
  have ob := ln_obj _ b (Nat.lt_succ_self _) hb
  unfold Tree.lca
  cases e : (T.ln a).find? fun x => decide (x ∈ T.ln b) with
  | none =>
    have := List.find?_eq_none.mp e obj oa
    simp [ob] at this
  | some x =>
    obtain ⟨pre, post, h1, h2, h3⟩ := find_split e
    have hx : x ∈ T.ln a := by rw [h1]; simp
    have hxb : x ∈ T.ln b := by simpa using h2
    refine ⟨hx, hxb, fun c hca hcb => ?_⟩
    obtain ⟨_, pre2, h4, h5⟩ := ln_suffix _ a x (Nat.lt_succ_self _) ha hx
    rw [h1] at hca
    rcases List.mem_append.mp hca with q | q
    · have := h3 c q
      simp [hcb] at this
    · rcases List.mem_cons.mp q with rfl | q
      · exact ln_self (ln_dom ha hx)
      · rw [h1] at h4
        rw [h4, ] at h1
        have hc : c ∈ pre2 ++ T.ln x := by rw [← h4]; simp [q]
        rcases List.mem_append.mp hc with r | r
        · exfalso
          -- c ahead of x's line: it has a higher rank; yet it stands behind x
          have hr := h5 c r
          have e0 : T.ln a = pre ++ x :: post := by rw [h4]; exact h1
          -- the ranks fall along a line
          have fall : ∀ (n : Nat) (s : Str) (l r : List Str) (x c : Str), T.rk s < n → s ∈ T.dom → T.ln s = l ++ x :: r → c ∈ r → T.rk c < T.rk x := by
            intro n
            induction n with
            | zero => intro s l r x c h; exact absurd h (Nat.not_lt_zero _)
            | succ n ih =>
              intro s l r x c h hs hl hc
              cases e : T.par s with
              | none =>
                rw [ln_root hs e] at hl
                cases l with
                | nil =>
                  have : r = [] := by simp at hl; exact hl.2
                  rw [this] at hc
                  cases hc
                | cons y l => simp at hl
              | some p =>
                have hf := T.falls s hs p e
                rw [ln_step hs e] at hl
                cases l with
                | nil =>
                  simp at hl
                  obtain ⟨rfl, rfl⟩ := hl
                  have := ln_rk (T.closed s hs p e) hc
                  omega
                | cons y l =>
                  simp at hl
                  exact ih p l r x c (by omega) (T.closed s hs p e) hl.2 hc
          have := fall _ a pre post x c (Nat.lt_succ_self _) ha (by assumption) q
          omega
        · exact r
theorem lca_comm (ha : a ∈ T.dom) (hb : b ∈ T.dom) : T.lca a b = T.lca b a := by
  obtain ⟨h1, h2, h3⟩ := lca_spec ha hb
  obtain ⟨g1, g2, g3⟩ := lca_spec hb ha
  have q1 := h3 _ g2 g1
  have q2 := g3 _ h2 h1
  have d1 := ln_dom ha h1
  have d2 := ln_dom hb g1
  have r1 := ln_rk d1 q1
  have r2 := ln_rk d2 q2
  exact (ln_eq d1 q1 r2).symm
end
end K01

set_option maxRecDepth 100000
set_option maxHeartbeats 4000000
/-! Being below, joins. -/
namespace K01
open PySem L2

def Kd.isRef : Kd → Bool
  | .int => false | .void => false | .unset => false | _ => true
def Kd.isFresh : Kd → Bool
  | .fresh _ _ => true
  | _ => false
abbrev Kd.ob : Kd := .cls obj
section
variable (T : Tree)
def below (a b : Kd) : Bool :=
  if a = b then true
  else if !a.isRef || !b.isRef || a.isFresh || b.isFresh || decide (b = .null) then false
  else if decide (a = .null) || decide (b = Kd.ob) then true
  else match a, b with
    | .cls x, .cls y => decide (y ∈ T.ln x)
    | _, _ => false
def joinK (a b : Kd) : Kd :=
  if a = b then a
  else if !a.isRef || !b.isRef || a.isFresh || b.isFresh then .unset
  else if a = .null then b
  else if b = .null then a
  else match a, b with
    | .cls x, .cls y => .cls (T.lca x y)
    | _, _ => Kd.ob
/-- its class, if it is one, is in the tree -/
def inT : Kd → Prop
  | .cls n => n ∈ T.dom
  | _ => True
variable {T} {a b k : Kd}
theorem below_refl : below T a a = true := by unfold below; rw [if_pos rfl]
theorem join_comm (ha : inT T a) (hb : inT T b) : joinK T a b = joinK T b a := by
  have hs : (!b.isRef || !a.isRef || b.isFresh || a.isFresh) = (!a.isRef || !b.isRef || a.isFresh || b.isFresh) := by cases a.isRef <;> cases b.isRef <;> cases a.isFresh <;> cases b.isFresh <;> rfl
  unfold joinK
  rw [hs]
  by_cases h : a = b
  · subst h; rfl
  · simp only [if_neg h, if_neg (Ne.symm h)]
    by_cases h1 : (!a.isRef || !b.isRef || a.isFresh || b.isFresh) = true
    · simp only [if_pos h1]
    · simp only [if_neg h1]
      by_cases h2 : a = .null
      · by_cases h3 : b = .null
        · rw [h2, h3]
        · simp only [if_pos h2, if_neg h3]
      · by_cases h3 : b = .null
        · simp only [if_neg h2, if_pos h3]
        · simp only [if_neg h2, if_neg h3]
          cases a <;> cases b <;> first
            | rfl
            | (rename_i x y; show Kd.cls (T.lca x y) = Kd.cls (T.lca y x); rw [lca_comm (show x ∈ T.dom from ha) (show y ∈ T.dom from hb)])
/-- what is above a thing that is no reference, or not set up, is the thing itself -/
theorem below_odd (h : (!a.isRef || a.isFresh) = true) (hb : below T a k = true) : k = a := by
  unfold below at hb
  by_cases e : a = k
  · exact e.symm
  · rw [if_neg e, if_pos (by revert h; cases a.isRef <;> cases k.isRef <;> cases a.isFresh <;> cases k.isFresh <;> simp)] at hb
    cases hb
theorem below_odd' (h : (!k.isRef || k.isFresh) = true) (hb : below T a k = true) : k = a := by
  unfold below at hb
  by_cases e : a = k
  · exact e.symm
  · rw [if_neg e, if_pos (by revert h; cases a.isRef <;> cases k.isRef <;> cases a.isFresh <;> cases k.isFresh <;> simp)] at hb
    cases hb
/-- what stands above two things that differ where no join is told -/
theorem join_unset (h : joinK T a b = .unset) (hne : a ≠ b) (hk : below T a k = true) (hk2 : below T b k = true) : False := by
  unfold joinK at h
  rw [if_neg hne] at h
  by_cases h1 : (!a.isRef || !b.isRef || a.isFresh || b.isFresh) = true
  · have h1' : (!a.isRef || a.isFresh) = true ∨ (!b.isRef || b.isFresh) = true := by
      revert h1; cases a.isRef <;> cases b.isRef <;> cases a.isFresh <;> cases b.isFresh <;> simp
    rcases h1' with q | q
    · have e := below_odd q hk
      subst e
      exact hne (below_odd' q hk2)
    · have e := below_odd q hk2
      subst e
      exact hne (below_odd' q hk).symm
  · rw [if_neg h1] at h
    have ra : a.isRef = true := by revert h1; cases a.isRef <;> simp
    have rb : b.isRef = true := by revert h1; cases a.isRef <;> cases b.isRef <;> simp
    by_cases h2 : a = .null
    · rw [if_pos h2] at h
      rw [h] at rb
      cases rb
    · rw [if_neg h2] at h
      by_cases h3 : b = .null
      · rw [if_pos h3] at h
        rw [h] at ra
        cases ra
      · rw [if_neg h3] at h
        cases a <;> cases b <;> cases h
theorem below_obj (h : a.isRef = true) (hf : a.isFresh = false) : below T a Kd.ob = true := by
  unfold below
  by_cases e : a = Kd.ob
  · rw [if_pos e]
  · rw [if_neg e, if_neg (by rw [h, hf]; decide), if_pos (by simp)]
theorem below_cls {x y : Str} (h : y ∈ T.ln x) : below T (.cls x) (.cls y) = true := by
  unfold below
  by_cases e : Kd.cls x = Kd.cls y
  · rw [if_pos e]
  · rw [if_neg e, if_neg (by simp [Kd.isRef, Kd.isFresh])]
    by_cases e2 : Kd.cls y = Kd.ob
    · rw [if_pos (by simp [e2])]
    · rw [if_neg (by simp [e2])]
      simp [h]
theorem below_cls_of {x y : Str} (hx : x ∈ T.dom) (h : below T (.cls x) (.cls y) = true) : y ∈ T.ln x := by
  unfold below at h
  by_cases e : Kd.cls x = Kd.cls y
  · have e' : x = y := Kd.cls.inj e
    subst e'
    exact ln_self hx
  · rw [if_neg e, if_neg (by simp [Kd.isRef, Kd.isFresh])] at h
    by_cases e2 : Kd.cls y = Kd.ob
    · have e' : y = obj := Kd.cls.inj e2
      subst e'
      exact ln_obj _ x (Nat.lt_succ_self _) hx
    · rw [if_neg (by simp [e2])] at h
      simpa using h
/-- the join is the least above both -/
theorem join_least (ha : inT T a) (hb : inT T b) (hne : joinK T a b ≠ .unset) :
    below T a (joinK T a b) = true ∧ below T b (joinK T a b) = true ∧ ∀ k, below T a k = true → below T b k = true → below T (joinK T a b) k = true := by
  unfold joinK at hne ⊢
  by_cases h : a = b
  · subst h
    simp only [if_pos]
    exact ⟨below_refl, below_refl, fun k h _ => h⟩
  · rw [if_neg h] at hne ⊢
    by_cases h1 : (!a.isRef || !b.isRef || a.isFresh || b.isFresh) = true
    · rw [if_pos h1] at hne
      exact absurd rfl hne
    · rw [if_neg h1] at hne ⊢
      have ra : a.isRef = true := by revert h1; cases a.isRef <;> simp
      have rb : b.isRef = true := by revert h1; cases a.isRef <;> cases b.isRef <;> simp
      have fa : a.isFresh = false := by revert h1; cases a.isRef <;> cases b.isRef <;> cases a.isFresh <;> simp
      have fb : b.isFresh = false := by revert h1; cases a.isRef <;> cases b.isRef <;> cases a.isFresh <;> cases b.isFresh <;> simp
      by_cases h2 : a = .null
      · subst h2
        rw [if_pos rfl]
        refine ⟨?_, below_refl, fun k _ h => h⟩
        unfold below
        rw [if_neg h, if_neg (by rw [ra, rb, fa, fb]; simpa using fun e => h e.symm), if_pos (by simp)]
      · rw [if_neg h2] at hne ⊢
        by_cases h3 : b = .null
        · subst h3
          rw [if_pos rfl]
          refine ⟨below_refl, ?_, fun k h _ => h⟩
          unfold below
          rw [if_neg (Ne.symm h), if_neg (by rw [ra, rb, fa, fb]; simpa using h2), if_pos (by simp)]
        · rw [if_neg h3] at hne ⊢
          -- a thing that is not two classes: only Object is above both
          have other : (∀ x y, ¬ (a = .cls x ∧ b = .cls y)) → below T a Kd.ob = true ∧ below T b Kd.ob = true ∧ ∀ k, below T a k = true → below T b k = true → below T Kd.ob k = true := fun nc =>
            ⟨below_obj ra fa, below_obj rb fb, fun k k1 k2 => by
              by_cases ek : k = Kd.ob
              · rw [ek]; exact below_refl
              · exfalso
                unfold below at k1 k2
                by_cases e1 : a = k
                · subst e1
                  rw [if_neg (Ne.symm h)] at k2
                  rw [if_neg (by rw [ra, rb, fa, fb]; simpa using h2)] at k2
                  rw [if_neg (by simp [h3, ek])] at k2
                  cases b <;> cases a <;> first | (cases k2) | (rename_i x y; exact nc _ _ ⟨rfl, rfl⟩)
                · rw [if_neg e1] at k1
                  by_cases g : (!a.isRef || !k.isRef || a.isFresh || k.isFresh || decide (k = .null)) = true
                  · rw [if_pos g] at k1; cases k1
                  · rw [if_neg g, if_neg (by simp [h2, ek])] at k1
                    cases a <;> cases k <;> first
                      | (cases k1)
                      | skip
                    rename_i x y
                    by_cases e2 : b = .cls y
                    · exact nc x y ⟨rfl, e2⟩
                    · rw [if_neg e2] at k2
                      rw [if_neg (by rw [rb, fb]; simp [Kd.isRef, Kd.isFresh])] at k2
                      rw [if_neg (by simp [h3, ek])] at k2
                      cases b <;> first | (cases k2) | (rename_i z; exact nc _ _ ⟨rfl, rfl⟩)⟩
          cases a with
          | cls x =>
            cases b with
            | cls y =>
              show below T (.cls x) (.cls (T.lca x y)) = true ∧ below T (.cls y) (.cls (T.lca x y)) = true ∧ ∀ k, below T (.cls x) k = true → below T (.cls y) k = true → below T (.cls (T.lca x y)) k = true
              have hx : x ∈ T.dom := ha
              have hy : y ∈ T.dom := hb
              obtain ⟨l1, l2, l3⟩ := lca_spec hx hy
              refine ⟨below_cls l1, below_cls l2, fun k k1 k2 => ?_⟩
              cases k with
              | cls c => exact below_cls (l3 c (below_cls_of hx k1) (below_cls_of hy k2))
              | _ =>
                exfalso
                unfold below at k1
                rw [if_neg (by simp)] at k1
                split at k1
                · cases k1
                · split at k1
                  · rename_i q
                    simp at q
                  · cases k1
            | _ => exact other (fun x y e => by cases e.2)
          | _ => exact other (fun x y e => by cases e.1)
end
end K01

set_option maxRecDepth 100000
set_option maxHeartbeats 4000000
/-! What is read can be laid and is not deep; slices. -/
namespace K01
open PySem L2 TL
def okS (s : List Nat) : Prop := ∀ x ∈ s, x < 0x110000
theorem okS_drop {s : List Nat} (h : okS s) (n : Nat) : okS (s.drop n) := fun x hx => h x (List.mem_of_mem_drop hx)
/-- can be laid, m deep at most -/
def lay (m : Nat) (k : Kd) : Prop := k.d.canLay0 = true ∧ k.d.depth ≤ m
theorem lay_shaped {m : Nat} {k : Kd} (h : lay m k) (hm : m ≤ 64) : SeqAt.shaped k.d = true := by
  unfold SeqAt.shaped
  have := h.2
  simp [h.1]
  omega
theorem strOk_of {s : List Nat} (h : okS s) : PyData.strOk ⟨s.toArray⟩ = true := by
  unfold PyData.strOk
  rw [Array.all_eq_true_iff_forall_mem]
  intro x hx
  have := h x (by simpa using hx)
  simp only [decide_eq_true_eq]
  exact this
theorem lay_word {s : List Nat} (h : okS s) {k : Kd} (e : wordKd s = some k) {m : Nat} (hm : 1 ≤ m) : lay m k := by
  unfold wordKd at e
  split at e
  · cases e
    exact ⟨by decide +kernel, by show 0 ≤ m; omega⟩
  · split at e
    · cases e
      exact ⟨by decide +kernel, by show 0 ≤ m; omega⟩
    · split at e
      · cases e
      · cases e
        refine ⟨?_, by show 1 ≤ m; omega⟩
        simp [Kd.d, PyData.canLay0, PyData.canLayAll0, strOk_of h]
        decide +kernel
theorem layAll_of : ∀ {m : Nat} {ps : List Kd}, (∀ k ∈ ps, lay m k) → PyData.canLayAll0 (Kd.dAll ps) = true ∧ PyData.depthAll (Kd.dAll ps) ≤ m
  | m, [], _ => ⟨rfl, Nat.zero_le _⟩
  | m, k :: r, h => by
    obtain ⟨h1, h2⟩ := layAll_of (ps := r) fun k hk => h k (List.mem_cons_of_mem _ hk)
    obtain ⟨g1, g2⟩ := h k List.mem_cons_self
    simp [Kd.dAll, PyData.canLayAll0, PyData.depthAll, h1, g1]
    omega
theorem lay_pars {f : List Nat → Rs} {m : Nat} (hf : ∀ s k c, okS s → f s = some (some (k, c)) → lay m k) : ∀ (j : Nat) (s : List Nat) (c : Nat) (acc ps : List Kd) (c' : Nat), okS s → (∀ k ∈ acc, lay m k) → pars f j s c acc = some (some (ps, c')) → ∀ k ∈ ps, lay m k
  | 0, s, c, acc, ps, c', _, _, h => by simp [pars] at h
  | j + 1, s, c, acc, ps, c', hs, ha, h => by
    unfold pars at h
    cases e : f s with
    | none => rw [e] at h; cases h
    | some r =>
      rw [e] at h
      cases r with
      | none => cases h
      | some q =>
        obtain ⟨k, n⟩ := q
        have ha' : ∀ k' ∈ acc ++ [k], lay m k' := fun k' hk => by
          rcases List.mem_append.mp hk with hk | hk
          · exact ha k' hk
          · have : k' = k := by simpa using hk
            rw [this]
            exact hf s k n hs e
        simp only at h
        split at h
        · cases h
        · split at h
          · cases h
            exact ha'
          · split at h
            · cases h
            · exact lay_pars hf j _ _ _ ps c' (okS_drop hs _) ha' h
theorem lay_typeAt : ∀ (n : Nat) (s : List Nat) (k : Kd) (c : Nat), okS s → typeAt n s = some (some (k, c)) → lay (2 * n) k
  | 0, s, k, c, _, h => by cases h
  | n + 1, s, k, c, hs, h => by
    have ih := lay_typeAt n
    unfold typeAt at h
    have br : ∀ (close : Nat) (mk : Kd → Kd) (a : Str), (∀ k, (mk k).d = .tuple [.str a, k.d]) → PyData.strOk a = true → bra (typeAt n) close mk s = some (some (k, c)) → lay (2 * (n + 1)) k := fun close mk a hmk ha h => by
      unfold bra at h
      cases e : typeAt n (s.drop 1) with
      | none => rw [e] at h; cases h
      | some r =>
        rw [e] at h
        cases r with
        | none => cases h
        | some q =>
          obtain ⟨k', c'⟩ := q
          simp only at h
          split at h
          · cases h
          · cases h
            obtain ⟨g1, g2⟩ := ih _ k' c' (okS_drop hs 1) e
            refine ⟨?_, ?_⟩
            · rw [hmk]; simp [PyData.canLay0, PyData.canLayAll0, g1, ha]
            · rw [hmk]; simp [PyData.depth, PyData.depthAll]; omega
    split at h
    · exact br 93 .arr "array" (fun _ => rfl) (by decide +kernel) h
    · split at h
      · exact br 62 .chan "channel" (fun _ => rfl) (by decide +kernel) h
      · split at h
        · unfold weakAt at h
          cases e : typeAt n (s.drop 1) with
          | none => rw [e] at h; cases h
          | some r =>
            rw [e] at h
            cases r with
            | none => cases h
            | some q =>
              obtain ⟨k', c'⟩ := q
              simp only at h
              split at h
              · cases h
                obtain ⟨g1, g2⟩ := ih _ k' c' (okS_drop hs 1) e
                refine ⟨?_, ?_⟩
                · simp [Kd.d, PyData.canLay0, PyData.canLayAll0, g1]; decide +kernel
                · simp [Kd.d, PyData.depth, PyData.depthAll]; omega
              · cases h
        · split at h
          · unfold funcAt at h
            have go : ∀ (ps : List Kd) (c0 : Nat), (∀ k ∈ ps, lay (2 * n) k) → (match typeAt n (s.drop c0) with
                | none => none
                | some none => some none
                | some (some (r, n)) => some (some (Kd.fn ps r, c0 + n))) = some (some (k, c)) → lay (2 * (n + 1)) k := fun ps c0 hps h => by
              cases e : typeAt n (s.drop c0) with
              | none => rw [e] at h; cases h
              | some r =>
                rw [e] at h
                cases r with
                | none => cases h
                | some q =>
                  obtain ⟨k', c'⟩ := q
                  cases h
                  obtain ⟨g1, g2⟩ := ih _ k' c' (okS_drop hs c0) e
                  obtain ⟨p1, p2⟩ := layAll_of hps
                  refine ⟨?_, ?_⟩
                  · simp [Kd.d, PyData.canLay0, PyData.canLayAll0, g1, p1]; decide +kernel
                  · simp [Kd.d, PyData.depth, PyData.depthAll]; omega
            by_cases e1 : (s.drop 1).take 1 = [41]
            · rw [if_pos e1] at h
              exact go [] 2 (fun k hk => by cases hk) h
            · rw [if_neg e1] at h
              cases e : pars (typeAt n) s.length (s.drop 1) 1 [] with
              | none => rw [e] at h; cases h
              | some r =>
                rw [e] at h
                cases r with
                | none => cases h
                | some q =>
                  obtain ⟨ps, c0⟩ := q
                  exact go ps c0 (lay_pars (fun s k c hs e => ih s k c hs e) _ _ _ _ _ _ (okS_drop hs 1) (fun k hk => by cases hk) e) h
          · cases e : wordKd (word s) with
            | none => rw [e] at h; cases h
            | some k' =>
              rw [e] at h
              cases h
              exact lay_word (fun x hx => hs x ((List.takeWhile_subset _) hx)) e (by omega)
/-! ### slices -/
theorem cut_nat (z : Str) (a b : Nat) (h : a ≤ b) : cutS z (some (a : Int)) (some (b : Int)) = ⟨(((tl z).drop a).take (b - a)).toArray⟩ := by
  refine ext_tl ?_
  unfold cutS
  show (List.take _ (List.drop _ (tl z))) = List.take (b - a) (List.drop a (tl z))
  rw [HT.sIx_nat, HT.sIx_nat, len_tl]
  by_cases ha : a ≤ (tl z).length
  · rw [Nat.min_eq_left ha]
    by_cases hb : b ≤ (tl z).length
    · rw [Nat.min_eq_left hb]
    · rw [Nat.min_eq_right (by omega)]
      rw [List.take_of_length_le (by rw [List.length_drop]; omega), List.take_of_length_le (by rw [List.length_drop]; omega)]
  · rw [show min a (tl z).length = (tl z).length by omega, List.drop_eq_nil_of_le (show (tl z).length ≤ (tl z).length by omega), List.drop_eq_nil_of_le (show (tl z).length ≤ a by omega), List.take_nil, List.take_nil]
theorem cut_one (z : Str) (a : Nat) : cutS z (some (a : Int)) (some ((a : Int) + 1)) = ⟨(((tl z).drop a).take 1).toArray⟩ := by
  have e : ((a : Int) + 1) = ((a + 1 : Nat) : Int) := by omega
  rw [e, cut_nat z a (a + 1) (by omega), show a + 1 - a = 1 by omega]
theorem str_eqL {s : Str} {l m : List Nat} (h : s = ⟨m.toArray⟩) : decide ((⟨l.toArray⟩ : Str) = s) = decide (l = m) := by
  subst h
  by_cases e : l = m
  · subst e; simp
  · rw [decide_eq_false e, decide_eq_false]
    intro q
    apply e
    have := congrArg Str.cps q
    simpa using this
theorem str_beqL {s : Str} {l m : List Nat} (h : s = ⟨m.toArray⟩) : (s == (⟨l.toArray⟩ : Str)) = decide (l = m) := by
  rw [← str_eqL h]
  by_cases e : (⟨l.toArray⟩ : Str) = s
  · subst e; simp
  · rw [decide_eq_false e]
    exact beq_eq_false_iff_ne.mpr (fun q => e q.symm)
end K01

set_option maxRecDepth 100000
set_option maxHeartbeats 4000000
/-! law_k01: the text by places, what the top has written, the error. -/
namespace K01
open PySem PySem.Spec PyProof.Rows L2 Evl Dat

def top (i : Nat) : Stmt := PySem.Challenge.pw_verifiedruns_k01_kinds_of_values.main.body.getD i (.Pass ⟨0, 0, 0, 0⟩)
abbrev s_TextError___init__ : Stmt := inClass (top 2) 0
abbrev s_is_name : Stmt := top 7
abbrev s_write_type : Stmt := top 8
abbrev s_read_type : Stmt := top 9
abbrev s_type_at : Stmt := top 10
abbrev s_func_at : Stmt := top 11
abbrev s_is_ref : Stmt := top 12
abbrev s_is_fresh : Stmt := top 13
abbrev s_is_below : Stmt := top 14
abbrev s_line_of : Stmt := top 15
abbrev s_join : Stmt := top 16
abbrev s_names_in : Stmt := top 17
abbrev s__law_tape : Stmt := top 19
abbrev s__law_take : Stmt := top 20
abbrev s__law_kind : Stmt := top 24
abbrev s__law_text : Stmt := top 25
abbrev s__law_below : Stmt := top 26
abbrev s_law : Stmt := top 27
theorem sc_is_name : FnScope ["word", "char"] ["word"] (defScope s_is_name) := ⟨rfl, rfl, rfl, by decide +kernel, rfl, by decide +kernel, by decide +kernel⟩
theorem sc_write_type : FnScope ["kind", "one"] ["kind"] (defScope s_write_type) := ⟨rfl, rfl, rfl, by decide +kernel, rfl, by decide +kernel, by decide +kernel⟩
theorem sc_read_type : FnScope ["text", "row", "kind", "at"] ["text", "row"] (defScope s_read_type) := ⟨rfl, rfl, rfl, by decide +kernel, rfl, by decide +kernel, by decide +kernel⟩
theorem sc_type_at : FnScope ["text", "at", "row", "sign", "inner", "end", "word"] ["text", "at", "row"] (defScope s_type_at) := ⟨rfl, rfl, rfl, by decide +kernel, rfl, by decide +kernel, by decide +kernel⟩
theorem sc_func_at : FnScope ["text", "at", "row", "params", "end", "inner", "result"] ["text", "at", "row"] (defScope s_func_at) := ⟨rfl, rfl, rfl, by decide +kernel, rfl, by decide +kernel, by decide +kernel⟩
theorem sc_is_ref : FnScope ["kind"] ["kind"] (defScope s_is_ref) := ⟨rfl, rfl, rfl, by decide +kernel, rfl, by decide +kernel, by decide +kernel⟩
theorem sc_is_fresh : FnScope ["kind"] ["kind"] (defScope s_is_fresh) := ⟨rfl, rfl, rfl, by decide +kernel, rfl, by decide +kernel, by decide +kernel⟩
theorem sc_is_below : FnScope ["parents", "first", "second"] ["parents", "first", "second"] (defScope s_is_below) := ⟨rfl, rfl, rfl, by decide +kernel, rfl, by decide +kernel, by decide +kernel⟩
theorem sc_line_of : FnScope ["parents", "name", "found"] ["parents", "name"] (defScope s_line_of) := ⟨rfl, rfl, rfl, by decide +kernel, rfl, by decide +kernel, by decide +kernel⟩
theorem sc_join : FnScope ["parents", "first", "second", "line", "name"] ["parents", "first", "second"] (defScope s_join) := ⟨rfl, rfl, rfl, by decide +kernel, rfl, by decide +kernel, by decide +kernel⟩
theorem sc_names_in : FnScope ["kind", "found", "one"] ["kind"] (defScope s_names_in) := ⟨rfl, rfl, rfl, by decide +kernel, rfl, by decide +kernel, by decide +kernel⟩
theorem sc__law_tape : FnScope ["script", "cells", "cell", "seed"] ["script"] (defScope s__law_tape) := ⟨rfl, rfl, rfl, by decide +kernel, rfl, by decide +kernel, by decide +kernel⟩
theorem sc__law_take : FnScope ["tape", "many", "drawn", "mixed"] ["tape", "many"] (defScope s__law_take) := ⟨rfl, rfl, rfl, by decide +kernel, rfl, by decide +kernel, by decide +kernel⟩
theorem sc__law_kind : FnScope ["tape", "names", "deep", "pick", "params", "k"] ["tape", "names", "deep"] (defScope s__law_kind) := ⟨rfl, rfl, rfl, by decide +kernel, rfl, by decide +kernel, by decide +kernel⟩
theorem sc__law_text : FnScope ["kind", "one", "inner"] ["kind"] (defScope s__law_text) := ⟨rfl, rfl, rfl, by decide +kernel, rfl, by decide +kernel, by decide +kernel⟩
theorem sc__law_below : FnScope ["parents", "one", "two", "name"] ["parents", "one", "two"] (defScope s__law_below) := ⟨rfl, rfl, rfl, by decide +kernel, rfl, by decide +kernel, by decide +kernel⟩
theorem sc_law : FnScope ["script", "tape", "names", "parents", "k", "kinds", "one", "two", "both", "above", "kind", "name", "line", "found", "wrongs", "text", "e"] ["script"] (defScope s_law) := ⟨rfl, rfl, rfl, by decide +kernel, rfl, by decide +kernel, by decide +kernel⟩

/-- a def of the top -/
structure Def' (K : PySem.W.Frag) (mg : Str → Option Value) (x : Str) (st : Stmt) (ps : List Str) (f : Addr) (fd : FuncData) : Prop where
  fn : Fun K x x st f fd
  m : mg x = some (.ref f)
  b : Binds K fd ps []
section
variable {X : Cx} {x : Str} {st : Stmt} {ps : List Str} {f : Addr} {fd : FuncData} {CX : CXT} {k : Nat} {sp : Sp} {E : XK} {p pos : Pos} {e : Expr} {es : List Expr} {t : TA}
/-- a call of a def that lets nothing out -/
theorem pcall (D : Def' X.K X.mg x st ps f fd) (F : FnOk X.prog X.w X.K X.mg X.base CX0 k f fd ps sp) (hr : Room k X.A) (ha : PA X (e :: es) t) (hg : Gl X x := by rfl)
    (hdb : (x == ("__debug__" : Str)) = false := by decide) (he : starEach (e :: es) X.env = (false, eval e X.env) :: starEach es X.env := by rfl) (hpl : (backTo pos (starEach es X.env)).any (·.1) = false := by rfl) :
    PE X (.Call (.Name x p) (e :: es) [] pos) (tCall sp [] E0 t) := pe_call F hr hg D.m D.fn.kp D.b .nil pass0 ha hdb he hpl
theorem pcallX {E : L2.St → XK} (D : Def' X.K X.mg x st ps f fd) (F : FnOk X.prog X.w X.K X.mg X.base CX k f fd ps sp) (hr : Room k X.A) (hx : ∀ σ, PassesAt CX X σ (E σ)) (ha : PA X (e :: es) t) (hg : Gl X x := by rfl)
    (hdb : (x == ("__debug__" : Str)) = false := by decide) (he : starEach (e :: es) X.env = (false, eval e X.env) :: starEach es X.env := by rfl) (hpl : (backTo pos (starEach es X.env)).any (·.1) = false := by rfl) :
    PE X (.Call (.Name x p) (e :: es) [] pos) (tCallS sp E t) := pe_callS F hr hg D.m D.fn.kp D.b hx ha hdb he hpl
end
/-! ### the error -/
def LET : Str := "abcdefghijklmnopqrstuvwxyzABCDEFGHIJKLMNOPQRSTUVWXYZ"
def DIG : Str := "0123456789"
/-- what stands of an error: its own dict -/
def xrow (r : Int) (w : Str) : HO := .xd [(("word" : Str), .str w), (("row" : Str), .int r)]
def spInit (C : Addr) : Sp := fun vs H Q _ => ∃ (a : Addr) (r : Int) (w : Str), vs = [.ref a, .int r, .str w] ∧ H a = some (exo a C none) ∧
  ∀ dx, H dx = none → dx ≠ a → Q .non (upd (upd (upd H dx (exd dx [(("row" : Str), .int r)])) a (exo a C (some dx))) dx (exd dx [(("word" : Str), .str w), (("row" : Str), .int r)]))
/-- what the top has written -/
structure Txt (P : Program) (K : PySem.W.Frag) (mg : Str → Option Value) (C fI cc oA : Addr) (tL tD : Tok) (F : NdefX.NF) (fdI : FuncData) : Prop where
  g_LETTERS : mg "LETTERS" = some (.str LET tL)
  g_DIGITS : mg "DIGITS" = some (.str DIG tD)
  g_OBJECT : mg "OBJECT" = some (.ref oA)
  obA : ∀ H, SqT K H oA [.str "class", .str "Object"]
  g_TextError : mg "TextError" = some (.ref C)
  isi : ∀ d : PyData, PySem.W.kitOne K (.type (tyName d)) (.type "str") = some (match d with | .str _ => true | _ => false)
  z_isinstance : mg "isinstance" = none
  z_str : mg "str" = none
  z_len : mg "len" = none
  z_all : mg "all" = none
  z_any : mg "any" = none
  z_abs : mg "abs" = none
  z_int : mg "int" = none
  z_tuple : mg "tuple" = none
  z_range : mg "range" = none
  z_sorted : mg "sorted" = none
  z_set : mg "set" = none
  sup : SupC P K mg C fI cc F.c F
  iI : PySem.W.findIn K (.ref C) "__init__" = some (some (.ref fI))
  tI : PySem.W.typeIn K (.ref fI) = some (.type "function")
  te : PySem.W.exmOne K (.ref C) (.ref C) = some true
  nRow : PySem.W.findIn K (.ref C) "row" = some none
  nWord : PySem.W.findIn K (.ref C) "word" = some none
  hF : F = NdefX.NF.of s_TextError___init__ "__init__" "TextError.__init__" [(("__class__" : Str), cc)] F.c
  bI : Binds K fdI ["self", "row", "word"] []
  hfI : ∃ oc od osl doc pm an ct, fdI = PySem.W.fnX F.name F.qual F.params F.body F.scope F.cl .none .none doc pm an (.ref F.c) ct ∧ K.lookup fI = some ⟨oc, od, .func fdI, osl⟩
  cdI : PySem.W.codeIn K (.ref F.c) F.qual = true
end K01

set_option maxRecDepth 100000
set_option maxHeartbeats 4000000
/-! law_k01: TextError made and raised. -/
namespace K01
open PySem PySem.Spec PyProof.Rows L2 Evl Dat
section
variable {P : Program} {w : World} {K : PySem.W.Frag} {mg : Str → Option Value} {base : Heap} {C fI cc oA : Addr} {tL tD : Tok} {F : NdefX.NF} {fdI : FuncData}
theorem ns_init : NdefX.NScope ["self", "row", "word", "__class__"] ["self", "row", "word"] ["__class__"] (defScope s_TextError___init__) := NdefX.nscope_by (by decide +kernel)
theorem upd_del {H H2 : Hp} {a d : Addr} {o o' : HO} (ha : H a = none) (hd : d ≠ a) (e : H2 = upd (upd (upd (upd H a o) d o') a o) d o') (u : HO) : upd (del H2 a) d u = upd H d u := by
  subst e
  funext b
  unfold upd del
  by_cases h1 : b = d
  · simp [h1]
  · by_cases h2 : b = a
    · simp [h2, Ne.symm hd, ha]
    · simp [h1, h2]
theorem ok_init (T : Txt P K mg C fI cc oA tL tD F fdI) : FnOk P w K mg base CX0 1 fI fdI ["self", "row", "word"] (spInit C) := by
  have hF := T.hF
  obtain ⟨oc, od, osl, doc, pm, an, ct, hfd, lk⟩ := T.hfI
  have hb : F.body = defBody s_TextError___init__ := by rw [hF]; rfl
  have hs : F.scope = defScope s_TextError___init__ := by rw [hF]; rfl
  have hp : F.params = defArgs s_TextError___init__ := by rw [hF]; rfl
  refine fnS_of (ps := ["self", "row", "word"]) (N := ["self", "row", "word", "__class__"]) (ag := _) (rs := _) T.sup hfd lk T.cdI (hb.trans rfl) (by rw [hs]; exact ns_init) (by rw [hp]; rfl) rfl (by rw [hs]; rfl) (by rw [hs]; rfl) (by rw [hs]; rfl)
    (fun vs H Q E h => ?_) (fun vs H Q E h => ?_) (fun L => ⟨⟨_, rfl⟩, rfl⟩) (fun A outer s H vs Q E hr h => ?_)
  · obtain ⟨a, r, w, rfl, _⟩ := h
    rfl
  · obtain ⟨a, r, w, rfl, ha, _⟩ := h
    exact ⟨a, _, rfl, ha⟩
  · obtain ⟨a, r, w, rfl, ha, q⟩ := h
    have ns := ns_init
    rw [hF]
    refine ⟨_, pss_cons (ps_ost (pe_var (i := 0) rfl (.inl rfl)) (pe_var (i := 1) rfl (.inl rfl))) (pss_one (ps_ost (pe_var (i := 0) rfl (.inl rfl)) (pe_var (i := 2) rfl (.inl rfl)))), ?_⟩
    refine ⟨.int r, rfl, .ref a, rfl, a, C, rfl, T.sup.T, T.nRow, .inl ⟨ha, fun dx hd ne => ?_⟩⟩
    refine ⟨.str w, rfl, .ref a, rfl, a, C, rfl, T.sup.T, T.nWord, .inr ⟨dx, _, upd_same, by rw [upd_ne ne]; exact upd_same, (by show 1 ≤ 900; omega), ?_⟩⟩
    exact q dx hd ne
/-- TextError(row, word) -/
theorem Txt.mk_TextError {X : Cx} {k : Nat} {e : Expr} {es : List Expr} {ta : TA} {p pos : Pos} (T : Txt X.prog X.K X.mg C fI cc oA tL tD F fdI) (hr : Room k X.A) (ha : PA X (e :: es) ta) (hk : 2 ≤ k := by omega) (hg : Gl X "TextError" := by rfl)
    (he : starEach (e :: es) X.env = (false, eval e X.env) :: starEach es X.env := by rfl) (hpl : (backTo pos (starEach es X.env)).any (·.1) = false := by rfl) :
    PMk X (.Call (.Name "TextError" p) (e :: es) [] pos) (tMkO C (spInit C) [] ta) :=
  pmk_oex (CX := CX0) (sp := spInit C) (ds := []) (dvs := []) T.sup.T T.iI T.tI (ok_init T) (hr.mono hk) T.bI .nil pass0 hg T.g_TextError ha (by decide) he hpl
/-- its reading, the arguments told -/
theorem mkO_of {H1 : Hp} {r : Int} {w : Str} {Q : XK} (q : ∀ d, H1 d = none → Q (.ref C) (some d) (upd H1 d (xrow r w))) :
    ([V.int r, V.str w] : List V).length ≤ 1000 ∧ ∀ a, H1 a = none → spInit C (.ref a :: ([V.int r, V.str w] ++ [])) (upd H1 a (exo a C none))
      (fun v H2 => v = .non ∧ ∃ (d : Addr) (fs : List (Str × V)), H2 a = some (exo a C (some d)) ∧ H2 d = some (exd d fs) ∧ H1 d = none ∧ Q (.ref C) (some d) (upd (del H2 a) d (.xd fs))) (fun _ _ _ => False) := by
  refine ⟨by show 2 ≤ 1000; omega, fun a ha => ⟨a, r, w, rfl, upd_same, fun dx hd ne => ⟨rfl, dx, _, by rw [upd_ne (Ne.symm ne)]; exact upd_same, upd_same, ?_, ?_⟩⟩⟩
  · rw [upd_ne ne] at hd
    exact hd
  · have hd' : H1 dx = none := by rw [upd_ne ne] at hd; exact hd
    have e : upd (del (upd (upd (upd (upd H1 a (exo a C none)) dx (exd dx [(("row" : Str), V.int r)])) a (exo a C (some dx))) dx (exd dx [(("word" : Str), V.str w), (("row" : Str), V.int r)])) a) dx (.xd [(("word" : Str), V.str w), (("row" : Str), V.int r)]) = upd H1 dx (xrow r w) := by
      funext b
      unfold upd del xrow
      by_cases h1 : b = dx
      · simp [h1]
      · by_cases h2 : b = a
        · simp [h2, Ne.symm ne, ha]
        · simp [h1, h2]
    rw [e]
    exact q dx hd'
end
end K01

set_option maxRecDepth 100000
set_option maxHeartbeats 4000000
/-! law_k01: is_name, is_ref, is_fresh. -/
namespace K01
open PySem PySem.Spec PyProof.Rows L2 Evl Dat
/-! ### what is shaped -/
theorem sh_str {s : Str} (h : s.length ≤ 1000) (hk : PyData.strOk s = true) : SeqAt.shaped (.str s) = true := by
  unfold SeqAt.shaped
  have : s.length ≤ sizeLine := by rw [sizeLine_eq]; omega
  simp [PyData.canLay0, PyData.depth, this, hk]
theorem at0 {α : Type} {c : α} {r : List α} : atI (c :: r) 0 = some c := atI_nat (j := 0) rfl
section
variable {P : Program} {w : World} {K : PySem.W.Frag} {mg : Str → Option Value} {base : Heap} {C fI cc oA : Addr} {tL tD : Tok} {F : NdefX.NF} {fdI : FuncData} {f : Addr} {fd : FuncData}
theorem dpa1 {H : Hp} {vs : List V} {d : PyData} (h : DpAll K H vs [d]) : ∃ v, vs = [v] ∧ Dp K H v d := by
  cases h with
  | cons h t => cases t; exact ⟨_, rfl, h⟩
theorem dpa2 {H : Hp} {vs : List V} {d e : PyData} (h : DpAll K H vs [d, e]) : ∃ v u, vs = [v, u] ∧ Dp K H v d ∧ Dp K H u e := by
  cases h with
  | cons h t =>
    obtain ⟨u, rfl, hu⟩ := dpa1 t
    exact ⟨_, _, rfl, h, hu⟩
theorem wch_app : LET ++ DIG ++ ("_" : Str) = (⟨wch.toArray⟩ : Str) := by decide +kernel
theorem let_lets : LET.cps.toList = letters := rfl
def R_is_name : List PyData → PyData → Prop := fun ds r => ∃ s : Str, ds = [.str s] ∧ s.length ≤ 1000 ∧ r = .bool (isName s.cps.toList)
theorem ok_is_name (D : Def' K mg "is_name" s_is_name ["word"] f fd) (T : Txt P K mg C fI cc oA tL tD F fdI) : FnOk P w K mg base CX0 1 f fd ["word"] (SpD K R_is_name) := by
  refine D.fn.ok sc_is_name (fun vs H Q E h => ?_) (fun cdv A outer s H vs Q E hr h => ?_)
  · obtain ⟨ds, r, ks, ⟨s, rfl, _⟩, _⟩ := h
    exact dpa_len ks
  · obtain ⟨ds, r, ks, ⟨z, rfl, hz, rfl⟩, q⟩ := h
    obtain ⟨v, rfl, kv⟩ := dpa1 ks
    refine ⟨_, (pss_one (ps_ret (pe_and (pe_cmpR op_ne (pv 0) pe_str (nomark _)) (pe_and (pe_cmpR op_in_sign (pe_ix ix_seq (pv 0) pe_int (fun _ _ => rfl)) (pe_glob (v := .str _) (by rfl) T.g_LETTERS ⟨_, rfl⟩) (by rfl)) (pe_one (pe_callB (cr_all rfl) (by rfl) T.z_all (by decide +kernel) (pa_cons (pe_lc (own := [("char", 1)]) (g := gName 1) (by rfl) sc_is_name.nd (pi_str (pv 0)) (blkOk_by (own := [("char", 1)]) (N := ["word", "char"]) (sc := defScope s_is_name) (by decide +kernel)) (fun _ _ _ _ _ => pg_name (i := 1) sc_is_name.nd rfl (Or.inl rfl)) (fun _ _ _ _ _ => pts_nil) (fun _ _ _ _ _ => (pe_cmpR op_in_sign (pv 1) (pe_op op_add_str (pe_op op_add_str (pe_glob (v := .str _) (by rfl) T.g_LETTERS ⟨_, rfl⟩) (pe_glob (v := .str _) (by rfl) T.g_DIGITS ⟨_, rfl⟩)) pe_str) (by rfl)))) pa_nil))))))), ?_⟩
    have zl : z.length = z.cps.toList.length := by simp [Str.length]
    refine d_ret (d := .bool (isName z.cps.toList)) ?_ (fun u H1 e k => q u H1 e k)
    have h0 : EvD K (tVar 0) (start ["word", "char"] [v]) H (.str z) := ed_var rfl kv
    cases hw : z.cps.toList with
    | nil =>
      refine (ed_andV (a := false) (b := false) ((ed_neS h0 ed_str).is ?_) (fun h => by cases h)).is rfl
      have e : z = ("" : Str) := Str.ext' (Array.toList_inj.mp (hw.trans (by decide +kernel)))
      rw [e]; rfl
    | cons c r =>
      have hne : decide (z = ("" : Str)) = false := decide_eq_false fun e => by
        rw [e] at hw
        exact absurd hw (by rw [show ("" : Str).cps.toList = [] by decide +kernel]; simp)
      refine (ed_andV (a := true) (b := decide (c ∈ letters) && (c :: r).all isW) ((ed_neS h0 ed_str).is (by rw [hne]; rfl)) (fun _ => ed_andV (ed_inSign (c := c) (ed_ixS h0 ed_int (by omega) (by rw [hw]; exact at0)) (ed_c (.str LET))) (fun _ => ?_))).is (by simp [isName])
      refine (ed_all (bs := (c :: r).map isW) ?_).is (by rw [List.all_map]; rfl)
      refine (ed_lcS (s := z) (f := fun c => .bool (isW c)) h0 (by have : z.length = z.cps.size := rfl; omega) (fun _ => rfl) (fun _ => rfl) (fun c hc H' e => ?_)).is (by rw [hw, List.map_map]; rfl)
      refine (ed_inSign (c := c) (s := ⟨wch.toArray⟩) (ed_var (i := 1) rfl (.str ⟨#[c]⟩)) ?_).is rfl
      exact (ed_addS (a := LET ++ DIG) (b := "_") (ed_addS (a := LET) (b := DIG) (ed_c (.str LET)) (ed_c (.str DIG)) (by decide +kernel)) ed_str (by decide +kernel)).is (by rw [wch_app])
end
end K01

set_option maxRecDepth 100000
set_option maxHeartbeats 4000000
/-! law_k01: is_ref, is_fresh, write_type. -/
namespace K01
open PySem PySem.Spec PyProof.Rows L2 Evl Dat TL
theorem kd_inj {a b : Kd} (h : a.d = b.d) : a = b := by
  have e := eqv_kd a b
  rw [h] at e
  have e2 := eqv_kd b b
  rw [e2] at e
  have : decide (a = b) = true := by rw [← e]; simp
  exact of_decide_eq_true this
open Classical in
/-- a function of kinds as one of data -/
noncomputable def liftK {α : Type} (g : Kd → α) (z : α) (d : PyData) : α := if h : ∃ k : Kd, d = k.d then g (Classical.choose h) else z
theorem liftK_d {α : Type} (g : Kd → α) (z : α) (k : Kd) : liftK g z k.d = g k := by
  unfold liftK
  have h : ∃ k' : Kd, k.d = k'.d := ⟨k, rfl⟩
  rw [dif_pos h]
  rw [← kd_inj (Classical.choose_spec h)]
def S (l : List Nat) : Str := ⟨l.toArray⟩
theorem S_tl (s : Str) : S s.cps.toList = s := rfl
theorem tl_S (l : List Nat) : (S l).cps.toList = l := rfl
theorem S_len (l : List Nat) : (S l).length = l.length := rfl
theorem S_app (a b : List Nat) : S a ++ S b = S (a ++ b) := ext_tl (by rw [tl_append]; rfl)
theorem fn0 {P : Program} {w : World} {K : PySem.W.Frag} {mg : Str → Option Value} {base : Heap} {CX : CXT} {k : Nat} {f : Addr} {fd : FuncData} {ps : List Str} {sp : Sp} (no : ∀ vs H Q E, ¬ sp vs H Q E) : FnOk P w K mg base CX k f fd ps sp :=
  ⟨fun vs H Q E h => absurd h (no vs H Q E), fun A outer s H args us vs Q E _ _ _ _ h => absurd h (no vs H Q E)⟩
section
variable {P : Program} {w : World} {K : PySem.W.Frag} {mg : Str → Option Value} {base : Heap} {C fI cc oA : Addr} {tL tD : Tok} {F : NdefX.NF} {fdI : FuncData} {f : Addr} {fd : FuncData} {σ : L2.St} {H : Hp} {v : V} {ds : List PyData} {ta : TE}
/-- kind[0] == text -/
theorem k0_eq {a b : Str} {r : Bool} (h0 : EvD K ta σ H (.tuple (.str a :: ds))) (h : (a == b) = r) (sa : SeqAt.shaped (.str a) = true := by decide +kernel) (sb : SeqAt.shaped (.str b) = true := by decide +kernel) :
    EvD K (tOp (rEqD K) (tOp (rIx K) ta (tC (.int 0))) (tC (.str b))) σ H (.bool r) := te_eq (ed_ixT h0 ed_int at0) ed_str sa sb (by simpa [PyData.eqv] using h)
theorem k0_ne {a b : Str} {r : Bool} (h0 : EvD K ta σ H (.tuple (.str a :: ds))) (h : (a == b) = !r) (sa : SeqAt.shaped (.str a) = true := by decide +kernel) (sb : SeqAt.shaped (.str b) = true := by decide +kernel) :
    EvD K (tOp (rNeD K) (tOp (rIx K) ta (tC (.int 0))) (tC (.str b))) σ H (.bool r) := te_ne (ed_ixT h0 ed_int at0) ed_str sa sb (by simpa [PyData.eqv] using h)
def R_is_ref : List PyData → PyData → Prop := fun ds r => ∃ k : Kd, ds = [k.d] ∧ r = .bool k.isRef
theorem ok_is_ref (D : Def' K mg "is_ref" s_is_ref ["kind"] f fd) (T : Txt P K mg C fI cc oA tL tD F fdI) : FnOk P w K mg base CX0 1 f fd ["kind"] (SpD K R_is_ref) := by
  refine D.fn.ok sc_is_ref (fun vs H Q E h => ?_) (fun cdv A outer s H vs Q E hr h => ?_)
  · obtain ⟨ds, r, ks, ⟨s, rfl, _⟩, _⟩ := h
    exact dpa_len ks
  · obtain ⟨ds, r, ks, ⟨k, rfl, rfl⟩, q⟩ := h
    obtain ⟨v, rfl, kv⟩ := dpa1 ks
    refine ⟨_, (pss_one (ps_ret (pe_not (pe_and (pe_callB call_isi (by rfl) T.z_isinstance (by decide +kernel) (pa_cons (pv 0) (pa_cons (pe_bltn (v := .ty "str") (by rfl) T.z_str (by decide +kernel) rfl) pa_nil))) (pe_one (pe_cmpR (op_neD (un64 hr)) (pv 0) pe_str (nomark _))))))), ?_⟩
    refine d_ret (d := .bool k.isRef) ?_ (fun u H1 e k => q u H1 e k)
    have h0 : EvD K (tVar 0) (start ["kind"] [v]) H k.d := ed_var rfl kv
    cases k <;> first
      | exact (ed_notV (ed_andV (a := false) (b := false) ((ed_isi h0 (T.isi _)).is rfl) (fun h => (by cases h)))).is rfl
      | exact (ed_notV (ed_andV (a := true) (b := true) ((ed_isi h0 (T.isi _)).is rfl) (fun _ => te_ne h0 ed_str (by decide +kernel) (by decide +kernel) (by decide +kernel)))).is rfl
      | exact (ed_notV (ed_andV (a := true) (b := false) ((ed_isi h0 (T.isi _)).is rfl) (fun _ => te_ne h0 ed_str (by decide +kernel) (by decide +kernel) (by decide +kernel)))).is rfl
def R_is_fresh : List PyData → PyData → Prop := fun ds r => ∃ k : Kd, ds = [k.d] ∧ r = .bool k.isFresh
theorem ok_is_fresh (D : Def' K mg "is_fresh" s_is_fresh ["kind"] f fd) (T : Txt P K mg C fI cc oA tL tD F fdI) : FnOk P w K mg base CX0 1 f fd ["kind"] (SpD K R_is_fresh) := by
  refine D.fn.ok sc_is_fresh (fun vs H Q E h => ?_) (fun cdv A outer s H vs Q E hr h => ?_)
  · obtain ⟨ds, r, ks, ⟨s, rfl, _⟩, _⟩ := h
    exact dpa_len ks
  · obtain ⟨ds, r, ks, ⟨k, rfl, rfl⟩, q⟩ := h
    obtain ⟨v, rfl, kv⟩ := dpa1 ks
    refine ⟨_, (pss_one (ps_ret (pe_and (pe_not (pe_callB call_isi (by rfl) T.z_isinstance (by decide +kernel) (pa_cons (pv 0) (pa_cons (pe_bltn (v := .ty "str") (by rfl) T.z_str (by decide +kernel) rfl) pa_nil)))) (pe_one (pe_cmpR (op_eqD (un64 hr)) (pe_ix ix_seq (pv 0) pe_int (fun _ _ => rfl)) pe_str (nomark _)))))), ?_⟩
    refine d_ret (d := .bool k.isFresh) ?_ (fun u H1 e k => q u H1 e k)
    have h0 : EvD K (tVar 0) (start ["kind"] [v]) H k.d := ed_var rfl kv
    cases k <;> first
      | exact (ed_andV (a := false) (b := false) ((ed_notV ((ed_isi h0 (T.isi _)).is rfl)).is rfl) (fun h => (by cases h))).is rfl
      | exact (ed_andV (a := true) (b := false) ((ed_notV ((ed_isi h0 (T.isi _)).is rfl)).is rfl) (fun _ => k0_eq h0 (by decide +kernel))).is rfl
      | exact (ed_andV (a := true) (b := true) ((ed_notV ((ed_isi h0 (T.isi _)).is rfl)).is rfl) (fun _ => k0_eq h0 (by decide +kernel))).is rfl
/-! ### write_type -/
theorem ed_addL {a b : List Nat} {tb : TE} (ha : EvD K ta σ H (.str (S a))) (hb : EvD K tb σ H (.str (S b))) (hz : a.length + b.length ≤ 100000) :
    EvD K (tOp (fun x y H Q => ∃ i j, x = .str i ∧ y = .str j ∧ i.length + j.length ≤ sizeLine ∧ Q (.str (i ++ j)) H) ta tb) σ H (.str (S (a ++ b))) := (ed_addS ha hb hz).is (by rw [S_app])
theorem ed_lit {s : Str} {l : List Nat} (h : s = S l) : EvD K (tC (.str s)) σ H (.str (S l)) := h ▸ ed_str
mutual
def Kd.dep : Kd → Nat
  | .arr k => k.dep + 1
  | .chan k => k.dep + 1
  | .weak k => k.dep + 1
  | .fn ps r => max (Kd.depAll ps) r.dep + 1
  | _ => 0
def Kd.depAll : List Kd → Nat
  | [] => 0
  | k :: r => max k.dep (Kd.depAll r)
end
theorem depAll_mem : ∀ {ps : List Kd} {k : Kd}, k ∈ ps → k.dep ≤ Kd.depAll ps
  | [], _, h => by cases h
  | p :: r, k, h => by
    have e : Kd.depAll (p :: r) = max p.dep (Kd.depAll r) := rfl
    rcases List.mem_cons.mp h with rfl | h
    · omega
    · have := depAll_mem h
      omega
theorem join_mem : ∀ {ps : List Kd} {k : Kd}, k ∈ ps → k.wr.length ≤ (joinL [44] (Kd.wrAll ps)).length
  | [], _, h => by cases h
  | [p], k, h => by
    have e : k = p := by simpa using h
    rw [e]
    exact Nat.le_refl _
  | p :: q :: r, k, h => by
    have e : joinL [44] (Kd.wrAll (p :: q :: r)) = p.wr ++ ([44] ++ joinL [44] (Kd.wrAll (q :: r))) := rfl
    rw [e]
    rcases List.mem_cons.mp h with rfl | h
    · simp
    · have := join_mem (ps := q :: r) h
      simp only [List.length_append]
      omega
theorem sum_join : ∀ (ps : List Kd), (ps.map fun k => k.wr.length).sum + (ps.length - 1) = (joinL [44] (Kd.wrAll ps)).length
  | [] => rfl
  | [p] => by simp [Kd.wrAll, joinL]
  | p :: q :: r => by
    have e : joinL [44] (Kd.wrAll (p :: q :: r)) = p.wr ++ ([44] ++ joinL [44] (Kd.wrAll (q :: r))) := rfl
    have ih := sum_join (q :: r)
    rw [e]
    simp only [List.map_cons, List.sum_cons, List.length_append, List.length_cons] at ih ⊢
    simp only [List.length_nil]
    omega
mutual
def noFresh : Kd → Bool
  | .arr k => noFresh k
  | .chan k => noFresh k
  | .weak k => noFresh k
  | .fn ps r => noFreshs ps && noFresh r
  | .fresh _ _ => false
  | _ => true
def noFreshs : List Kd → Bool
  | [] => true
  | k :: r => noFresh k && noFreshs r
end
theorem noFreshs_mem : ∀ {ps : List Kd}, noFreshs ps = true → ∀ k ∈ ps, noFresh k = true
  | [], _, k, h => by cases h
  | p :: r, h, k, hk => by
    have h' : noFresh p = true ∧ noFreshs r = true := by simpa [noFreshs] using h
    rcases List.mem_cons.mp hk with rfl | hk
    · exact h'.1
    · exact noFreshs_mem h'.2 k hk
/-- n levels are enough -/
def R_write : Nat → List PyData → PyData → Prop
  | 0 => fun _ _ => False
  | n + 1 => fun ds r => ∃ k : Kd, ds = [k.d] ∧ k.dep ≤ n ∧ k.wr.length ≤ 1000 ∧ noFresh k = true ∧ r = .str (S k.wr)
theorem ok_write_type (D_write_type : Def' K mg "write_type" s_write_type ["kind"] f fd) (T : Txt P K mg C fI cc oA tL tD F fdI) : ∀ n, FnOk P w K mg base CX0 n f fd ["kind"] (SpD K (R_write n))
  | 0 => fn0 fun vs H Q E h => by
    obtain ⟨_, _, _, h, _⟩ := h
    exact h
  | n + 1 => by
    have G_write_type := ok_write_type D_write_type T n
    refine D_write_type.fn.ok sc_write_type (fun vs H Q E h => ?_) (fun cdv A outer s H vs Q E hr h => ?_)
    · obtain ⟨ds, r, ks, ⟨s, rfl, _⟩, _⟩ := h
      exact dpa_len ks
    · obtain ⟨ds, r, ks, ⟨k, rfl, hd, hl, hf, rfl⟩, q⟩ := h
      obtain ⟨v, rfl, kv⟩ := dpa1 ks
      refine ⟨_, (pss_cons (ps_if (pt_val (pe_callB call_isi (by rfl) T.z_isinstance (by decide +kernel) (pa_cons (pv 0) (pa_cons (pe_bltn (v := .ty "str") (by rfl) T.z_str (by decide +kernel) rfl) pa_nil)))) (pss_one (ps_ret (pv 0))) pss_nil)
    (pss_cons (ps_if (pt_cmpR (op_eqD (un64 hr)) (pe_ix ix_seq (pv 0) pe_int (fun _ _ => rfl)) pe_str (nomark _)) (pss_one (ps_ret (pe_ix ix_seq (pv 0) pe_int (fun _ _ => rfl)))) pss_nil)
    (pss_cons (ps_if (pt_cmpR (op_eqD (un64 hr)) (pe_ix ix_seq (pv 0) pe_int (fun _ _ => rfl)) pe_str (nomark _)) (pss_one (ps_ret (pe_op op_add_str (pe_op op_add_str pe_str (pcall D_write_type G_write_type (hr.mono (by omega)) (pa_cons (pe_ix ix_seq (pv 0) pe_int (fun _ _ => rfl)) pa_nil))) pe_str))) pss_nil)
    (pss_cons (ps_if (pt_cmpR (op_eqD (un64 hr)) (pe_ix ix_seq (pv 0) pe_int (fun _ _ => rfl)) pe_str (nomark _)) (pss_one (ps_ret (pe_op op_add_str (pe_op op_add_str pe_str (pcall D_write_type G_write_type (hr.mono (by omega)) (pa_cons (pe_ix ix_seq (pv 0) pe_int (fun _ _ => rfl)) pa_nil))) pe_str))) pss_nil)
    (pss_cons (ps_if (pt_cmpR (op_eqD (un64 hr)) (pe_ix ix_seq (pv 0) pe_int (fun _ _ => rfl)) pe_str (nomark _)) (pss_one (ps_ret (pe_op op_add_str pe_str (pcall D_write_type G_write_type (hr.mono (by omega)) (pa_cons (pe_ix ix_seq (pv 0) pe_int (fun _ _ => rfl)) pa_nil))))) pss_nil)
    (pss_cons (ps_if (pt_cmpR (op_eqD (un64 hr)) (pe_ix ix_seq (pv 0) pe_int (fun _ _ => rfl)) pe_str (nomark _)) (pss_one (ps_ret (pe_op op_add_str (pe_op op_add_str (pe_op op_add_str pe_str (pe_join pe_str (pe_lc (own := [("one", 1)]) (g := gName 1) (by rfl) sc_write_type.nd (pi_tup (pe_ix ix_seq (pv 0) pe_int (fun _ _ => rfl))) (blkOk_by (own := [("one", 1)]) (N := ["kind", "one"]) (sc := defScope s_write_type) (by decide +kernel)) (fun _ _ _ _ _ => pg_name (i := 1) sc_write_type.nd rfl (Or.inl rfl)) (fun _ _ _ _ _ => pts_nil) (fun _ _ _ _ _ => (pcall D_write_type G_write_type (hr.mono (by omega)) (pa_cons (pv 1) pa_nil)))))) pe_str) (pcall D_write_type G_write_type (hr.mono (by omega)) (pa_cons (pe_ix ix_seq (pv 0) pe_int (fun _ _ => rfl)) pa_nil))))) pss_nil)
    (pss_one ps_never))))))), ?_⟩
      have h0 : ∀ H1, Ex H H1 → EvD K (tVar 0) (start ["kind", "one"] [v]) H1 k.d := fun H1 e => ed_var rfl (dp_ex e kv)
      have fin : ∀ {d : PyData}, d = .str (S k.wr) → ∀ H1, Ex H H1 → ∀ u H2, Ex H1 H2 → Dp K H2 u d → Q u H2 := fun ed H1 e1 u H2 e2 ku => q u H2 (e1.trans e2) (ed ▸ ku)
      have rec_ : ∀ (k' : Kd) {te : TE} {H1 : Hp} {σ : L2.St}, EvD K te σ H1 k'.d → k'.dep + 1 ≤ n → k'.wr.length ≤ 1000 → noFresh k' = true → EvD K (tCall (SpD K (R_write n)) [] E0 (tCons te tNil)) σ H1 (.str (S k'.wr)) := fun k' te H1 σ h1 h2 h3 h4 => by
        obtain ⟨m, rfl⟩ : ∃ m, n = m + 1 := ⟨n - 1, by omega⟩
        exact ed_call (eda_cons h1 eda_nil) ⟨k', rfl, by omega, h3, h4, rfl⟩
      cases k with
      | int => exact dq_ifT (et_dB ((ed_isi (h0 H (Ex.refl H)) (T.isi _)).is rfl)) fun H1 e1 => d_ret (h0 H1 e1) (fin rfl H1 e1)
      | void => exact dq_ifT (et_dB ((ed_isi (h0 H (Ex.refl H)) (T.isi _)).is rfl)) fun H1 e1 => d_ret (h0 H1 e1) (fin rfl H1 e1)
      | null => exact dq_ifT (et_dB ((ed_isi (h0 H (Ex.refl H)) (T.isi _)).is rfl)) fun H1 e1 => d_ret (h0 H1 e1) (fin rfl H1 e1)
      | unset => exact dq_ifT (et_dB ((ed_isi (h0 H (Ex.refl H)) (T.isi _)).is rfl)) fun H1 e1 => d_ret (h0 H1 e1) (fin rfl H1 e1)
      | cls a =>
        refine dq_ifF (et_dB ((ed_isi (h0 H (Ex.refl H)) (T.isi _)).is rfl)) fun H1 e1 => ?_
        refine dq_ifT (et_d (k0_eq (h0 H1 e1) (by decide +kernel))) fun H2 e2 => ?_
        exact d_ret (ed_ixT (h0 H2 (e1.trans e2)) ed_int (atI_nat (j := 1) rfl)) (fin rfl H2 (e1.trans e2))
      | arr k =>
        refine dq_ifF (et_dB ((ed_isi (h0 H (Ex.refl H)) (T.isi _)).is rfl)) fun H1 e1 => ?_
        refine dq_ifF (et_d (k0_eq (h0 H1 e1) (by decide +kernel))) fun H2 e2 => ?_
        have e2 := e1.trans e2
        refine dq_ifT (et_d (k0_eq (h0 H2 e2) (by decide +kernel))) fun H3 e3 => ?_
        have e3 := e2.trans e3
        have hl' : k.wr.length + 2 ≤ 1000 := by simpa [Kd.wr] using hl
        exact d_ret (ed_addL (ed_addL (ed_lit (l := [91]) (by decide +kernel)) (rec_ k (ed_ixT (h0 H3 e3) ed_int (atI_nat (j := 1) rfl)) (by simpa [Kd.dep] using hd) (by omega) (by simpa [noFresh] using hf)) (by simp; omega)) (ed_lit (l := [93]) (by decide +kernel)) (by simp; omega)) (fin (by simp [Kd.wr]) H3 e3)
      | chan k =>
        refine dq_ifF (et_dB ((ed_isi (h0 H (Ex.refl H)) (T.isi _)).is rfl)) fun H1 e1 => ?_
        refine dq_ifF (et_d (k0_eq (h0 H1 e1) (by decide +kernel))) fun H2 e2 => ?_
        have e2 := e1.trans e2
        refine dq_ifF (et_d (k0_eq (h0 H2 e2) (by decide +kernel))) fun H3 e3 => ?_
        have e3 := e2.trans e3
        refine dq_ifT (et_d (k0_eq (h0 H3 e3) (by decide +kernel))) fun H4 e4 => ?_
        have e4 := e3.trans e4
        have hl' : k.wr.length + 2 ≤ 1000 := by simpa [Kd.wr] using hl
        exact d_ret (ed_addL (ed_addL (ed_lit (l := [60]) (by decide +kernel)) (rec_ k (ed_ixT (h0 H4 e4) ed_int (atI_nat (j := 1) rfl)) (by simpa [Kd.dep] using hd) (by omega) (by simpa [noFresh] using hf)) (by simp; omega)) (ed_lit (l := [62]) (by decide +kernel)) (by simp; omega)) (fin (by simp [Kd.wr]) H4 e4)
      | weak k =>
        refine dq_ifF (et_dB ((ed_isi (h0 H (Ex.refl H)) (T.isi _)).is rfl)) fun H1 e1 => ?_
        refine dq_ifF (et_d (k0_eq (h0 H1 e1) (by decide +kernel))) fun H2 e2 => ?_
        have e2 := e1.trans e2
        refine dq_ifF (et_d (k0_eq (h0 H2 e2) (by decide +kernel))) fun H3 e3 => ?_
        have e3 := e2.trans e3
        refine dq_ifF (et_d (k0_eq (h0 H3 e3) (by decide +kernel))) fun H4 e4 => ?_
        have e4 := e3.trans e4
        refine dq_ifT (et_d (k0_eq (h0 H4 e4) (by decide +kernel))) fun H5 e5 => ?_
        have e5 := e4.trans e5
        have hl' : k.wr.length + 1 ≤ 1000 := by simpa [Kd.wr] using hl
        exact d_ret (ed_addL (ed_lit (l := [63]) (by decide +kernel)) (rec_ k (ed_ixT (h0 H5 e5) ed_int (atI_nat (j := 1) rfl)) (by simpa [Kd.dep] using hd) (by omega) (by simpa [noFresh] using hf)) (by simp; omega)) (fin (by simp [Kd.wr]) H5 e5)
      | fn ps r =>
        refine dq_ifF (et_dB ((ed_isi (h0 H (Ex.refl H)) (T.isi _)).is rfl)) fun H1 e1 => ?_
        refine dq_ifF (et_d (k0_eq (h0 H1 e1) (by decide +kernel))) fun H2 e2 => ?_
        have e2 := e1.trans e2
        refine dq_ifF (et_d (k0_eq (h0 H2 e2) (by decide +kernel))) fun H3 e3 => ?_
        have e3 := e2.trans e3
        refine dq_ifF (et_d (k0_eq (h0 H3 e3) (by decide +kernel))) fun H4 e4 => ?_
        have e4 := e3.trans e4
        refine dq_ifF (et_d (k0_eq (h0 H4 e4) (by decide +kernel))) fun H5 e5 => ?_
        have e5 := e4.trans e5
        refine dq_ifT (et_d (k0_eq (h0 H5 e5) (by decide +kernel))) fun H6 e6 => ?_
        have e6 := e5.trans e6
        have hl' : (joinL [44] (Kd.wrAll ps)).length + r.wr.length + 2 ≤ 1000 := by
          have : (Kd.wr (.fn ps r)).length = (joinL [44] (Kd.wrAll ps)).length + r.wr.length + 2 := by simp [Kd.wr]; omega
          omega
        have hd' : Kd.depAll ps + 1 ≤ n ∧ r.dep + 1 ≤ n := by
          have : Kd.dep (.fn ps r) = max (Kd.depAll ps) r.dep + 1 := rfl
          omega
        have hf' : noFreshs ps = true ∧ noFresh r = true := by simpa [noFresh] using hf
        have hsum := sum_join ps
        have hlen : ps.length ≤ 1000 := by
          cases ps with
          | nil => exact Nat.zero_le _
          | cons p qs => have := join_len qs p; simp; omega
        have hjoin : S (joinL [44] (Kd.wrAll ps)) = Txt.join "," (ps.map fun k => S k.wr) := by
          refine ext_tl ?_
          rw [eq_of_beq (PyProof.Rows.join_plain_closes "," (ps.map fun k => S k.wr))]
          show joinL [44] (Kd.wrAll ps) = tl (Str.join _ _)
          rw [tl_join, show tl ("," : Str) = [44] by decide +kernel, wrAll_map, List.map_map]
          rfl
        have hc : ∀ {te : TE} {vs : List Nat}, True := trivial
        refine d_ret (ed_addL (ed_addL (ed_addL (ed_lit (l := [40]) (by decide +kernel)) ((ed_join (a := ",") (ys := ps.map fun k => S k.wr) ed_str ((ed_lcT (ds := Kd.dAll ps) (p := fun _ => true) (f := liftK (fun k => PyData.str (S k.wr)) .none) (ed_ixT (h0 H6 e6) ed_int (atI_nat (j := 1) rfl)) ?a1 (fun _ => rfl) (fun _ _ _ _ _ _ => et_yes) ?a2 ?a3).is ?a4) ?a5).is (by rw [hjoin])) ?a6) (ed_lit (l := [41]) (by decide +kernel)) ?a7) (rec_ r (ed_ixT (h0 H6 e6) ed_int (atI_nat (j := 2) rfl)) (by omega) (by omega) hf'.2) ?a8) (fin (by simp [Kd.wr]) H6 e6)
        case a1 => rw [dAll_map, List.length_map]; exact hlen
        case a2 =>
          intro d hd _
          rw [dAll_map] at hd
          obtain ⟨k, _, rfl⟩ := List.mem_map.mp hd
          rw [liftK_d]
          rfl
        case a3 =>
          intro d hdm _ u H' e' ku
          rw [dAll_map] at hdm
          obtain ⟨k, hk, rfl⟩ := List.mem_map.mp hdm
          rw [liftK_d]
          have h1 := depAll_mem hk
          have h2 := join_mem hk
          exact rec_ k (ed_var (i := 1) rfl ku) (by omega) (by omega) (noFreshs_mem hf'.1 k hk)
        case a4 =>
          congr 1
          rw [dAll_map, List.filter_eq_self.mpr (fun _ _ => rfl), List.map_map, List.map_map]
          refine List.map_congr_left fun k _ => ?_
          show liftK _ _ k.d = _
          rw [liftK_d]
          rfl
        case a5 =>
          have e1 : (ps.map fun k => S k.wr).map (·.length) = ps.map fun k => k.wr.length := by rw [List.map_map]; rfl
          rw [e1, List.length_map, show ("," : Str).length = 1 by decide +kernel]
          omega
        case a6 => simp; omega
        case a7 => simp; omega
        case a8 => simp; omega
      | fresh a i => simp [noFresh] at hf
end
end K01

set_option maxRecDepth 100000
set_option maxHeartbeats 4000000
/-! law_k01: _law_text. -/
namespace K01
open PySem PySem.Spec PyProof.Rows L2 Evl Dat TL
section
variable {P : Program} {w : World} {K : PySem.W.Frag} {mg : Str → Option Value} {base : Heap} {C fI cc oA : Addr} {tL tD : Tok} {F : NdefX.NF} {fdI : FuncData} {f : Addr} {fd : FuncData} {σ : L2.St} {H : Hp} {v : V} {ds : List PyData} {ta : TE}
theorem ok__law_text (D__law_text : Def' K mg "_law_text" s__law_text ["kind"] f fd) (T : Txt P K mg C fI cc oA tL tD F fdI) : ∀ n, FnOk P w K mg base CX0 n f fd ["kind"] (SpD K (R_write n))
  | 0 => fn0 fun vs H Q E h => by
    obtain ⟨_, _, _, h, _⟩ := h
    exact h
  | n + 1 => by
    have G__law_text := ok__law_text D__law_text T n
    refine D__law_text.fn.ok sc__law_text (fun vs H Q E h => ?_) (fun cdv A outer s H vs Q E hr h => ?_)
    · obtain ⟨ds, r, ks, ⟨s, rfl, _⟩, _⟩ := h
      exact dpa_len ks
    · obtain ⟨ds, r, ks, ⟨k, rfl, hd, hl, hf, rfl⟩, q⟩ := h
      obtain ⟨v, rfl, kv⟩ := dpa1 ks
      refine ⟨_, (pss_cons (ps_if (pt_val (pe_callB call_isi (by rfl) T.z_isinstance (by decide +kernel) (pa_cons (pv 0) (pa_cons (pe_bltn (v := .ty "str") (by rfl) T.z_str (by decide +kernel) rfl) pa_nil)))) (pss_one (ps_ret (pv 0))) pss_nil)
    (pss_cons (ps_if (pt_cmpR (op_eqD (un64 hr)) (pe_ix ix_seq (pv 0) pe_int (fun _ _ => rfl)) pe_str (nomark _)) (pss_one (ps_ret (pe_ix ix_seq (pv 0) pe_int (fun _ _ => rfl)))) pss_nil)
    (pss_cons (ps_if (pt_cmpR (op_eqD (un64 hr)) (pe_ix ix_seq (pv 0) pe_int (fun _ _ => rfl)) pe_str (nomark _)) (pss_one (ps_ret (pe_op op_add_str (pe_op op_add_str (pe_op op_add_str pe_str (pe_join pe_str (pe_lc (own := [("one", 1)]) (g := gName 1) (by rfl) sc__law_text.nd (pi_tup (pe_ix ix_seq (pv 0) pe_int (fun _ _ => rfl))) (blkOk_by (own := [("one", 1)]) (N := ["kind", "one", "inner"]) (sc := defScope s__law_text) (by decide +kernel)) (fun _ _ _ _ _ => pg_name (i := 1) sc__law_text.nd rfl (Or.inl rfl)) (fun _ _ _ _ _ => pts_nil) (fun _ _ _ _ _ => (pcall D__law_text G__law_text (hr.mono (by omega)) (pa_cons (pv 1) pa_nil)))))) pe_str) (pcall D__law_text G__law_text (hr.mono (by omega)) (pa_cons (pe_ix ix_seq (pv 0) pe_int (fun _ _ => rfl)) pa_nil))))) pss_nil)
    (pss_cons (ps_set (i := 2) sc__law_text.nd rfl (by first | exact Or.inl rfl | exact Or.inr rfl) (pcall D__law_text G__law_text (hr.mono (by omega)) (pa_cons (pe_ix ix_seq (pv 0) pe_int (fun _ _ => rfl)) pa_nil)))
    (pss_one (ps_ret (pe_dget (hu_of hr) (pe_disp (pps_cons pe_str (pe_op op_add_str (pe_op op_add_str pe_str (pv 2)) pe_str) (pps_cons pe_str (pe_op op_add_str (pe_op op_add_str pe_str (pv 2)) pe_str) (pps_cons pe_str (pe_op op_add_str pe_str (pv 2)) pps_nil))) (by rfl) (by rfl) (fun z => by cases z) (by decide)) (pe_ix ix_seq (pv 0) pe_int (fun _ _ => rfl)) (fun _ _ => rfl)))))))), ?_⟩
      have h0 : ∀ H1, Ex H H1 → EvD K (tVar 0) (start ["kind", "one", "inner"] [v]) H1 k.d := fun H1 e => ed_var rfl (dp_ex e kv)
      have fin : ∀ {d : PyData}, d = .str (S k.wr) → ∀ H1, Ex H H1 → ∀ u H2, Ex H1 H2 → Dp K H2 u d → Q u H2 := fun ed H1 e1 u H2 e2 ku => q u H2 (e1.trans e2) (ed ▸ ku)
      have rec_ : ∀ (k' : Kd) {te : TE} {H1 : Hp} {σ : L2.St}, EvD K te σ H1 k'.d → k'.dep + 1 ≤ n → k'.wr.length ≤ 1000 → noFresh k' = true → EvD K (tCall (SpD K (R_write n)) [] E0 (tCons te tNil)) σ H1 (.str (S k'.wr)) := fun k' te H1 σ h1 h2 h3 h4 => by
        obtain ⟨m, rfl⟩ : ∃ m, n = m + 1 := ⟨n - 1, by omega⟩
        exact ed_call (eda_cons h1 eda_nil) ⟨k', rfl, by omega, h3, h4, rfl⟩
      -- the three that take one kind: {..}[kind[0]]
      have last : ∀ (k' : Kd) (a : Str) (l : List Nat) {vs : List Str} {H1 : Hp} {u : V}, Ex H H1 → k.d = .tuple [.str a, k'.d] → Dp K H1 u (.str (S k'.wr)) → k'.wr.length ≤ 1000 →
          ((a = "array" ∧ l = 91 :: (k'.wr ++ [93])) ∨ (a = "channel" ∧ l = 60 :: (k'.wr ++ [62])) ∨ (a = "weak" ∧ l = 63 :: k'.wr)) → l = k.wr →
          (tRet (tDGet (tDisp [(tC (.str "array"), tOp (fun x y H Q => ∃ i j, x = .str i ∧ y = .str j ∧ i.length + j.length ≤ sizeLine ∧ Q (.str (i ++ j)) H) (tOp (fun x y H Q => ∃ i j, x = .str i ∧ y = .str j ∧ i.length + j.length ≤ sizeLine ∧ Q (.str (i ++ j)) H) (tC (.str "[")) (tVar 2)) (tC (.str "]"))),
            (tC (.str "channel"), tOp (fun x y H Q => ∃ i j, x = .str i ∧ y = .str j ∧ i.length + j.length ≤ sizeLine ∧ Q (.str (i ++ j)) H) (tOp (fun x y H Q => ∃ i j, x = .str i ∧ y = .str j ∧ i.length + j.length ≤ sizeLine ∧ Q (.str (i ++ j)) H) (tC (.str "<")) (tVar 2)) (tC (.str ">"))),
            (tC (.str "weak"), tOp (fun x y H Q => ∃ i j, x = .str i ∧ y = .str j ∧ i.length + j.length ≤ sizeLine ∧ Q (.str (i ++ j)) H) (tC (.str "?")) (tVar 2))]) (tOp (rIx K) (tVar 0) (tC (.int 0)))))
            { nx := fun _ H' => Q .non H', rt := Q } [some v, none, some u] H1 := fun k' a l {vs H1 u} e1 ek ku hz ha hlk => by
        have h0' : EvD K (tVar 0) [some v, none, some u] H1 (.tuple [.str a, k'.d]) := ek ▸ ed_var rfl (dp_ex e1 kv)
        have h2 : EvD K (tVar 2) [some v, none, some u] H1 (.str (S k'.wr)) := ed_var rfl ku
        have a1 := ev_edS (ed_addL (ed_addL (ed_lit (s := "[") (l := [91]) (by decide +kernel)) h2 (by simp; omega)) (ed_lit (s := "]") (l := [93]) (by decide +kernel)) (by simp; omega))
        have a2 := ev_edS (ed_addL (ed_addL (ed_lit (s := "<") (l := [60]) (by decide +kernel)) h2 (by simp; omega)) (ed_lit (s := ">") (l := [62]) (by decide +kernel)) (by simp; omega))
        have a3 := ev_edS (ed_addL (ed_lit (s := "?") (l := [63]) (by decide +kernel)) h2 (by simp; omega))
        refine d_ret (d := .str (S l)) (ed_ev (v := .str (S l)) (ev_dget (k := .inr a) (ek_disp (kvs := [(.inr "array", _), (.inr "channel", _), (.inr "weak", _)]) ⟨ev_c, a1, ev_c, a2, ev_c, a3, trivial⟩ (by show 3 ≤ 15; decide) (show ([Sum.inr "array", Sum.inr "channel", Sum.inr "weak"] : List Key).Nodup by decide +kernel)) (ev_edS (ed_ixT h0' ed_int at0)) ?_) (.str _)) (fin (by rw [hlk]) H1 e1)
        rcases ha with ⟨rfl, rfl⟩ | ⟨rfl, rfl⟩ | ⟨rfl, rfl⟩
        · exact valV_pos rfl
        · exact (valV_neg (show ¬ (Sum.inr ("array" : Str) : Key) = Sum.inr ("channel" : Str) by decide +kernel)).trans (valV_pos rfl)
        · exact (valV_neg (show ¬ (Sum.inr ("array" : Str) : Key) = Sum.inr ("weak" : Str) by decide +kernel)).trans ((valV_neg (show ¬ (Sum.inr ("channel" : Str) : Key) = Sum.inr ("weak" : Str) by decide +kernel)).trans (valV_pos rfl))
      cases k with
      | int => exact dq_ifT (et_dB ((ed_isi (h0 H (Ex.refl H)) (T.isi _)).is rfl)) fun H1 e1 => d_ret (h0 H1 e1) (fin rfl H1 e1)
      | void => exact dq_ifT (et_dB ((ed_isi (h0 H (Ex.refl H)) (T.isi _)).is rfl)) fun H1 e1 => d_ret (h0 H1 e1) (fin rfl H1 e1)
      | null => exact dq_ifT (et_dB ((ed_isi (h0 H (Ex.refl H)) (T.isi _)).is rfl)) fun H1 e1 => d_ret (h0 H1 e1) (fin rfl H1 e1)
      | unset => exact dq_ifT (et_dB ((ed_isi (h0 H (Ex.refl H)) (T.isi _)).is rfl)) fun H1 e1 => d_ret (h0 H1 e1) (fin rfl H1 e1)
      | cls a =>
        refine dq_ifF (et_dB ((ed_isi (h0 H (Ex.refl H)) (T.isi _)).is rfl)) fun H1 e1 => ?_
        refine dq_ifT (et_d (k0_eq (h0 H1 e1) (by decide +kernel))) fun H2 e2 => ?_
        exact d_ret (ed_ixT (h0 H2 (e1.trans e2)) ed_int (atI_nat (j := 1) rfl)) (fin rfl H2 (e1.trans e2))
      | arr k =>
        refine dq_ifF (et_dB ((ed_isi (h0 H (Ex.refl H)) (T.isi _)).is rfl)) fun H1 e1 => ?_
        refine dq_ifF (et_d (k0_eq (h0 H1 e1) (by decide +kernel))) fun H2 e2 => ?_
        have e2 := e1.trans e2
        refine dq_ifF (et_d (k0_eq (h0 H2 e2) (by decide +kernel))) fun H3 e3 => ?_
        have e3 := e2.trans e3
        have hl' : k.wr.length + 2 ≤ 1000 := by simpa [Kd.wr] using hl
        refine dq_asg (rec_ k (ed_ixT (h0 H3 e3) ed_int (atI_nat (j := 1) rfl)) (by simpa [Kd.dep] using hd) (by omega) (by simpa [noFresh] using hf)) fun u H4 e4 ku => ?_
        exact last (vs := []) k _ _ (e3.trans e4) rfl ku (by omega) (.inl ⟨rfl, rfl⟩) rfl
      | chan k =>
        refine dq_ifF (et_dB ((ed_isi (h0 H (Ex.refl H)) (T.isi _)).is rfl)) fun H1 e1 => ?_
        refine dq_ifF (et_d (k0_eq (h0 H1 e1) (by decide +kernel))) fun H2 e2 => ?_
        have e2 := e1.trans e2
        refine dq_ifF (et_d (k0_eq (h0 H2 e2) (by decide +kernel))) fun H3 e3 => ?_
        have e3 := e2.trans e3
        have hl' : k.wr.length + 2 ≤ 1000 := by simpa [Kd.wr] using hl
        refine dq_asg (rec_ k (ed_ixT (h0 H3 e3) ed_int (atI_nat (j := 1) rfl)) (by simpa [Kd.dep] using hd) (by omega) (by simpa [noFresh] using hf)) fun u H4 e4 ku => ?_
        exact last (vs := []) k _ _ (e3.trans e4) rfl ku (by omega) (.inr (.inl ⟨rfl, rfl⟩)) rfl
      | weak k =>
        refine dq_ifF (et_dB ((ed_isi (h0 H (Ex.refl H)) (T.isi _)).is rfl)) fun H1 e1 => ?_
        refine dq_ifF (et_d (k0_eq (h0 H1 e1) (by decide +kernel))) fun H2 e2 => ?_
        have e2 := e1.trans e2
        refine dq_ifF (et_d (k0_eq (h0 H2 e2) (by decide +kernel))) fun H3 e3 => ?_
        have e3 := e2.trans e3
        have hl' : k.wr.length + 1 ≤ 1000 := by simpa [Kd.wr] using hl
        refine dq_asg (rec_ k (ed_ixT (h0 H3 e3) ed_int (atI_nat (j := 1) rfl)) (by simpa [Kd.dep] using hd) (by omega) (by simpa [noFresh] using hf)) fun u H4 e4 ku => ?_
        exact last (vs := []) k _ _ (e3.trans e4) rfl ku (by omega) (.inr (.inr ⟨rfl, rfl⟩)) rfl
      | fn ps r =>
        refine dq_ifF (et_dB ((ed_isi (h0 H (Ex.refl H)) (T.isi _)).is rfl)) fun H1 e1 => ?_
        refine dq_ifF (et_d (k0_eq (h0 H1 e1) (by decide +kernel))) fun H2 e2 => ?_
        have e2 := e1.trans e2
        refine dq_ifT (et_d (k0_eq (h0 H2 e2) (by decide +kernel))) fun H6 e6 => ?_
        have e6 := e2.trans e6
        have hl' : (joinL [44] (Kd.wrAll ps)).length + r.wr.length + 2 ≤ 1000 := by
          have : (Kd.wr (.fn ps r)).length = (joinL [44] (Kd.wrAll ps)).length + r.wr.length + 2 := by simp [Kd.wr]; omega
          omega
        have hd' : Kd.depAll ps + 1 ≤ n ∧ r.dep + 1 ≤ n := by
          have : Kd.dep (.fn ps r) = max (Kd.depAll ps) r.dep + 1 := rfl
          omega
        have hf' : noFreshs ps = true ∧ noFresh r = true := by simpa [noFresh] using hf
        have hsum := sum_join ps
        have hlen : ps.length ≤ 1000 := by
          cases ps with
          | nil => exact Nat.zero_le _
          | cons p qs => have := join_len qs p; simp; omega
        have hjoin : S (joinL [44] (Kd.wrAll ps)) = Txt.join "," (ps.map fun k => S k.wr) := by
          refine ext_tl ?_
          rw [eq_of_beq (PyProof.Rows.join_plain_closes "," (ps.map fun k => S k.wr))]
          show joinL [44] (Kd.wrAll ps) = tl (Str.join _ _)
          rw [tl_join, show tl ("," : Str) = [44] by decide +kernel, wrAll_map, List.map_map]
          rfl
        refine d_ret (ed_addL (ed_addL (ed_addL (ed_lit (l := [40]) (by decide +kernel)) ((ed_join (a := ",") (ys := ps.map fun k => S k.wr) ed_str ((ed_lcT (ds := Kd.dAll ps) (p := fun _ => true) (f := liftK (fun k => PyData.str (S k.wr)) .none) (ed_ixT (h0 H6 e6) ed_int (atI_nat (j := 1) rfl)) ?a1 (fun _ => rfl) (fun _ _ _ _ _ _ => et_yes) ?a2 ?a3).is ?a4) ?a5).is (by rw [hjoin])) ?a6) (ed_lit (l := [41]) (by decide +kernel)) ?a7) (rec_ r (ed_ixT (h0 H6 e6) ed_int (atI_nat (j := 2) rfl)) (by omega) (by omega) hf'.2) ?a8) (fin (by simp [Kd.wr]) H6 e6)
        case a1 => rw [dAll_map, List.length_map]; exact hlen
        case a2 =>
          intro d hd _
          rw [dAll_map] at hd
          obtain ⟨k, _, rfl⟩ := List.mem_map.mp hd
          rw [liftK_d]
          rfl
        case a3 =>
          intro d hdm _ u H' e' ku
          rw [dAll_map] at hdm
          obtain ⟨k, hk, rfl⟩ := List.mem_map.mp hdm
          rw [liftK_d]
          have h1 := depAll_mem hk
          have h2 := join_mem hk
          exact rec_ k (ed_var (i := 1) rfl ku) (by omega) (by omega) (noFreshs_mem hf'.1 k hk)
        case a4 =>
          congr 1
          rw [dAll_map, List.filter_eq_self.mpr (fun _ _ => rfl), List.map_map, List.map_map]
          refine List.map_congr_left fun k _ => ?_
          show liftK _ _ k.d = _
          rw [liftK_d]
          rfl
        case a5 =>
          have e1 : (ps.map fun k => S k.wr).map (·.length) = ps.map fun k => k.wr.length := by rw [List.map_map]; rfl
          rw [e1, List.length_map, show ("," : Str).length = 1 by decide +kernel]
          omega
        case a6 => simp; omega
        case a7 => simp; omega
        case a8 => simp; omega
      | fresh a i => simp [noFresh] at hf
end
end K01

set_option maxRecDepth 100000
set_option maxHeartbeats 4000000
/-! law_k01: line_of, names_in. -/
namespace K01
open PySem PySem.Spec PyProof.Rows L2 Evl Dat TL
def opV : Option Str → V
  | none => .non
  | some s => .str s
/-- the dict tells the tree -/
structure PAt (T : Tree) (kvs : List (Key × V)) : Prop where
  get : ∀ s ∈ T.dom, valV kvs (.inr s) = some (opV (T.par s))
  low : ∀ s ∈ T.dom, T.rk s ≤ 1000
section
variable {P : Program} {w : World} {K : PySem.W.Frag} {mg : Str → Option Value} {base : Heap} {C fI cc oA : Addr} {tL tD : Tok} {F : NdefX.NF} {fdI : FuncData} {f : Addr} {fd : FuncData} {σ : L2.St} {H : Hp} {v : V} {ds : List PyData} {ta : TE}
theorem ev_notN {x : V} (h : Ev ta σ H x) : Ev (tNotN ta) σ H (.bl (!decide (x = .non))) := fun H1 e Q q => h H1 e _ fun H2 e2 => q H2 e2
theorem ev_isN {x : V} (h : Ev ta σ H x) : Ev (tIsN ta) σ H (.bl (decide (x = .non))) := fun H1 e Q q => h H1 e _ fun H2 e2 => q H2 e2
def spLine (Tr : Tree) : Sp := fun vs H Q _ => ∃ (a : Addr) (n : Str) (kvs : List (Key × V)), vs = [.ref a, .str n] ∧ Rd H a (.dK kvs) ∧ PAt Tr kvs ∧ n ∈ Tr.dom ∧
  ∀ p H', H p = none → Ex H H' → H' p = some (.lst ((Tr.ln n).map V.str)) → Q (.ref p) H'
theorem ok_line_of (D : Def' K mg "line_of" s_line_of ["parents", "name"] f fd) (Tr : Tree) : FnOk P w K mg base CX0 1 f fd ["parents", "name"] (spLine Tr) := by
  refine D.fn.ok sc_line_of (fun vs H Q E h => ?_) (fun cdv A outer s H vs Q E hr h => ?_)
  · obtain ⟨a, n, kvs, rfl, _⟩ := h
    rfl
  · obtain ⟨a, n, kvs, rfl, hd, PA, hn, q⟩ := h
    refine ⟨_, (pss_cons (ps_set (i := 2) sc_line_of.nd rfl (by first | exact Or.inl rfl | exact Or.inr rfl) (pe_lst pa_nil))
    (pss_cons (ps_while PassesOwn.never ((pw_and (pt_cmp (pc_notN (pv 1))) (pw_and1 (pt_cmpR op_notIn_seq (pv 1) (pv 2) (by rfl))))).pt (pss_cons (ps_expr (pe_bm PySem.F.plainAttrs_list PySem.F.slot_list_append PySem.F.type_list_append mt_append (pv 2) (pa_cons (pv 1) pa_nil)))
    (pss_one (ps_set (i := 1) sc_line_of.nd rfl (by first | exact Or.inl rfl | exact Or.inr rfl) (pe_dget1 (hu_of hr) (pv 0) (pv 1) ⟨rfl, rfl, rfl, rfl⟩)))))
    (pss_one (ps_ret (pv 2))))), ?_⟩
    -- found = []
    refine q_asgL (xs := []) (el_lst ea_nil (Nat.zero_le _)) fun p H1 hp e1 h1 => ?_
    refine q_while (fun m σ' H' => ∃ (acc : List Str) (o : Option Str), σ' = [some (.ref a), some (opV o), some (.ref p)] ∧ Ex H H' ∧ H' p = some (.lst (acc.map V.str)) ∧
        Tr.ln n = acc ++ (match o with | none => [] | some s => Tr.ln s) ∧ (∀ s, o = some s → s ∈ Tr.dom ∧ ∀ y ∈ acc, Tr.rk s < Tr.rk y) ∧ m = (match o with | none => 0 | some s => Tr.rk s + 1) ∧ acc.length ≤ 2000) (Tr.rk n + 1)
      ⟨[], some n, rfl, e1, h1, rfl, fun s e => by cases e; exact ⟨hn, fun y hy => by cases hy⟩, rfl, Nat.zero_le _⟩ fun m σ' H' hw => ?_
    obtain ⟨acc, o, rfl, ex, hacc, hln, ho, rfl, hal⟩ := hw
    cases o with
    | none =>
      refine ⟨false, et_is (et_and (a := false) (b := false) (et_B (ev_is (ev_notN (ev_var (v := .non) rfl)) rfl)) fun h => (by cases h)) rfl, fun h => (by cases h), fun _ H2 e2 => ?_⟩
      rw [List.append_nil] at hln
      exact s_ret (ev_var rfl) fun H3 e3 => q p H3 hp ((ex.trans e2).trans e3) (by rw [hln]; exact e3 _ _ (e2 _ _ hacc))
    | some s =>
      obtain ⟨hs, hlow⟩ := ho s rfl
      have hnot : (acc.any fun y => y == s) = false := by
        rw [List.any_eq_false]
        intro y hy hys
        have := hlow y hy
        rw [eq_of_beq hys] at this
        omega
      refine ⟨true, et_is (et_and (a := true) (b := true) (et_B (ev_is (ev_notN (ev_var (v := .str s) rfl)) (by simp))) fun _ => et_d ((ed_inStrsL (ed_var rfl (.str s)) (ed_var rfl (.lst (sq_of hacc) dpa_strs))).is (by simp [hnot]))) rfl, fun _ H2 e2 => ?_, fun h => by cases h⟩
      refine ⟨fun σ3 H3 => ∃ m', m' < Tr.rk s + 1 ∧ ∃ (acc : List Str) (o : Option Str), σ3 = [some (.ref a), some (opV o), some (.ref p)] ∧ Ex H H3 ∧ H3 p = some (.lst (acc.map V.str)) ∧
        Tr.ln n = acc ++ (match o with | none => [] | some s => Tr.ln s) ∧ (∀ s, o = some s → s ∈ Tr.dom ∧ ∀ y ∈ acc, Tr.rk s < Tr.rk y) ∧ m' = (match o with | none => 0 | some s => Tr.rk s + 1) ∧ acc.length ≤ 2000, fun _ _ h => h, ?_⟩
      have hz : acc.length ≤ 1001 := by
        have h1 := ln_len _ n (Nat.lt_succ_self _) hn
        have h2 := PA.low n hn
        rw [hln, List.length_append] at h1
        omega
      refine q_app (xs := acc.map V.str) (e2 _ _ hacc) (ev_var rfl) (ev_var (v := .str s) rfl) (by rw [List.length_map]; omega) fun H3 e3 => ?_
      have ex3 : Ex H (upd H3 p (.lst (acc.map V.str ++ [.str s]))) := Ex.mut ((ex.trans e2).trans e3) hp
      have hpa : Rd (upd H3 p (.lst (acc.map V.str ++ [.str s]))) a (.dK kvs) := ex_rd ex3 hd
      refine s_asg (ev_dget1A (k := .inr s) (ev_var rfl) hpa (ev_var rfl)) fun H4 e4 => ?_
      rw [PA.get s hs]
      have e5 : (upd H3 p (.lst (acc.map V.str ++ [.str s]))) p = some (.lst ((acc ++ [s]).map V.str)) := by rw [upd_same, List.map_append]; rfl
      refine ⟨_, ?_, acc ++ [s], Tr.par s, rfl, ex3.trans e4, e4 _ _ e5, ?_, ?_, rfl, by simp; omega⟩
      · cases e : Tr.par s with
        | none => exact Nat.succ_pos _
        | some p' => have := Tr.falls s hs p' e; simp only; omega
      · rw [hln]
        cases e : Tr.par s with
        | none => simp [ln_root hs e]
        | some p' => simp [ln_step hs e]
      · intro s' e
        refine ⟨Tr.closed s hs s' e, fun y hy => ?_⟩
        have hf := Tr.falls s hs s' e
        rcases List.mem_append.mp hy with hy | hy
        · have := hlow y hy
          omega
        · have e : y = s := by simpa using hy
          rw [e]
          exact hf
theorem ed_line {Tr : Tree} {tr : TA} {a : Addr} {n : Str} {kvs : List (Key × V)} (h : EvA tr σ H [.ref a, .str n]) (hd : Rd H a (.dK kvs)) (PA : PAt Tr kvs) (hn : n ∈ Tr.dom) : EvD K (tCall (spLine Tr) [] E0 tr) σ H (.list ((Tr.ln n).map PyData.str)) := fun H1 e1 Q q =>
  h H1 e1 _ fun H2 e2 => ⟨a, n, kvs, rfl, ex_rd (e1.trans e2) hd, PA, hn, fun p H' hp e3 h3 => q _ H' (e2.trans e3) (dp_newL h3 dpa_strs)⟩
end
end K01

set_option maxRecDepth 100000
set_option maxHeartbeats 4000000
/-! law_k01: is_below, join. -/
namespace K01
open PySem PySem.Spec PyProof.Rows L2 Evl Dat TL
/-- a kind that may be asked: of fair size, its class in the tree -/
structure Ask (Tr : Tree) (k : Kd) : Prop where
  sh : SeqAt.shaped k.d = true
  inT : inT Tr k
  nv : k ≠ .void
  dep : k.d.depth ≤ 60
def Kd.tag : Kd → Str
  | .cls _ => "class" | .arr _ => "array" | .chan _ => "channel" | .weak _ => "weak" | .fn _ _ => "func" | .fresh _ _ => "fresh"
  | .int => "int" | .void => "void" | .null => "null" | .unset => "unset"
theorem tag_d {k : Kd} (h : k.isRef = true) (hn : k ≠ .null) : ∃ r, k.d = .tuple (.str k.tag :: r) := by
  cases k <;> first
    | exact ⟨_, rfl⟩
    | exact absurd rfl hn
    | cases h
theorem tag_sh (k : Kd) : SeqAt.shaped (.str k.tag) = true := by cases k <;> simp only [Kd.tag] <;> decide +kernel
theorem tag_cls (k : Kd) : (k.tag == "class") = k.isCls := by cases k <;> simp only [Kd.tag, Kd.isCls] <;> decide +kernel
section
variable {P : Program} {w : World} {K : PySem.W.Frag} {mg : Str → Option Value} {base : Heap} {C fI cc oA : Addr} {tL tD : Tok} {F : NdefX.NF} {fdI : FuncData} {f f1 f2 f3 : Addr} {fd fd1 fd2 fd3 : FuncData} {σ : L2.St} {H : Hp} {v : V} {ds : List PyData} {ta tb : TE}
theorem kd_eq {a b : Kd} (ha : EvD K ta σ H a.d) (hb : EvD K tb σ H b.d) (sa : SeqAt.shaped a.d = true) (sb : SeqAt.shaped b.d = true) : EvT (tTest (tOp (rEqD K) ta tb)) σ H (decide (a = b)) := et_d (te_eq ha hb sa sb (eqv_kd a b))
theorem ob_d (T : Txt P K mg C fI cc oA tL tD F fdI) (H : Hp) : Dp K H (.ref oA) Kd.ob.d := .tup (T.obA H) (.cons (.str _) (.cons (.str _) .nil))
theorem ob_sh : SeqAt.shaped Kd.ob.d = true := by decide +kernel
theorem null_sh : SeqAt.shaped Kd.null.d = true := by decide +kernel
def spBelow (K : PySem.W.Frag) (Tr : Tree) (g : Kd → Kd → PyData) : Sp := fun vs H Q _ => ∃ (a : Addr) (v1 v2 : V) (k1 k2 : Kd) (kvs : List (Key × V)), vs = [.ref a, v1, v2] ∧ Rd H a (.dK kvs) ∧ PAt Tr kvs ∧ Dp K H v1 k1.d ∧ Dp K H v2 k2.d ∧ Ask Tr k1 ∧ Ask Tr k2 ∧
  ∀ v H', Ex H H' → Dp K H' v (g k1 k2) → Q v H'
theorem tags_ne {a b : Kd} (ha : EvD K ta σ H a.d) (hb : EvD K tb σ H b.d) (ra : a.isRef = true) (rb : b.isRef = true) (na : a ≠ .null) (nb : b ≠ .null) :
    EvT (tOr (tTest (tOp (rNeD K) (tOp (rIx K) ta (tC (.int 0))) (tC (.str "class")))) (tTest (tOp (rNeD K) (tOp (rIx K) tb (tC (.int 0))) (tC (.str "class"))))) σ H (!a.isCls || !b.isCls) := by
  obtain ⟨r1, e1⟩ := tag_d ra na
  obtain ⟨r2, e2⟩ := tag_d rb nb
  exact et_or (et_d (k0_ne (ha.is e1) (by rw [tag_cls]; simp) (tag_sh a))) fun _ => et_d (k0_ne (hb.is e2) (by rw [tag_cls]; simp) (tag_sh b))
theorem tags_eq {a b : Kd} (ha : EvD K ta σ H a.d) (hb : EvD K tb σ H b.d) (ra : a.isRef = true) (rb : b.isRef = true) (na : a ≠ .null) (nb : b ≠ .null) :
    EvT (tAnd (tTest (tOp (rEqD K) (tOp (rIx K) ta (tC (.int 0))) (tC (.str "class")))) (tTest (tOp (rEqD K) (tOp (rIx K) tb (tC (.int 0))) (tC (.str "class"))))) σ H (a.isCls && b.isCls) := by
  obtain ⟨r1, e1⟩ := tag_d ra na
  obtain ⟨r2, e2⟩ := tag_d rb nb
  exact et_and (et_d (k0_eq (ha.is e1) (by rw [tag_cls]) (tag_sh a))) fun _ => et_d (k0_eq (hb.is e2) (by rw [tag_cls]) (tag_sh b))
theorem ok_is_below (D : Def' K mg "is_below" s_is_below ["parents", "first", "second"] f fd) (T : Txt P K mg C fI cc oA tL tD F fdI) (D_is_ref : Def' K mg "is_ref" s_is_ref ["kind"] f1 fd1) (D_is_fresh : Def' K mg "is_fresh" s_is_fresh ["kind"] f2 fd2)
    (D_line_of : Def' K mg "line_of" s_line_of ["parents", "name"] f3 fd3) (Tr : Tree) : FnOk P w K mg base CX0 2 f fd ["parents", "first", "second"] (spBelow K Tr fun a b => .bool (below Tr a b)) := by
  have G_is_ref := ok_is_ref (w := w) (base := base) D_is_ref T
  have G_is_fresh := ok_is_fresh (w := w) (base := base) D_is_fresh T
  have G_line_of := ok_line_of (P := P) (w := w) (base := base) D_line_of Tr
  refine D.fn.ok sc_is_below (fun vs H Q E h => ?_) (fun cdv A outer s H vs Q E hr h => ?_)
  · obtain ⟨a, v1, v2, k1, k2, kvs, rfl, _⟩ := h
    rfl
  · obtain ⟨a, v1, v2, k1, k2, kvs, rfl, hd, PA, kv1, kv2, A1, A2, q⟩ := h
    replace q : ∀ v H', Ex H H' → Dp K H' v (.bool (below Tr k1 k2)) → Q v H' := q
    refine ⟨_, (pss_cons (ps_if (pt_cmpR (op_eqD (un64 hr)) (pv 1) (pv 2) (nomark _)) (pss_one (ps_ret pe_bl)) pss_nil)
    (pss_cons (ps_if ((pw_or (pt_not (pt_val (pcall D_is_ref G_is_ref (hr.mono (by omega)) (pa_cons (pv 1) pa_nil)))) (pw_or (pt_not (pt_val (pcall D_is_ref G_is_ref (hr.mono (by omega)) (pa_cons (pv 2) pa_nil)))) (pw_or (pt_val (pcall D_is_fresh G_is_fresh (hr.mono (by omega)) (pa_cons (pv 1) pa_nil))) (pw_or (pt_val (pcall D_is_fresh G_is_fresh (hr.mono (by omega)) (pa_cons (pv 2) pa_nil))) (pw_or1 (pt_cmpR (op_eqD (un64 hr)) (pv 2) pe_str (nomark _)))))))).pt (pss_one (ps_ret pe_bl)) pss_nil)
    (pss_cons (ps_if ((pw_or (pt_cmpR (op_eqD (un64 hr)) (pv 1) pe_str (nomark _)) (pw_or1 (pt_cmpR (op_eqD (un64 hr)) (pv 2) (pe_glob (v := .ref _) (by rfl) T.g_OBJECT rfl) (nomark _))))).pt (pss_one (ps_ret pe_bl)) pss_nil)
    (pss_cons (ps_if ((pw_or (pt_cmpR (op_neD (un64 hr)) (pe_ix ix_seq (pv 1) pe_int (fun _ _ => rfl)) pe_str (nomark _)) (pw_or1 (pt_cmpR (op_neD (un64 hr)) (pe_ix ix_seq (pv 2) pe_int (fun _ _ => rfl)) pe_str (nomark _))))).pt (pss_one (ps_ret pe_bl)) pss_nil)
    (pss_one (ps_ret (pe_cmpR op_in_seq (pe_ix ix_seq (pv 2) pe_int (fun _ _ => rfl)) (pcall D_line_of G_line_of (hr.mono (by omega)) (pa_cons (pv 0) (pa_cons (pe_ix ix_seq (pv 1) pe_int (fun _ _ => rfl)) pa_nil))) (by rfl)))))))), ?_⟩
    have h1 : ∀ H1, Ex H H1 → EvD K (tVar 1) (start ["parents", "first", "second"] [.ref a, v1, v2]) H1 k1.d := fun H1 e => ed_var rfl (dp_ex e kv1)
    have h2 : ∀ H1, Ex H H1 → EvD K (tVar 2) (start ["parents", "first", "second"] [.ref a, v1, v2]) H1 k2.d := fun H1 e => ed_var rfl (dp_ex e kv2)
    by_cases e12 : k1 = k2
    · refine dq_ifT (et_is (kd_eq (h1 H (Ex.refl H)) (h2 H (Ex.refl H)) A1.sh A2.sh) (decide_eq_true e12)) fun H1 e1 => d_ret (K := K) ed_bl fun v H2 e2 k => ?_
      refine q v H2 (e1.trans e2) ?_
      unfold below
      rw [if_pos e12]
      exact k
    refine dq_ifF (et_is (kd_eq (h1 H (Ex.refl H)) (h2 H (Ex.refl H)) A1.sh A2.sh) (decide_eq_false e12)) fun H1 e1 => ?_
    have eodd : (!k1.isRef || (!k2.isRef || (k1.isFresh || (k2.isFresh || decide (k2 = .null))))) = (!k1.isRef || !k2.isRef || k1.isFresh || k2.isFresh || decide (k2 = .null)) := by simp [Bool.or_assoc]
    by_cases c1 : (!k1.isRef || !k2.isRef || k1.isFresh || k2.isFresh || decide (k2 = .null)) = true
    · refine dq_ifT (et_is (et_or (et_not (et_dB (ed_call (eda_cons (h1 H1 e1) eda_nil) ⟨k1, rfl, rfl⟩))) fun _ => et_or (et_not (et_dB (ed_call (eda_cons (h2 H1 e1) eda_nil) ⟨k2, rfl, rfl⟩))) fun _ =>
        et_or (et_dB (ed_call (eda_cons (h1 H1 e1) eda_nil) ⟨k1, rfl, rfl⟩)) fun _ => et_or (et_dB (ed_call (eda_cons (h2 H1 e1) eda_nil) ⟨k2, rfl, rfl⟩)) fun _ => kd_eq (h2 H1 e1) (ed_str (s := "null")) A2.sh null_sh) (eodd.trans c1)) fun H2 e2 => d_ret (K := K) ed_bl fun v H3 e3 k => ?_
      refine q v H3 ((e1.trans e2).trans e3) ?_
      unfold below
      rw [if_neg e12, if_pos c1]
      exact k
    have c1f := Bool.eq_false_iff.mpr c1
    refine dq_ifF (et_is (et_or (et_not (et_dB (ed_call (eda_cons (h1 H1 e1) eda_nil) ⟨k1, rfl, rfl⟩))) fun _ => et_or (et_not (et_dB (ed_call (eda_cons (h2 H1 e1) eda_nil) ⟨k2, rfl, rfl⟩))) fun _ =>
        et_or (et_dB (ed_call (eda_cons (h1 H1 e1) eda_nil) ⟨k1, rfl, rfl⟩)) fun _ => et_or (et_dB (ed_call (eda_cons (h2 H1 e1) eda_nil) ⟨k2, rfl, rfl⟩)) fun _ => kd_eq (h2 H1 e1) (ed_str (s := "null")) A2.sh null_sh) (eodd.trans c1f)) fun H2 e2 => ?_
    have e2 := e1.trans e2
    have hr1 : k1.isRef = true := by revert c1; cases k1.isRef <;> simp
    have hr2 : k2.isRef = true := by revert c1; cases k1.isRef <;> cases k2.isRef <;> simp
    have hn2 : k2 ≠ .null := by
      intro z
      apply c1
      rw [z]
      simp
    by_cases c2 : (decide (k1 = .null) || decide (k2 = Kd.ob)) = true
    · refine dq_ifT (et_is (et_or (kd_eq (h1 H2 e2) (ed_str (s := "null")) A1.sh null_sh) fun _ => kd_eq (h2 H2 e2) (ed_c (ob_d T H2)) A2.sh ob_sh) c2) fun H3 e3 => d_ret (K := K) ed_bl fun v H4 e4 k => ?_
      refine q v H4 ((e2.trans e3).trans e4) ?_
      unfold below
      rw [if_neg e12, if_neg c1, if_pos c2]
      exact k
    refine dq_ifF (et_is (et_or (kd_eq (h1 H2 e2) (ed_str (s := "null")) A1.sh null_sh) fun _ => kd_eq (h2 H2 e2) (ed_c (ob_d T H2)) A2.sh ob_sh) (Bool.eq_false_iff.mpr c2)) fun H3 e3 => ?_
    have e3 := e2.trans e3
    have hn1 : k1 ≠ .null := by
      intro z
      apply c2
      rw [z]
      simp
    have tg := tags_ne (h1 H3 e3) (h2 H3 e3) hr1 hr2 hn1 hn2
    by_cases c3 : (!k1.isCls || !k2.isCls) = true
    · refine dq_ifT (et_is tg c3) fun H4 e4 => d_ret (K := K) ed_bl fun v H5 e5 k => ?_
      refine q v H5 ((e3.trans e4).trans e5) ?_
      unfold below
      rw [if_neg e12, if_neg c1, if_neg c2]
      cases k1 <;> cases k2 <;> first | exact k | cases c3
    refine dq_ifF (et_is tg (Bool.eq_false_iff.mpr c3)) fun H4 e4 => ?_
    have e4 := e3.trans e4
    obtain ⟨x, rfl⟩ : ∃ x, k1 = .cls x := by cases k1 <;> first | exact ⟨_, rfl⟩ | exact absurd rfl c3
    obtain ⟨y, rfl⟩ : ∃ y, k2 = .cls y := by cases k2 <;> first | exact ⟨_, rfl⟩ | exact absurd rfl c3
    have hx : x ∈ Tr.dom := A1.inT
    refine d_ret (ed_inStrsL (a := y) (ss := Tr.ln x) (ed_ixT (h2 H4 e4) ed_int (atI_nat (j := 1) rfl)) (ed_line (ea_cons (ev_var rfl) (ea_cons (ev_edS (ed_ixT (h1 H4 e4) ed_int (atI_nat (j := 1) rfl))) ea_nil)) (ex_rd e4 hd) PA hx)) fun v H5 e5 k => ?_
    refine q v H5 (e4.trans e5) ?_
    have eb : below Tr (.cls x) (.cls y) = (Tr.ln x).any fun z => z == y := by
      unfold below
      rw [if_neg e12, if_neg c1, if_neg c2]
      show decide (y ∈ Tr.ln x) = _
      by_cases hy : y ∈ Tr.ln x
      · rw [decide_eq_true hy]
        exact (List.any_eq_true.mpr ⟨y, hy, by simp⟩).symm
      · rw [decide_eq_false hy]
        refine (List.any_eq_false.mpr fun z hz q => hy ?_).symm
        rw [← eq_of_beq q]
        exact hz
    rw [eb]
    exact k
/-! ### join -/
theorem lca_find {Tr : Tree} {x y : Str} (hx : x ∈ Tr.dom) (hy : y ∈ Tr.dom) : ∃ pre post, Tr.ln x = pre ++ Tr.lca x y :: post ∧ ∀ z ∈ pre, (Tr.ln y).any (fun u => u == z) = false := by
  have ox := ln_obj _ x (Nat.lt_succ_self _) hx
  have oy := ln_obj _ y (Nat.lt_succ_self _) hy
  unfold Tree.lca
  cases e : (Tr.ln x).find? fun x => decide (x ∈ Tr.ln y) with
  | none =>
    have := List.find?_eq_none.mp e obj ox
    simp [oy] at this
  | some z =>
    obtain ⟨pre, post, h1, h2, h3⟩ := find_split e
    refine ⟨pre, post, h1, fun u hu => ?_⟩
    have := h3 u hu
    refine List.any_eq_false.mpr fun t ht q => ?_
    rw [eq_of_beq q] at ht
    simp [ht] at this
theorem ok_join (D : Def' K mg "join" s_join ["parents", "first", "second"] f fd) (T : Txt P K mg C fI cc oA tL tD F fdI) (D_is_ref : Def' K mg "is_ref" s_is_ref ["kind"] f1 fd1) (D_is_fresh : Def' K mg "is_fresh" s_is_fresh ["kind"] f2 fd2)
    (D_line_of : Def' K mg "line_of" s_line_of ["parents", "name"] f3 fd3) (Tr : Tree) : FnOk P w K mg base CX0 2 f fd ["parents", "first", "second"] (spBelow K Tr fun a b => (joinK Tr a b).d) := by
  have G_is_ref := ok_is_ref (w := w) (base := base) D_is_ref T
  have G_is_fresh := ok_is_fresh (w := w) (base := base) D_is_fresh T
  have G_line_of := ok_line_of (P := P) (w := w) (base := base) D_line_of Tr
  refine D.fn.ok sc_join (fun vs H Q E h => ?_) (fun cdv A outer s H vs Q E hr h => ?_)
  · obtain ⟨a, v1, v2, k1, k2, kvs, rfl, _⟩ := h
    rfl
  · obtain ⟨a, v1, v2, k1, k2, kvs, rfl, hd, PA, kv1, kv2, A1, A2, q⟩ := h
    replace q : ∀ v H', Ex H H' → Dp K H' v (joinK Tr k1 k2).d → Q v H' := q
    refine ⟨_, (pss_cons (ps_if (pt_cmpR (op_eqD (un64 hr)) (pv 1) (pv 2) (nomark _)) (pss_one (ps_ret (pv 1))) pss_nil)
    (pss_cons (ps_if ((pw_or (pt_not (pt_val (pcall D_is_ref G_is_ref (hr.mono (by omega)) (pa_cons (pv 1) pa_nil)))) (pw_or (pt_not (pt_val (pcall D_is_ref G_is_ref (hr.mono (by omega)) (pa_cons (pv 2) pa_nil)))) (pw_or (pt_val (pcall D_is_fresh G_is_fresh (hr.mono (by omega)) (pa_cons (pv 1) pa_nil))) (pw_or1 (pt_val (pcall D_is_fresh G_is_fresh (hr.mono (by omega)) (pa_cons (pv 2) pa_nil)))))))).pt (pss_one (ps_ret pe_str)) pss_nil)
    (pss_cons (ps_if (pt_cmpR (op_eqD (un64 hr)) (pv 1) pe_str (nomark _)) (pss_one (ps_ret (pv 2))) pss_nil)
    (pss_cons (ps_if (pt_cmpR (op_eqD (un64 hr)) (pv 2) pe_str (nomark _)) (pss_one (ps_ret (pv 1))) pss_nil)
    (pss_cons (ps_if ((pw_and (pt_cmpR (op_eqD (un64 hr)) (pe_ix ix_seq (pv 1) pe_int (fun _ _ => rfl)) pe_str (nomark _)) (pw_and1 (pt_cmpR (op_eqD (un64 hr)) (pe_ix ix_seq (pv 2) pe_int (fun _ _ => rfl)) pe_str (nomark _))))).pt (pss_cons (ps_set (i := 3) sc_join.nd rfl (by first | exact Or.inl rfl | exact Or.inr rfl) (pcall D_line_of G_line_of (hr.mono (by omega)) (pa_cons (pv 0) (pa_cons (pe_ix ix_seq (pv 2) pe_int (fun _ _ => rfl)) pa_nil))))
    (pss_one (ps_for PassesOwn.never rfl (pi_list (pcall D_line_of G_line_of (hr.mono (by omega)) (pa_cons (pv 0) (pa_cons (pe_ix ix_seq (pv 1) pe_int (fun _ _ => rfl)) pa_nil)))) (pg_name (i := 4) sc_join.nd rfl (by first | exact Or.inl rfl | exact Or.inr rfl)) (pss_one (ps_if (pt_cmpR op_in_seq (pv 4) (pv 3) (by rfl)) (pss_one (ps_ret (pe_tup (pa_cons pe_str (pa_cons (pv 4) pa_nil))))) pss_nil))))) pss_nil)
    (pss_one (ps_ret (pe_glob (v := .ref _) (by rfl) T.g_OBJECT rfl)))))))), ?_⟩
    have h1 : ∀ H1, Ex H H1 → EvD K (tVar 1) (start ["parents", "first", "second", "line", "name"] [.ref a, v1, v2]) H1 k1.d := fun H1 e => ed_var rfl (dp_ex e kv1)
    have h2 : ∀ H1, Ex H H1 → EvD K (tVar 2) (start ["parents", "first", "second", "line", "name"] [.ref a, v1, v2]) H1 k2.d := fun H1 e => ed_var rfl (dp_ex e kv2)
    have fin : ∀ {k : Kd}, joinK Tr k1 k2 = k → ∀ {d : PyData}, d = k.d → ∀ v H1, Ex H H1 → Dp K H1 v d → Q v H1 := fun e d ed v H1 e1 kd => q v H1 e1 (by rw [e, ← ed]; exact kd)
    by_cases e12 : k1 = k2
    · exact dq_ifT (et_is (kd_eq (h1 H (Ex.refl H)) (h2 H (Ex.refl H)) A1.sh A2.sh) (decide_eq_true e12)) fun H1 e1 => d_ret (K := K) (h1 H1 e1) fun v H2 e2 k => fin (k := k1) (by unfold joinK; rw [if_pos e12]) rfl v H2 (e1.trans e2) k
    refine dq_ifF (et_is (kd_eq (h1 H (Ex.refl H)) (h2 H (Ex.refl H)) A1.sh A2.sh) (decide_eq_false e12)) fun H1 e1 => ?_
    have eodd : (!k1.isRef || (!k2.isRef || (k1.isFresh || k2.isFresh))) = (!k1.isRef || !k2.isRef || k1.isFresh || k2.isFresh) := by simp [Bool.or_assoc]
    by_cases c1 : (!k1.isRef || !k2.isRef || k1.isFresh || k2.isFresh) = true
    · exact dq_ifT (et_is (et_or (et_not (et_dB (ed_call (eda_cons (h1 H1 e1) eda_nil) ⟨k1, rfl, rfl⟩))) fun _ => et_or (et_not (et_dB (ed_call (eda_cons (h2 H1 e1) eda_nil) ⟨k2, rfl, rfl⟩))) fun _ =>
        et_or (et_dB (ed_call (eda_cons (h1 H1 e1) eda_nil) ⟨k1, rfl, rfl⟩)) fun _ => et_dB (ed_call (eda_cons (h2 H1 e1) eda_nil) ⟨k2, rfl, rfl⟩)) (eodd.trans c1)) fun H2 e2 => d_ret (K := K) ed_str fun v H3 e3 k => fin (k := .unset) (by unfold joinK; rw [if_neg e12, if_pos c1]) rfl v H3 ((e1.trans e2).trans e3) k
    refine dq_ifF (et_is (et_or (et_not (et_dB (ed_call (eda_cons (h1 H1 e1) eda_nil) ⟨k1, rfl, rfl⟩))) fun _ => et_or (et_not (et_dB (ed_call (eda_cons (h2 H1 e1) eda_nil) ⟨k2, rfl, rfl⟩))) fun _ =>
        et_or (et_dB (ed_call (eda_cons (h1 H1 e1) eda_nil) ⟨k1, rfl, rfl⟩)) fun _ => et_dB (ed_call (eda_cons (h2 H1 e1) eda_nil) ⟨k2, rfl, rfl⟩)) (eodd.trans (Bool.eq_false_iff.mpr c1))) fun H2 e2 => ?_
    have e2 := e1.trans e2
    have hr1 : k1.isRef = true := by revert c1; cases k1.isRef <;> simp
    have hr2 : k2.isRef = true := by revert c1; cases k1.isRef <;> cases k2.isRef <;> simp
    by_cases n1 : k1 = .null
    · exact dq_ifT (et_is (kd_eq (h1 H2 e2) (ed_str (s := "null")) A1.sh null_sh) (decide_eq_true n1)) fun H3 e3 => d_ret (K := K) (h2 H3 (e2.trans e3)) fun v H4 e4 k => fin (k := k2) (by unfold joinK; rw [if_neg e12, if_neg c1, if_pos n1]) rfl v H4 ((e2.trans e3).trans e4) k
    refine dq_ifF (et_is (kd_eq (h1 H2 e2) (ed_str (s := "null")) A1.sh null_sh) (decide_eq_false n1)) fun H3 e3 => ?_
    have e3 := e2.trans e3
    by_cases n2 : k2 = .null
    · exact dq_ifT (et_is (kd_eq (h2 H3 e3) (ed_str (s := "null")) A2.sh null_sh) (decide_eq_true n2)) fun H4 e4 => d_ret (K := K) (h1 H4 (e3.trans e4)) fun v H5 e5 k => fin (k := k1) (by unfold joinK; rw [if_neg e12, if_neg c1, if_neg n1, if_pos n2]) rfl v H5 ((e3.trans e4).trans e5) k
    refine dq_ifF (et_is (kd_eq (h2 H3 e3) (ed_str (s := "null")) A2.sh null_sh) (decide_eq_false n2)) fun H4 e4 => ?_
    have e4 := e3.trans e4
    have tg := tags_eq (h1 H4 e4) (h2 H4 e4) hr1 hr2 n1 n2
    by_cases c3 : (k1.isCls && k2.isCls) = true
    · refine dq_ifT (et_is tg c3) fun H5 e5 => ?_
      have e5 := e4.trans e5
      obtain ⟨x, rfl⟩ : ∃ x, k1 = .cls x := by cases k1 <;> first | exact ⟨_, rfl⟩ | (simp [Kd.isCls] at c3)
      obtain ⟨y, rfl⟩ : ∃ y, k2 = .cls y := by cases k2 <;> first | exact ⟨_, rfl⟩ | (simp [Kd.isCls] at c3)
      have hx : x ∈ Tr.dom := A1.inT
      have hy : y ∈ Tr.dom := A2.inT
      have ej : joinK Tr (.cls x) (.cls y) = .cls (Tr.lca x y) := by unfold joinK; rw [if_neg e12, if_neg c1, if_neg n1, if_neg n2]
      obtain ⟨pre, post, hsp, hpre⟩ := lca_find hx hy
      have hlx := ln_len _ x (Nat.lt_succ_self _) hx
      have hlow := PA.low x hx
      -- line = line_of(parents, second[1])
      refine dq_asg (K := K) (ed_line (ea_cons (ev_var rfl) (ea_cons (ev_edS (ed_ixT (h2 H5 e5) ed_int (atI_nat (j := 1) rfl))) ea_nil)) (ex_rd e5 hd) PA hy) fun vl H6 e6 kl => ?_
      have e6 := e5.trans e6
      -- for name in line_of(parents, first[1])
      refine (show EvD K (tCall (spLine Tr) [] E0 (tCons (tVar 0) (tCons (tOp (rIx K) (tVar 1) (tC (.int 1))) tNil))) [some (.ref a), some v1, some v2, some vl, none] H6 (.list ((Tr.ln x).map PyData.str)) from
        ed_line (ea_cons (ev_var rfl) (ea_cons (ev_edS (ed_ixT (ed_var rfl (dp_ex e6 kv1)) ed_int (atI_nat (j := 1) rfl))) ea_nil)) (ex_rd e6 hd) PA hx) H6 (Ex.refl _) _ fun vx H7 e7 kx => ?_
      obtain ⟨l, xs, rfl, hl, ks⟩ := dp_lst kx
      have exs := dpa_strs_inv ks
      subst exs
      refine ⟨l, rfl, ⟨_, hl⟩, for_list (K := K) (a := l) (xs := (Tr.ln x).map V.str) (fun i σ' H' => ∃ o, σ' = [some (.ref a), some v1, some v2, some vl, o] ∧ Ex H7 H' ∧ i ≤ pre.length) ⟨none, rfl, Ex.refl _, Nat.zero_le _⟩
        (fun i σ' H' _ ⟨_, _, ex, _⟩ => ex_l ex hl) ?_ ?_⟩
      · rintro i u σ' H' hu ⟨o, rfl, ex, hi⟩
        rw [List.getElem?_map] at hu
        obtain ⟨z, hz, rfl⟩ : ∃ z, (Tr.ln x)[i]? = some z ∧ V.str z = u := by
          cases e : (Tr.ln x)[i]? with
          | none => rw [e] at hu; cases hu
          | some z => rw [e] at hu; exact ⟨z, rfl, Option.some.inj hu⟩
        have kl' : Dp K H' vl (.list ((Tr.ln y).map PyData.str)) := dp_ex (e7.trans ex) kl
        have tst := et_d (ed_inStrsL (K := K) (σ := [some (.ref a), some v1, some v2, some vl, some (.str z)]) (H := H') (neg := false) (ta := tVar 4) (tb := tVar 3) (ed_var rfl (.str z)) (ed_var rfl kl'))
        by_cases hip : i < pre.length
        · have hzp : z ∈ pre := by
            rw [hsp, List.getElem?_append_left hip] at hz
            exact List.mem_of_getElem? hz
          exact s_when (et_is tst (hpre z hzp)) (fun q => by cases q) fun _ H8 e8 => ⟨_, rfl, ex.trans e8, hip⟩
        · have hie : i = pre.length := by omega
          have hzl : z = Tr.lca x y := by
            rw [hsp, hie, List.getElem?_append_right (Nat.le_refl _), Nat.sub_self] at hz
            exact (Option.some.inj hz).symm
          have hin : ((Tr.ln y).any fun u => u == z) = true := List.any_eq_true.mpr ⟨z, by rw [hzl]; exact (lca_spec hx hy).2.1, by simp⟩
          refine s_if (et_is tst hin) (fun _ H8 e8 => ?_) fun q => by cases q
          refine d_ret (K := K) (ed_tup (eda_cons ed_str (eda_cons (ed_var (i := 4) (v := .str z) rfl (.str z)) eda_nil)) (by show 2 ≤ 1000; omega)) fun v H9 e9 k => fin ej (by rw [hzl]; rfl) v H9 ((((e6.trans e7).trans ex).trans e8).trans e9) k
      · rintro σ' H' ⟨o, rfl, ex, hi⟩
        exfalso
        have : (Tr.ln x).length = pre.length + (post.length + 1) := by rw [hsp, List.length_append]; rfl
        rw [List.length_map] at hi
        omega
    · refine dq_ifF (et_is tg (Bool.eq_false_iff.mpr c3)) fun H5 e5 => ?_
      refine d_ret (K := K) (ed_c (ob_d T H5)) fun v H6 e6 k => fin (k := Kd.ob) ?_ rfl v H6 ((e4.trans e5).trans e6) k
      unfold joinK
      rw [if_neg e12, if_neg c1, if_neg n1, if_neg n2]
      cases k1 <;> cases k2 <;> first | rfl | exact absurd rfl c3
end
end K01

set_option maxRecDepth 100000
set_option maxHeartbeats 4000000
/-! law_k01: _law_below, names_in. -/
namespace K01
open PySem PySem.Spec PyProof.Rows L2 Evl Dat TL
section
variable {P : Program} {w : World} {K : PySem.W.Frag} {mg : Str → Option Value} {base : Heap} {C fI cc oA : Addr} {tL tD : Tok} {F : NdefX.NF} {fdI : FuncData} {f f1 f2 f3 : Addr} {fd fd1 fd2 fd3 : FuncData} {σ : L2.St} {H : Hp} {v : V} {ds : List PyData} {ta tb te : TE}
/-- text in (one, two), of kinds -/
theorem in_two {s : Str} {a b c : Kd} (hc : c.d = .str s) (ha : EvD K ta σ H a.d) (hb : EvD K tb σ H b.d) (sa : SeqAt.shaped a.d = true) (sb : SeqAt.shaped b.d = true) (sc : SeqAt.shaped (.str s) = true) (sab : SeqAt.shaped (.tuple [a.d, b.d]) = true) :
    EvT (tTest (tOp (rInT K false) (tC (.str s)) (tTup (tCons ta (tCons tb tNil))))) σ H (decide (a = c) || decide (b = c)) := by
  refine et_d (te_inT ed_str (ed_tup (eda_cons ha (eda_cons hb eda_nil)) (by show 2 ≤ 1000; omega)) sc sab ?_)
  rw [← hc]
  simp [eqv_kd]
theorem sh_pair {a b : PyData} (ha : SeqAt.shaped a = true) (hb : SeqAt.shaped b = true) (da : a.depth ≤ 63) (db : b.depth ≤ 63) : SeqAt.shaped (.tuple [a, b]) = true := by
  have h1 := SeqAt.canLay_of_shaped ha
  have h2 := SeqAt.canLay_of_shaped hb
  unfold SeqAt.shaped
  simp [PyData.canLay0, PyData.canLayAll0, PyData.depth, PyData.depthAll, h1, h2]
  omega
/-- kind[0] of null or a tuple, against a text longer than one sign -/
theorem head_eq {k : Kd} {s : Str} (hk : EvD K ta σ H k.d) (h : k.isRef = true) (hs : SeqAt.shaped (.str s) = true) (hl : (⟨#[110]⟩ : Str) ≠ s) : EvT (tTest (tOp (rEqD K) (tOp (rIx K) ta (tC (.int 0))) (tC (.str s)))) σ H (decide (k ≠ .null) && (k.tag == s)) := by
  by_cases hn : k = .null
  · subst hn
    refine et_d (te_eq (ed_ixS (s := "null") (c := 110) hk ed_int (by decide +kernel) (by decide +kernel)) ed_str (by decide +kernel) hs ?_)
    simp [PyData.eqv, hl]
  · obtain ⟨r, e⟩ := tag_d h hn
    refine et_d ((k0_eq (hk.is e) (r := (k.tag == s)) rfl (tag_sh k) hs).is ?_)
    simp [hn]
theorem tag_fresh (k : Kd) : (k.tag == "fresh") = k.isFresh := by cases k <;> simp only [Kd.tag, Kd.isFresh] <;> decide +kernel
theorem isRef_iff {k : Kd} (h : k ≠ .void) : (!k.isRef) = (decide (k = .int) || decide (k = .unset)) := by
  cases k <;> first | exact absurd rfl h | rfl | (simp [Kd.isRef])
theorem ok__law_below (D : Def' K mg "_law_below" s__law_below ["parents", "one", "two"] f fd) (Tr : Tree) : FnOk P w K mg base CX0 1 f fd ["parents", "one", "two"] (spBelow K Tr fun a b => .bool (below Tr a b)) := by
  refine D.fn.ok sc__law_below (fun vs H Q E h => ?_) (fun cdv A outer s H vs Q E hr h => ?_)
  · obtain ⟨a, v1, v2, k1, k2, kvs, rfl, _⟩ := h
    rfl
  · obtain ⟨a, v1, v2, k1, k2, kvs, rfl, hd, PA, kv1, kv2, A1, A2, q⟩ := h
    replace q : ∀ v H', Ex H H' → Dp K H' v (.bool (below Tr k1 k2)) → Q v H' := q
    refine ⟨_, (pss_cons (ps_if (pt_cmpR (op_eqD (un64 hr)) (pv 1) (pv 2) (nomark _)) (pss_one (ps_ret pe_bl)) pss_nil)
    (pss_cons (ps_if ((pw_or (pt_cmpR (op_inT (un65 hr)) pe_str (pe_tup (pa_cons (pv 1) (pa_cons (pv 2) pa_nil))) (by rfl)) (pw_or (pt_cmpR (op_inT (un65 hr)) pe_str (pe_tup (pa_cons (pv 1) (pa_cons (pv 2) pa_nil))) (by rfl)) (pw_or (pt_cmpR (op_eqD (un64 hr)) (pv 2) pe_str (nomark _)) (pw_or (pt_cmpR (op_eqD (un64 hr)) (pe_ix ix_seq (pv 1) pe_int (fun _ _ => rfl)) pe_str (nomark _)) (pw_or1 (pt_cmpR (op_eqD (un64 hr)) (pe_ix ix_seq (pv 2) pe_int (fun _ _ => rfl)) pe_str (nomark _)))))))).pt (pss_one (ps_ret pe_bl)) pss_nil)
    (pss_cons (ps_if ((pw_or (pt_cmpR (op_eqD (un64 hr)) (pv 1) pe_str (nomark _)) (pw_or1 (pt_cmpR (op_eqD (un64 hr)) (pv 2) (pe_tup (pa_cons pe_str (pa_cons pe_str pa_nil))) (nomark _))))).pt (pss_one (ps_ret pe_bl)) pss_nil)
    (pss_cons (ps_if ((pw_or (pt_cmpR (op_neD (un64 hr)) (pe_ix ix_seq (pv 1) pe_int (fun _ _ => rfl)) pe_str (nomark _)) (pw_or1 (pt_cmpR (op_neD (un64 hr)) (pe_ix ix_seq (pv 2) pe_int (fun _ _ => rfl)) pe_str (nomark _))))).pt (pss_one (ps_ret pe_bl)) pss_nil)
    (pss_cons (ps_set (i := 3) sc__law_below.nd rfl (by first | exact Or.inl rfl | exact Or.inr rfl) (pe_ix ix_seq (pv 1) pe_int (fun _ _ => rfl)))
    (pss_cons (ps_while PassesOwn.never (pt_cmp (pc_notN (pv 3))) (pss_cons (ps_if (pt_cmpR op_eq (pv 3) (pe_ix ix_seq (pv 2) pe_int (fun _ _ => rfl)) (nomark _)) (pss_one (ps_ret pe_bl)) pss_nil)
    (pss_one (ps_set (i := 3) sc__law_below.nd rfl (by first | exact Or.inl rfl | exact Or.inr rfl) (pe_dget (hu_of hr) (pv 0) (pv 3) (fun _ _ => rfl))))))
    (pss_one (ps_ret pe_bl)))))))), ?_⟩
    have h1 : ∀ H1, Ex H H1 → EvD K (tVar 1) (start ["parents", "one", "two", "name"] [.ref a, v1, v2]) H1 k1.d := fun H1 e => ed_var rfl (dp_ex e kv1)
    have h2 : ∀ H1, Ex H H1 → EvD K (tVar 2) (start ["parents", "one", "two", "name"] [.ref a, v1, v2]) H1 k2.d := fun H1 e => ed_var rfl (dp_ex e kv2)
    have spair := sh_pair A1.sh A2.sh (by have := A1.dep; omega) (by have := A2.dep; omega)
    by_cases e12 : k1 = k2
    · refine dq_ifT (et_is (kd_eq (h1 H (Ex.refl H)) (h2 H (Ex.refl H)) A1.sh A2.sh) (decide_eq_true e12)) fun H1 e1 => d_ret (K := K) ed_bl fun v H2 e2 k => ?_
      refine q v H2 (e1.trans e2) ?_
      unfold below
      rw [if_pos e12]
      exact k
    refine dq_ifF (et_is (kd_eq (h1 H (Ex.refl H)) (h2 H (Ex.refl H)) A1.sh A2.sh) (decide_eq_false e12)) fun H1 e1 => ?_
    have r1 := isRef_iff A1.nv
    have r2 := isRef_iff A2.nv
    -- the law's own first row of tests
    have eodd : ((decide (k1 = .int) || decide (k2 = .int)) || ((decide (k1 = .unset) || decide (k2 = .unset)) || (decide (k2 = .null) || (k1.isFresh || k2.isFresh)))) = (!k1.isRef || !k2.isRef || k1.isFresh || k2.isFresh || decide (k2 = .null)) := by
      rw [r1, r2]
      generalize decide (k1 = .int) = x1
      generalize decide (k2 = .int) = x2
      generalize decide (k1 = .unset) = x3
      generalize decide (k2 = .unset) = x4
      generalize decide (k2 = .null) = x5
      generalize k1.isFresh = x6
      generalize k2.isFresh = x7
      revert x1 x2 x3 x4 x5 x6 x7
      decide
    have ht : ∀ {te1 te2 : TE} {σ : L2.St} {H1 : Hp}, EvD K te1 σ H1 k1.d → EvD K te2 σ H1 k2.d →
        EvT (tOr (tTest (tOp (rInT K false) (tC (.str "int")) (tTup (tCons te1 (tCons te2 tNil))))) (tOr (tTest (tOp (rInT K false) (tC (.str "unset")) (tTup (tCons te1 (tCons te2 tNil))))) (tOr (tTest (tOp (rEqD K) te2 (tC (.str "null"))))
          (tOr (tTest (tOp (rEqD K) (tOp (rIx K) te1 (tC (.int 0))) (tC (.str "fresh")))) (tTest (tOp (rEqD K) (tOp (rIx K) te2 (tC (.int 0))) (tC (.str "fresh")))))))) σ H1
          (!k1.isRef || !k2.isRef || k1.isFresh || k2.isFresh || decide (k2 = .null)) := fun {te1 te2 σ H1} g1 g2 => by
      refine et_is (et_or (in_two (c := .int) rfl g1 g2 A1.sh A2.sh (by decide +kernel) spair) fun x1 => et_or (in_two (c := .unset) rfl g1 g2 A1.sh A2.sh (by decide +kernel) spair) fun x2 => et_or (b := k1.isFresh || k2.isFresh) (kd_eq g2 (ed_str (s := "null")) A2.sh null_sh) fun x3 => ?_) eodd
      have hr1 : k1.isRef = true := by
        rw [Bool.or_eq_false_iff] at x1 x2
        rw [x1.1, x2.1] at r1
        simpa using r1
      have hr2 : k2.isRef = true := by
        rw [Bool.or_eq_false_iff] at x1 x2
        rw [x1.2, x2.2] at r2
        simpa using r2
      have f1 : (decide (k1 ≠ .null) && (k1.tag == "fresh")) = k1.isFresh := by rw [tag_fresh]; cases k1 <;> simp [Kd.isFresh]
      have f2 : (decide (k2 ≠ .null) && (k2.tag == "fresh")) = k2.isFresh := by rw [tag_fresh]; cases k2 <;> simp [Kd.isFresh]
      exact et_or (et_is (head_eq g1 hr1 (by decide +kernel) (by decide +kernel)) f1) fun _ => et_is (head_eq g2 hr2 (by decide +kernel) (by decide +kernel)) f2
    by_cases c1 : (!k1.isRef || !k2.isRef || k1.isFresh || k2.isFresh || decide (k2 = .null)) = true
    · refine dq_ifT (et_is (ht (h1 H1 e1) (h2 H1 e1)) c1) fun H2 e2 => d_ret (K := K) ed_bl fun v H3 e3 k => ?_
      refine q v H3 ((e1.trans e2).trans e3) ?_
      unfold below
      rw [if_neg e12, if_pos c1]
      exact k
    refine dq_ifF (et_is (ht (h1 H1 e1) (h2 H1 e1)) (Bool.eq_false_iff.mpr c1)) fun H2 e2 => ?_
    have e2 := e1.trans e2
    have hr1 : k1.isRef = true := by revert c1; cases k1.isRef <;> simp
    have hr2 : k2.isRef = true := by revert c1; cases k1.isRef <;> cases k2.isRef <;> simp
    have hn2 : k2 ≠ .null := by
      intro z
      apply c1
      rw [z]
      simp
    by_cases c2 : (decide (k1 = .null) || decide (k2 = Kd.ob)) = true
    · refine dq_ifT (et_is (et_or (kd_eq (h1 H2 e2) (ed_str (s := "null")) A1.sh null_sh) fun _ => kd_eq (b := Kd.ob) (h2 H2 e2) (ed_tup (eda_cons ed_str (eda_cons ed_str eda_nil)) (by show 2 ≤ 1000; omega)) A2.sh ob_sh) c2) fun H3 e3 => d_ret (K := K) ed_bl fun v H4 e4 k => ?_
      refine q v H4 ((e2.trans e3).trans e4) ?_
      unfold below
      rw [if_neg e12, if_neg c1, if_pos c2]
      exact k
    refine dq_ifF (et_is (et_or (kd_eq (h1 H2 e2) (ed_str (s := "null")) A1.sh null_sh) fun _ => kd_eq (b := Kd.ob) (h2 H2 e2) (ed_tup (eda_cons ed_str (eda_cons ed_str eda_nil)) (by show 2 ≤ 1000; omega)) A2.sh ob_sh) (Bool.eq_false_iff.mpr c2)) fun H3 e3 => ?_
    have e3 := e2.trans e3
    have hn1 : k1 ≠ .null := by
      intro z
      apply c2
      rw [z]
      simp
    have tg := tags_ne (h1 H3 e3) (h2 H3 e3) hr1 hr2 hn1 hn2
    by_cases c3 : (!k1.isCls || !k2.isCls) = true
    · refine dq_ifT (et_is tg c3) fun H4 e4 => d_ret (K := K) ed_bl fun v H5 e5 k => ?_
      refine q v H5 ((e3.trans e4).trans e5) ?_
      unfold below
      rw [if_neg e12, if_neg c1, if_neg c2]
      cases k1 <;> cases k2 <;> first | exact k | cases c3
    refine dq_ifF (et_is tg (Bool.eq_false_iff.mpr c3)) fun H4 e4 => ?_
    have e4 := e3.trans e4
    obtain ⟨x, rfl⟩ : ∃ x, k1 = .cls x := by cases k1 <;> first | exact ⟨_, rfl⟩ | exact absurd rfl c3
    obtain ⟨y, rfl⟩ : ∃ y, k2 = .cls y := by cases k2 <;> first | exact ⟨_, rfl⟩ | exact absurd rfl c3
    have hx : x ∈ Tr.dom := A1.inT
    have eb : below Tr (.cls x) (.cls y) = decide (y ∈ Tr.ln x) := by
      unfold below
      rw [if_neg e12, if_neg c1, if_neg c2]
    rw [eb] at q
    -- name = one[1]; while name is not None: ..
    refine dq_asg (K := K) (d := .str x) (ed_ixT (h1 H4 e4) ed_int (atI_nat (j := 1) rfl)) fun u H5 e5 ku => ?_
    rw [dp_str ku]
    have e5 := e4.trans e5
    refine q_while (fun m σ' H' => ∃ (acc : List Str) (o : Option Str), σ' = [some (.ref a), some v1, some v2, some (opV o)] ∧ Ex H H' ∧
        Tr.ln x = acc ++ (match o with | none => [] | some s => Tr.ln s) ∧ (∀ s, o = some s → s ∈ Tr.dom) ∧ y ∉ acc ∧ m = (match o with | none => 0 | some s => Tr.rk s + 1)) (Tr.rk x + 1)
      ⟨[], some x, rfl, e5, rfl, fun s e => (by cases e; exact hx), (by simp), rfl⟩ fun m σ' H' hw => ?_
    obtain ⟨acc, o, rfl, ex, hln, ho, hya, rfl⟩ := hw
    cases o with
    | none =>
      refine ⟨false, et_B (ev_is (ev_notN (ev_var (v := .non) rfl)) rfl), fun h => (by cases h), fun _ H2 e2 => ?_⟩
      refine d_ret (K := K) ed_bl fun v H6 e6 k => q v H6 ((ex.trans e2).trans e6) ?_
      rw [List.append_nil] at hln
      rw [hln, decide_eq_false hya]
      exact k
    | some s =>
      have hs := ho s rfl
      refine ⟨true, et_B (ev_is (ev_notN (ev_var (v := .str s) rfl)) (by simp)), fun _ H2 e2 => ?_, fun h => (by cases h)⟩
      refine ⟨fun σ3 H3 => ∃ m', m' < Tr.rk s + 1 ∧ ∃ (acc : List Str) (o : Option Str), σ3 = [some (.ref a), some v1, some v2, some (opV o)] ∧ Ex H H3 ∧
        Tr.ln x = acc ++ (match o with | none => [] | some s => Tr.ln s) ∧ (∀ s, o = some s → s ∈ Tr.dom) ∧ y ∉ acc ∧ m' = (match o with | none => 0 | some s => Tr.rk s + 1), fun _ _ h => h, ?_⟩
      have ex2 := ex.trans e2
      have tst := et_d (ed_eqS (K := K) (σ := [some (.ref a), some v1, some v2, some (.str s)]) (H := H2) (ta := tVar 3) (ed_var rfl (.str s)) (ed_ixT (ed_var (i := 2) rfl (dp_ex ex2 kv2)) ed_int (atI_nat (j := 1) rfl)))
      by_cases hsy : s = y
      · refine dq_ifT (et_is tst (decide_eq_true hsy)) fun H3 e3 => d_ret (K := K) ed_bl fun v H6 e6 k => q v H6 ((ex2.trans e3).trans e6) ?_
        rw [decide_eq_true (show y ∈ Tr.ln x by rw [hln, ← hsy]; exact List.mem_append_right _ (ln_self hs))]
        exact k
      · refine dq_ifF (et_is tst (decide_eq_false hsy)) fun H3 e3 => ?_
        refine s_asg (ev_dgetA (k := .inr s) (ev_var rfl) (ex_rd (ex2.trans e3) hd) (ev_var rfl) (PA.get s hs)) fun H4 e4 => ?_
        refine ⟨_, ?_, acc ++ [s], Tr.par s, rfl, (ex2.trans e3).trans e4, ?_, fun s' e => Tr.closed s hs s' e, ?_, rfl⟩
        · cases e : Tr.par s with
          | none => exact Nat.succ_pos _
          | some p' => have := Tr.falls s hs p' e; simp only; omega
        · rw [hln]
          cases e : Tr.par s with
          | none => simp [ln_root hs e]
          | some p' => simp [ln_step hs e]
        · simp [hya, Ne.symm hsy]
end
end K01

set_option maxRecDepth 100000
set_option maxHeartbeats 4000000
/-! law_k01: names_in. -/
namespace K01
open PySem PySem.Spec PyProof.Rows L2 Evl Dat TL
mutual
def Kd.nm : Kd → List Str
  | .cls n => [n]
  | .fresh n _ => [n]
  | .arr k => k.nm
  | .chan k => k.nm
  | .weak k => k.nm
  | .fn ps r => r.nm ++ Kd.nmAll ps
  | _ => []
def Kd.nmAll : List Kd → List Str
  | [] => []
  | k :: r => k.nm ++ Kd.nmAll r
end
theorem nmAll_app : ∀ (a b : List Kd), Kd.nmAll (a ++ b) = Kd.nmAll a ++ Kd.nmAll b
  | [], b => rfl
  | k :: r, b => by
    show k.nm ++ Kd.nmAll (r ++ b) = (k.nm ++ Kd.nmAll r) ++ Kd.nmAll b
    rw [nmAll_app r b, List.append_assoc]
theorem nmAll_mem : ∀ {ps : List Kd} {k : Kd}, k ∈ ps → k.nm.length ≤ (Kd.nmAll ps).length
  | [], _, h => by cases h
  | p :: r, k, h => by
    show k.nm.length ≤ (p.nm ++ Kd.nmAll r).length
    rw [List.length_append]
    rcases List.mem_cons.mp h with rfl | h
    · omega
    · have := nmAll_mem h
      omega
mutual
theorem noL_kd : ∀ k : Kd, noL k.d = true
  | .int => rfl
  | .void => rfl
  | .null => rfl
  | .unset => rfl
  | .cls n => rfl
  | .fresh n i => rfl
  | .arr k => by simp [Kd.d, noL, noLs, noL_kd k]
  | .chan k => by simp [Kd.d, noL, noLs, noL_kd k]
  | .weak k => by simp [Kd.d, noL, noLs, noL_kd k]
  | .fn ps r => by simp [Kd.d, noL, noLs, noL_kd r, noLs_kd ps]
theorem noLs_kd : ∀ ks : List Kd, noLs (Kd.dAll ks) = true
  | [] => rfl
  | k :: r => by simp [Kd.dAll, noLs, noL_kd k, noLs_kd r]
end
section
variable {P : Program} {w : World} {K : PySem.W.Frag} {mg : Str → Option Value} {base : Heap} {C fI cc oA : Addr} {tL tD : Tok} {F : NdefX.NF} {fdI : FuncData} {f f1 f2 f3 : Addr} {fd fd1 fd2 fd3 : FuncData} {σ : L2.St} {H : Hp} {v : V} {ds : List PyData} {ta tb te : TE}
def spNames (K : PySem.W.Frag) (n : Nat) : Sp := fun vs H Q _ => ∃ (v : V) (k : Kd), vs = [v] ∧ Dp K H v k.d ∧ k.dep + 1 ≤ n ∧ k.nm.length ≤ 1000 ∧ ∀ p H', H p = none → Ex H H' → H' p = some (.lst (k.nm.map V.str)) → Q (.ref p) H'
theorem el_names {n : Nat} {k : Kd} {σ : L2.St} {H : Hp} (h : EvD K te σ H k.d) (h1 : k.dep + 1 ≤ n) (h2 : k.nm.length ≤ 1000) : EvL (tCall (spNames K n) [] E0 (tCons te tNil)) σ H (k.nm.map V.str) := fun H1 e1 Q q =>
  h H1 e1 _ fun v H2 e2 kv => ⟨v, k, rfl, kv, h1, h2, fun p H' hp e3 h3 => q p H' (fresh_back e2 hp) (e2.trans e3) h3⟩
theorem ok_names_in (D_names_in : Def' K mg "names_in" s_names_in ["kind"] f fd) (T : Txt P K mg C fI cc oA tL tD F fdI) : ∀ n, FnOk P w K mg base CX0 n f fd ["kind"] (spNames K n)
  | 0 => fn0 fun vs H Q E h => by
    obtain ⟨_, _, _, _, h, _⟩ := h
    omega
  | n + 1 => by
    have G_names_in := ok_names_in D_names_in T n
    refine D_names_in.fn.ok sc_names_in (fun vs H Q E h => ?_) (fun cdv A outer s H vs Q E hr h => ?_)
    · obtain ⟨v, k, rfl, _⟩ := h
      rfl
    · obtain ⟨v, k, rfl, kv, hd, hl, q⟩ := h
      refine ⟨_, (pss_cons (ps_if (pt_val (pe_callB call_isi (by rfl) T.z_isinstance (by decide +kernel) (pa_cons (pv 0) (pa_cons (pe_bltn (v := .ty "str") (by rfl) T.z_str (by decide +kernel) rfl) pa_nil)))) (pss_one (ps_ret (pe_lst pa_nil))) pss_nil)
    (pss_cons (ps_if (pt_cmpR (op_inT (un65 hr)) (pe_ix ix_seq (pv 0) pe_int (fun _ _ => rfl)) (pe_tup (pa_cons pe_str (pa_cons pe_str pa_nil))) (by rfl)) (pss_one (ps_ret (pe_lst (pa_cons (pe_ix ix_seq (pv 0) pe_int (fun _ _ => rfl)) pa_nil)))) pss_nil)
    (pss_cons (ps_if (pt_cmpR (op_eqD (un64 hr)) (pe_ix ix_seq (pv 0) pe_int (fun _ _ => rfl)) pe_str (nomark _)) (pss_cons (ps_set (i := 1) sc_names_in.nd rfl (by first | exact Or.inl rfl | exact Or.inr rfl) (pcall D_names_in G_names_in (hr.mono (by omega)) (pa_cons (pe_ix ix_seq (pv 0) pe_int (fun _ _ => rfl)) pa_nil)))
    (pss_cons (ps_for PassesOwn.never rfl (pi_tup (pe_ix ix_seq (pv 0) pe_int (fun _ _ => rfl))) (pg_name (i := 2) sc_names_in.nd rfl (by first | exact Or.inl rfl | exact Or.inr rfl)) (pss_one (ps_expr (pe_bm PySem.F.plainAttrs_list PySem.F.slot_list_extend PySem.F.type_list_extend mt_extend (pv 1) (pa_cons (pcall D_names_in G_names_in (hr.mono (by omega)) (pa_cons (pv 2) pa_nil)) pa_nil)))))
    (pss_one (ps_ret (pv 1))))) pss_nil)
    (pss_one (ps_ret (pcall D_names_in G_names_in (hr.mono (by omega)) (pa_cons (pe_ix ix_seq (pv 0) pe_int (fun _ _ => rfl)) pa_nil))))))), ?_⟩
      have h0 : ∀ H1, Ex H H1 → EvD K (tVar 0) (start ["kind", "found", "one"] [v]) H1 k.d := fun H1 e => ed_var rfl (dp_ex e kv)
      have fin : ∀ {l : List V}, l = k.nm.map V.str → ∀ H1, Ex H H1 → ∀ p H2, H1 p = none → Ex H1 H2 → H2 p = some (.lst l) → Q (.ref p) H2 := fun el H1 e1 p H2 hp e2 h2 => q p H2 (fresh_back e1 hp) (e1.trans e2) (el ▸ h2)
      have two : ∀ {k : Kd} {H1 : Hp} {σ : L2.St} {te : TE}, EvD K te σ H1 k.d → (∃ r, k.d = .tuple (.str k.tag :: r)) → EvT (tTest (tOp (rInT K false) (tOp (rIx K) te (tC (.int 0))) (tTup (tCons (tC (.str "class")) (tCons (tC (.str "fresh")) tNil))))) σ H1 (k.isCls || k.isFresh) := fun {k H1 σ te} h ⟨r, e⟩ => by
        refine et_d (te_inT (ds := [.str "class", .str "fresh"]) (ed_ixT (h.is e) ed_int at0) (ed_tup (eda_cons ed_str (eda_cons ed_str eda_nil)) (by show 2 ≤ 1000; omega)) (tag_sh k) (by decide +kernel) ?_)
        simp only [List.any_cons, List.any_nil, PyData.eqv, Bool.or_false, if_false, Bool.false_eq_true]
        rw [← tag_cls, ← tag_fresh]
        congr 1
        · exact Bool.eq_iff_iff.mpr ⟨fun x => by rw [eq_of_beq x]; simp, fun x => by rw [eq_of_beq x]; simp⟩
        · exact Bool.eq_iff_iff.mpr ⟨fun x => by rw [eq_of_beq x]; simp, fun x => by rw [eq_of_beq x]; simp⟩
      -- array, channel, weak: the last row
      have one : ∀ (k' : Kd) {H1 : Hp}, Ex H H1 → (∃ a, k.d = .tuple [.str a, k'.d]) → k'.nm = k.nm → k.dep = k'.dep + 1 → (tRet (tCall (spNames K n) [] E0 (tCons (tOp (rIx K) (tVar 0) (tC (.int 1))) tNil))) { nx := fun _ H' => Q .non H', rt := Q } (start ["kind", "found", "one"] [v]) H1 := fun k' {H1} e1 ⟨a, e⟩ en ed =>
        s_retL (el_names (k := k') (ed_ixT ((h0 H1 e1).is e) ed_int (atI_nat (j := 1) rfl)) (by omega) (by rw [en]; exact hl)) fun p H2 hp e2 h2 => fin (by rw [en]) H1 e1 p H2 hp e2 h2
      cases k with
      | int => exact dq_ifT (et_dB ((ed_isi (h0 H (Ex.refl H)) (T.isi _)).is rfl)) fun H1 e1 => s_retL (el_lst ea_nil (Nat.zero_le _)) (fin rfl H1 e1)
      | void => exact dq_ifT (et_dB ((ed_isi (h0 H (Ex.refl H)) (T.isi _)).is rfl)) fun H1 e1 => s_retL (el_lst ea_nil (Nat.zero_le _)) (fin rfl H1 e1)
      | null => exact dq_ifT (et_dB ((ed_isi (h0 H (Ex.refl H)) (T.isi _)).is rfl)) fun H1 e1 => s_retL (el_lst ea_nil (Nat.zero_le _)) (fin rfl H1 e1)
      | unset => exact dq_ifT (et_dB ((ed_isi (h0 H (Ex.refl H)) (T.isi _)).is rfl)) fun H1 e1 => s_retL (el_lst ea_nil (Nat.zero_le _)) (fin rfl H1 e1)
      | cls a =>
        refine dq_ifF (et_dB ((ed_isi (h0 H (Ex.refl H)) (T.isi _)).is rfl)) fun H1 e1 => ?_
        refine dq_ifT (two (h0 H1 e1) ⟨_, rfl⟩) fun H2 e2 => ?_
        exact s_retL (el_lst (ea_cons (ev_edS (ed_ixT (h0 H2 (e1.trans e2)) ed_int (atI_nat (j := 1) rfl))) ea_nil) (by show 1 ≤ 100000; omega)) (fin rfl H2 (e1.trans e2))
      | fresh a i =>
        refine dq_ifF (et_dB ((ed_isi (h0 H (Ex.refl H)) (T.isi _)).is rfl)) fun H1 e1 => ?_
        refine dq_ifT (two (h0 H1 e1) ⟨_, rfl⟩) fun H2 e2 => ?_
        exact s_retL (el_lst (ea_cons (ev_edS (ed_ixT (h0 H2 (e1.trans e2)) ed_int (atI_nat (j := 1) rfl))) ea_nil) (by show 1 ≤ 100000; omega)) (fin rfl H2 (e1.trans e2))
      | arr k =>
        refine dq_ifF (et_dB ((ed_isi (h0 H (Ex.refl H)) (T.isi _)).is rfl)) fun H1 e1 => ?_
        refine dq_ifF (two (h0 H1 e1) ⟨_, rfl⟩) fun H2 e2 => ?_
        refine dq_ifF (et_d (k0_eq (h0 H2 (e1.trans e2)) (by decide +kernel))) fun H3 e3 => ?_
        exact one k ((e1.trans e2).trans e3) ⟨_, rfl⟩ rfl rfl
      | chan k =>
        refine dq_ifF (et_dB ((ed_isi (h0 H (Ex.refl H)) (T.isi _)).is rfl)) fun H1 e1 => ?_
        refine dq_ifF (two (h0 H1 e1) ⟨_, rfl⟩) fun H2 e2 => ?_
        refine dq_ifF (et_d (k0_eq (h0 H2 (e1.trans e2)) (by decide +kernel))) fun H3 e3 => ?_
        exact one k ((e1.trans e2).trans e3) ⟨_, rfl⟩ rfl rfl
      | weak k =>
        refine dq_ifF (et_dB ((ed_isi (h0 H (Ex.refl H)) (T.isi _)).is rfl)) fun H1 e1 => ?_
        refine dq_ifF (two (h0 H1 e1) ⟨_, rfl⟩) fun H2 e2 => ?_
        refine dq_ifF (et_d (k0_eq (h0 H2 (e1.trans e2)) (by decide +kernel))) fun H3 e3 => ?_
        exact one k ((e1.trans e2).trans e3) ⟨_, rfl⟩ rfl rfl
      | fn ps r =>
        have hln : r.nm.length + (Kd.nmAll ps).length ≤ 1000 := by
          have : Kd.nm (.fn ps r) = r.nm ++ Kd.nmAll ps := rfl
          rw [this, List.length_append] at hl
          exact hl
        have hdd : Kd.dep (.fn ps r) = max (Kd.depAll ps) r.dep + 1 := rfl
        refine dq_ifF (et_dB ((ed_isi (h0 H (Ex.refl H)) (T.isi _)).is rfl)) fun H1 e1 => ?_
        refine dq_ifF (two (h0 H1 e1) ⟨_, rfl⟩) fun H2 e2 => ?_
        have e2 := e1.trans e2
        refine dq_ifT (et_d (k0_eq (h0 H2 e2) (by decide +kernel))) fun H3 e3 => ?_
        have e3 := e2.trans e3
        -- found = names_in(kind[2])
        refine q_asgL (el_names (k := r) (ed_ixT (h0 H3 e3) ed_int (atI_nat (j := 2) rfl)) (by omega) (by omega)) fun p H4 hp e4 h4 => ?_
        have hp0 := fresh_back e3 hp
        have e4 := e3.trans e4
        -- for one in kind[1]: found.extend(names_in(one))
        refine (ed_ixT (K := K) (σ := [some v, some (.ref p), none]) (ed_var (i := 0) rfl (dp_ex e4 kv)) ed_int (atI_nat (j := 1) rfl)) H4 (Ex.refl _) _ fun vx H5 e5 kx => ?_
        obtain ⟨l, xs, rfl, hx, ks⟩ := dp_tup kx
        have e5' := e4.trans e5
        refine ⟨l, rfl, ⟨_, hx⟩, for_tup (K := K) (a := l) (xs := xs) (fun i σ' H' => ∃ o, σ' = [some v, some (.ref p), o] ∧ Bt p H5 H' ∧ Ex H H' ∧ H' p = some (.lst ((r.nm ++ Kd.nmAll (ps.take i)).map V.str)))
          ⟨none, rfl, Bt.refl _ _, e5', by rw [e5 _ _ h4]; simp [Kd.nmAll]⟩ (fun i σ' H' _ ⟨_, _, bt, _, _⟩ => btT_t (by rw [e5 _ _ h4]; exact offT_lst) bt hx) ?_ ?_⟩
        · rintro i u σ' H' hu ⟨o, rfl, bt, ex, hf⟩
          obtain ⟨d, hdi, kd⟩ := dpa_get' ks hu
          rw [dAll_map, List.getElem?_map] at hdi
          obtain ⟨k', hk', rfl⟩ : ∃ k', ps[i]? = some k' ∧ Kd.d k' = d := by
            cases e : ps[i]? with
            | none => rw [e] at hdi; cases hdi
            | some z => rw [e] at hdi; exact ⟨z, rfl, Option.some.inj hdi⟩
          have hmem : k' ∈ ps := List.mem_of_getElem? hk'
          have nk := nmAll_mem hmem
          have dk := depAll_mem hmem
          have hoff : OffT (H5 p) := by rw [e5 _ _ h4]; exact offT_lst
          have kdH : Dp K H' u k'.d := dp_btT hoff bt (noL_kd k') kd
          -- found.extend(names_in(one))
          refine ⟨.ref p, rfl, .inl ⟨rfl, _, sq_of hf⟩, ?_⟩
          refine el_names (K := K) (σ := [some v, some (.ref p), some u]) (k := k') (n := n) (ed_var (i := 2) rfl kdH) (by omega) (by omega) H' (Ex.refl _) _ fun b H6 hb e6 h6 => ?_
          have hpf : H6 p = some (.lst ((r.nm ++ Kd.nmAll (ps.take i)).map V.str)) := e6 _ _ hf
          have htk : ps.take (i + 1) = ps.take i ++ [k'] := by rw [List.take_add_one, hk']; rfl
          have hsum : (Kd.nmAll (ps.take (i + 1))).length ≤ (Kd.nmAll ps).length := by
            have : Kd.nmAll ps = Kd.nmAll (ps.take (i + 1)) ++ Kd.nmAll (ps.drop (i + 1)) := by rw [← nmAll_app, List.take_append_drop]
            rw [this, List.length_append]
            omega
          rw [htk, nmAll_app, List.length_append] at hsum
          have hk1 : Kd.nmAll [k'] = k'.nm := List.append_nil _
          rw [hk1] at hsum
          refine ⟨p, b, _, _, rfl, rfl, hpf, h6, sz_of (by simp only [List.length_map, List.length_append]; omega), ?_⟩
          refine ⟨_, rfl, fun c o' nc hc => ?_, Ex.mut (ex.trans e6) hp0, ?_⟩
          · rw [upd_ne nc]
            exact e6 _ _ (bt _ _ nc hc)
          · rw [upd_same, htk, nmAll_app, hk1]
            simp [List.append_assoc]
        · rintro σ' H' ⟨o, rfl, bt, ex, hf⟩
          have hxl : xs.length = ps.length := by rw [dpa_len ks, dAll_map, List.length_map]
          rw [hxl, List.take_length] at hf
          exact s_ret (v := .ref p) (ev_var rfl) fun H6 e6 => q p H6 hp0 (ex.trans e6) (e6 _ _ hf)
end
end K01

set_option maxRecDepth 100000
set_option maxHeartbeats 4000000
/-! law_k01: type_at, func_at, read_type. -/
namespace K01
open PySem PySem.Spec PyProof.Rows L2 Evl Dat TL
section
variable {P : Program} {w : World} {K : PySem.W.Frag} {mg : Str → Option Value} {base : Heap} {C fI cc oA : Addr} {tL tD : Tok} {F : NdefX.NF} {fdI : FuncData} {f f1 f2 f3 : Addr} {fd fd1 fd2 fd3 : FuncData} {σ : L2.St} {H : Hp} {v : V} {ds : List PyData} {ta tb te : TE} {tr : TA}
/-- TextError(row, "type") leaves -/
def Bad (C : Addr) (row : Int) (H : Hp) (E : XK) : Prop := ∀ H1, Ex H H1 → ∀ d, H1 d = none → E (.ref C) (some d) (upd H1 d (xrow row "type"))
theorem Bad.mono {row : Int} {H H' : Hp} {E : XK} (b : Bad C row H E) (e : Ex H H') : Bad C row H' E := fun H1 e1 => b H1 (e.trans e1)
def spRead (K : PySem.W.Frag) (C : Addr) (g : Nat → List Nat → Rs) (n : Nat) : Sp := fun vs H Q E => ∃ (z : Str) (at_ : Nat) (row : Int) (res : Option (Kd × Nat)), vs = [.str z, .int at_, .int row] ∧ z.length ≤ 1000 ∧ okS (tl z) ∧ n ≤ 20 ∧ g n ((tl z).drop at_) = some res ∧
  (∀ k c, res = some (k, c) → ∀ v H', Ex H H' → Dp K H' v (.tuple [k.d, .int ((at_ + c : Nat) : Int)]) → Q v H') ∧ (res = none → Bad C row H E)
abbrev spType (K : PySem.W.Frag) (C : Addr) : Nat → Sp := spRead K C typeAt
abbrev spFunc (K : PySem.W.Frag) (C : Addr) : Nat → Sp := spRead K C (fun n s => if s.take 1 = [40] then funcAt (typeAt n) s else none)
/-- a call of them -/
theorem call_read {g : Nat → List Nat → Rs} {n : Nat} {z : Str} {at_ : Nat} {row : Int} {res : Option (Kd × Nat)} {E : L2.St → XK} {Q : VK} (h : EvA tr σ H [.str z, .int at_, .int row]) (hz : z.length ≤ 1000) (hk : okS (tl z)) (hn : n ≤ 20) (hg : g n ((tl z).drop at_) = some res)
    (ok : ∀ k c, res = some (k, c) → ∀ v H', Ex H H' → Dp K H' v (.tuple [k.d, .int ((at_ + c : Nat) : Int)]) → Q v H') (bad : res = none → Bad C row H (E σ)) : tCallS (spRead K C g n) E tr σ H Q :=
  h H (Ex.refl H) _ fun H1 e1 => ⟨z, at_, row, res, rfl, hz, hk, hn, hg, fun k c e v H' e2 kv => ok k c e v H' (e1.trans e2) kv, fun e => (bad e).mono e1⟩
/-- raise TextError(row, "type") -/
theorem s_bad {row : Int} {E : XK} (h : EvA tr σ H [.int row, .str "type"]) (bad : Bad C row H E) : tMkO C (spInit C) [] tr σ H fun cls d H' => E cls d H' :=
  h H (Ex.refl H) _ fun H1 e1 => mkO_of (Q := fun cls d H' => E cls d H') fun d hd => bad H1 e1 d hd
/-- inner, end = (a, b) -/
theorem g_two {i j : Nat} {d e : PyData} {Q : L2.St → Hp → Prop} (k : Dp K H v (.tuple [d, e])) (q : ∀ x y, Dp K H x d → Dp K H y e → Q ((σ.set i (some x)).set j (some y)) H) : gTup K 2 (gCons (gName i) (gCons (gName j) gNil)) v σ H Q := by
  obtain ⟨a, xs, rfl, hx, ks⟩ := dp_tup k
  obtain ⟨x, y, rfl, kx, ky⟩ := dpa2 ks
  exact ⟨a, _, rfl, hx, rfl, x, _, rfl, y, _, rfl, rfl, q x y kx ky⟩
theorem ed_one {z : Str} {a : Nat} (hz : EvD K te σ H (.str z)) (hl : z.length ≤ 1000) (ha : EvD K ta σ H (.int (a : Int))) : EvD K (tSl rSlS te (tPart ta) (tPart (tOp (rI0 fun i j => .int (i + j)) ta (tC (.int 1))))) σ H (.str ⟨(((tl z).drop a).take 1).toArray⟩) :=
  (ed_slS hz (eo_d ha) (eo_d (ed_I0 (g := fun i j => i + j) ha ed_int)) (by omega)).is (by rw [cut_one])
theorem q_read2 {g : Nat → List Nat → Rs} {n : Nat} {z : Str} {at_ : Nat} {row : Int} {res : Option (Kd × Nat)} {E : L2.St → XK} {i j : Nat} {D : Ends} {tz : TS} (h : EvA tr σ H [.str z, .int at_, .int row]) (hz : z.length ≤ 1000) (hk : okS (tl z)) (hn : n ≤ 20) (hg : g n ((tl z).drop at_) = some res)
    (ok : ∀ k c, res = some (k, c) → ∀ x H', Ex H H' → Dp K H' x k.d → tz D ((σ.set i (some x)).set j (some (.int ((at_ + c : Nat) : Int)))) H') (bad : res = none → Bad C row H (E σ)) : tSeq (tAsg (tCallS (spRead K C g n) E tr) (gTup K 2 (gCons (gName i) (gCons (gName j) gNil)))) tz D σ H :=
  call_read (Q := fun x H1 => gTup K 2 (gCons (gName i) (gCons (gName j) gNil)) x σ H1 (tz D)) h hz hk hn hg (fun k c e v H' e2 kv => g_two kv fun x y kx ky => by rw [dp_int ky]; exact ok k c e x H' e2 kx) bad
theorem word_at : ∀ {s : List Nat} {e : Nat}, e < (word s).length → ∃ c, s[e]? = some c ∧ isW c = true
  | [], e, h => by simp [word] at h
  | c :: r, e, h => by
    unfold word at h
    by_cases hc : isW c = true
    · rw [List.takeWhile_cons_of_pos hc] at h
      cases e with
      | zero => exact ⟨c, rfl, hc⟩
      | succ e => exact word_at (s := r) (e := e) (by unfold word; simpa using h)
    · rw [List.takeWhile_cons_of_neg hc] at h
      simp at h
theorem word_end : ∀ (s : List Nat), s.length ≤ (word s).length ∨ ∃ c, s[(word s).length]? = some c ∧ isW c = false
  | [] => .inl (Nat.le_refl _)
  | c :: r => by
    unfold word
    by_cases hc : isW c = true
    · rw [List.takeWhile_cons_of_pos hc]
      rcases word_end r with h | ⟨d, h1, h2⟩
      · unfold word at h
        exact .inl (by simpa using h)
      · unfold word at h1
        exact .inr ⟨d, by simpa using h1, h2⟩
    · rw [List.takeWhile_cons_of_neg hc]
      exact .inr ⟨c, rfl, Bool.eq_false_iff.mpr hc⟩
theorem word_take : ∀ (s : List Nat), s.take (word s).length = word s
  | [] => rfl
  | c :: r => by
    unfold word
    by_cases hc : isW c = true
    · rw [List.takeWhile_cons_of_pos hc]
      have := word_take r
      unfold word at this
      simp [this]
    · rw [List.takeWhile_cons_of_neg hc]
      rfl
theorem word_le (s : List Nat) : (word s).length ≤ s.length := (List.takeWhile_sublist _).length_le
theorem void_sh : SeqAt.shaped Kd.void.d = true := by decide +kernel
theorem ok_type_at (D_type_at : Def' K mg "type_at" s_type_at ["text", "at", "row"] f fd) (D_func_at : Def' K mg "func_at" s_func_at ["text", "at", "row"] f1 fd1) (T : Txt P K mg C fI cc oA tL tD F fdI) (D_is_name : Def' K mg "is_name" s_is_name ["word"] f2 fd2) (n : Nat)
    (G_type_at : FnOk P w K mg base (L2.CX P w) (2 * n + 2) f fd ["text", "at", "row"] (spType K C n)) (G_func_at : FnOk P w K mg base (L2.CX P w) (2 * n + 3) f1 fd1 ["text", "at", "row"] (spFunc K C n)) :
    FnOk P w K mg base (L2.CX P w) (2 * n + 3 + 1) f fd ["text", "at", "row"] (spType K C (n + 1)) := by
  have G_is_name := ok_is_name (w := w) (base := base) D_is_name T
  refine D_type_at.fn.okX sc_type_at (fun vs H Q E h => ?_) (fun cdv A outer s H vs Q E hr h => ?_)
  · obtain ⟨z, at_, row, res, rfl, _⟩ := h
    rfl
  · obtain ⟨z, at_, row, res, rfl, hz, hk, hn, hg, ok, bad⟩ := h
    refine ⟨_, (pss_cons (ps_set (i := 3) sc_type_at.nd rfl (by first | exact Or.inl rfl | exact Or.inr rfl) (pe_slice sl_str (pv 0) (po_some (pv 1)) (po_some (pe_op op_add (pv 1) pe_int))))
    (pss_cons (ps_if (pt_cmpR op_in_seq (pv 3) (pe_tup (pa_cons pe_str (pa_cons pe_str pa_nil))) (by rfl)) (pss_cons (ps_asg (pcallX D_type_at G_type_at (hr.mono (by omega)) (fun σ => passAt (takes_of rfl rfl rfl rfl) σ) (pa_cons (pv 0) (pa_cons (pe_op op_add (pv 1) pe_int) (pa_cons (pv 2) pa_nil)))) (pg_tup rfl (pgs_cons (pg_name (i := 4) sc_type_at.nd rfl (by first | exact Or.inl rfl | exact Or.inr rfl)) (pgs_cons (pg_name (i := 5) sc_type_at.nd rfl (by first | exact Or.inl rfl | exact Or.inr rfl)) pgs_nil))))
    (pss_cons (ps_if ((pw_or (pt_cmpR (op_eqD (un64 hr)) (pv 4) pe_str (nomark _)) (pw_or1 (pt_cmpR op_ne (pe_slice sl_str (pv 0) (po_some (pv 5)) (po_some (pe_op op_add (pv 5) pe_int))) (pe_ifExp (pt_cmpR op_eq (pv 3) pe_str (nomark _)) pe_str pe_str) (nomark _))))).pt (pss_one (ps_raise rfl (takes_of rfl rfl rfl rfl) (T.mk_TextError hr (pa_cons (pv 2) (pa_cons pe_str pa_nil))))) pss_nil)
    (pss_one (ps_ret (pe_tup (pa_cons (pe_tup (pa_cons (pe_ifExp (pt_cmpR op_eq (pv 3) pe_str (nomark _)) pe_str pe_str) (pa_cons (pv 4) pa_nil))) (pa_cons (pe_op op_add (pv 5) pe_int) pa_nil))))))) pss_nil)
    (pss_cons (ps_if (pt_cmpR op_eq (pv 3) pe_str (nomark _)) (pss_cons (ps_asg (pcallX D_type_at G_type_at (hr.mono (by omega)) (fun σ => passAt (takes_of rfl rfl rfl rfl) σ) (pa_cons (pv 0) (pa_cons (pe_op op_add (pv 1) pe_int) (pa_cons (pv 2) pa_nil)))) (pg_tup rfl (pgs_cons (pg_name (i := 4) sc_type_at.nd rfl (by first | exact Or.inl rfl | exact Or.inr rfl)) (pgs_cons (pg_name (i := 5) sc_type_at.nd rfl (by first | exact Or.inl rfl | exact Or.inr rfl)) pgs_nil))))
    (pss_cons (ps_if ((pw_or (pt_val (pe_callB call_isi (by rfl) T.z_isinstance (by decide +kernel) (pa_cons (pv 4) (pa_cons (pe_bltn (v := .ty "str") (by rfl) T.z_str (by decide +kernel) rfl) pa_nil)))) (pw_or1 (pt_cmpR (op_neD (un64 hr)) (pe_ix ix_seq (pv 4) pe_int (fun _ _ => rfl)) pe_str (nomark _))))).pt (pss_one (ps_raise rfl (takes_of rfl rfl rfl rfl) (T.mk_TextError hr (pa_cons (pv 2) (pa_cons pe_str pa_nil))))) pss_nil)
    (pss_one (ps_ret (pe_tup (pa_cons (pe_tup (pa_cons pe_str (pa_cons (pv 4) pa_nil))) (pa_cons (pv 5) pa_nil))))))) pss_nil)
    (pss_cons (ps_if (pt_cmpR op_eq (pv 3) pe_str (nomark _)) (pss_one (ps_ret (pcallX D_func_at G_func_at (hr.mono (by omega)) (fun σ => passAt (takes_of rfl rfl rfl rfl) σ) (pa_cons (pv 0) (pa_cons (pv 1) (pa_cons (pv 2) pa_nil)))))) pss_nil)
    (pss_cons (ps_set (i := 5) sc_type_at.nd rfl (by first | exact Or.inl rfl | exact Or.inr rfl) (pv 1))
    (pss_cons (ps_while (passes_of rfl) ((pw_and (pt_cmpR op_lt (pv 5) (pe_callB call_len (by rfl) T.z_len PySem.boot_len (pa_cons (pv 0) pa_nil)) (nomark _)) (pw_and1 (pt_cmpR op_in_sign (pe_ix ix_seq (pv 0) (pv 5) (fun _ _ => rfl)) (pe_op op_add_str (pe_op op_add_str (pe_glob (v := .str _) (by rfl) T.g_LETTERS ⟨_, rfl⟩) (pe_glob (v := .str _) (by rfl) T.g_DIGITS ⟨_, rfl⟩)) pe_str) (by rfl))))).pt (pss_one (ps_aug (i := 5) sc_type_at.nd rfl (by first | exact Or.inl rfl | exact Or.inr rfl) pe_int ip_add)))
    (pss_cons (ps_set (i := 6) sc_type_at.nd rfl (by first | exact Or.inl rfl | exact Or.inr rfl) (pe_slice sl_str (pv 0) (po_some (pv 1)) (po_some (pv 5))))
    (pss_cons (ps_if (pt_cmpR op_in_seq (pv 6) (pe_tup (pa_cons pe_str (pa_cons pe_str pa_nil))) (by rfl)) (pss_one (ps_ret (pe_tup (pa_cons (pv 6) (pa_cons (pv 5) pa_nil))))) pss_nil)
    (pss_cons (ps_if ((pw_or (pt_not (pt_val (pcall D_is_name G_is_name (hr.mono (by omega)) (pa_cons (pv 6) pa_nil)))) (pw_or1 (pt_cmpR op_in_seq (pv 6) (pe_tup (pa_cons pe_str (pa_cons pe_str (pa_cons pe_str pa_nil)))) (by rfl))))).pt (pss_one (ps_raise rfl (takes_of rfl rfl rfl rfl) (T.mk_TextError hr (pa_cons (pv 2) (pa_cons pe_str pa_nil))))) pss_nil)
    (pss_one (ps_ret (pe_tup (pa_cons (pe_tup (pa_cons pe_str (pa_cons (pv 6) pa_nil))) (pa_cons (pv 5) pa_nil)))))))))))))), ?_⟩
    have hs : okS ((tl z).drop at_) := okS_drop hk at_
    have stail : ∀ m, (tl z).drop (at_ + m) = ((tl z).drop at_).drop m := fun m => by rw [List.drop_drop]
    generalize es : (tl z).drop at_ = s at hg hs stail
    have lenz : z.length = (tl z).length := len_tl z
    -- sign = text[at:at + 1]
    refine dq_asg (K := K) (ed_one (ed_var (i := 0) rfl (.str z)) hz (ed_var (i := 1) rfl (.int (at_ : Int)))) fun v1 H1 e1 k1 => ?_
    rw [dp_str k1, es]
    clear k1 v1
    have t1 : EvT (tTest (tOp (rIn K false) (tVar 3) (tTup (tCons (tC (.str "[")) (tCons (tC (.str "<")) tNil))))) [some (.str z), some (.int at_), some (.int row), some (.str ⟨(s.take 1).toArray⟩), none, none, none] H1 (decide (s.take 1 = [91]) || decide (s.take 1 = [60])) :=
      et_d (K := K) ((ed_inStrsT (ss := ["[", "<"]) (ed_var rfl (.str _)) (ed_tup (eda_cons ed_str (eda_cons ed_str eda_nil)) (by show 2 ≤ 1000; omega))).is (by
        show PyData.bool (List.any [("[" : Str), ("<" : Str)] fun y => y == (⟨(s.take 1).toArray⟩ : Str)) = _
        rw [List.any_cons, List.any_cons, List.any_nil, Bool.or_false, str_beqL (s := "[") (m := [91]) (by decide +kernel), str_beqL (s := "<") (m := [60]) (by decide +kernel)]))
    have bw : ∀ {H1 : Hp}, Ex H H1 → Bad C row H E → Bad C row H1 E := fun e b => b.mono e
    have hsh : ∀ {k : Kd} {c m : Nat}, typeAt n (s.drop m) = some (some (k, c)) → SeqAt.shaped k.d = true := fun h => lay_shaped (lay_typeAt n _ _ _ (okS_drop hs _) h) (by omega)
    by_cases c1 : (decide (s.take 1 = [91]) || decide (s.take 1 = [60])) = true
    · -- an array, a channel
      obtain ⟨isb, mk, cl, hsg, hbra, hcl, hmk⟩ : ∃ (isb : Bool) (mk : Kd → Kd) (cl : Nat), s.take 1 = [if isb then 91 else 60] ∧ bra (typeAt n) cl mk s = some res ∧ cl = (if isb then 93 else 62) ∧ (∀ k, (mk k).d = .tuple [.str (if isb then "array" else "channel"), k.d]) := by
        unfold typeAt at hg
        by_cases h91 : s.take 1 = [91]
        · rw [if_pos h91] at hg
          exact ⟨true, .arr, 93, h91, hg, rfl, fun _ => rfl⟩
        · have h60 : s.take 1 = [60] := by simpa [h91] using c1
          rw [if_neg h91, if_pos h60] at hg
          exact ⟨false, .chan, 62, h60, hg, rfl, fun _ => rfl⟩
      refine dq_ifT (et_is t1 c1) fun H2 e2 => ?_
      have e2 := e1.trans e2
      unfold bra at hbra
      have sgn : decide ((⟨(s.take 1).toArray⟩ : Str) = "[") = isb := by
        rw [str_eqL (s := "[") (m := [91]) (by decide +kernel), hsg]
        cases isb <;> decide
      cases hr1 : typeAt n (s.drop 1) with
      | none => rw [hr1] at hbra; cases hbra
      | some r1 =>
        rw [hr1] at hbra
        refine q_read2 (at_ := at_ + 1) (res := r1) (ea_cons (ev_var rfl) (ea_cons (ev_edI (K := K) (ed_I0 (g := fun i j => i + j) (i := at_) (j := 1) (ed_var rfl (.int _)) ed_int)) (ea_cons (ev_var rfl) ea_nil))) hz hk (by omega) (by rw [stail]; exact hr1) (fun k c e x H3 e3 kx => ?_) (fun e => ?_)
        · subst e
          have e3 := e2.trans e3
          simp only at hbra
          have shk := hsh hr1
          have tst : EvT (tOr (tTest (tOp (rEqD K) (tVar 4) (tC (.str "void")))) (tTest (tOp rNe (tSl rSlS (tVar 0) (tPart (tVar 5)) (tPart (tOp (rI0 fun i j => .int (i + j)) (tVar 5) (tC (.int 1))))) (tIf (tTest (tOp rEq (tVar 3) (tC (.str "[")))) (tC (.str "]")) (tC (.str ">"))))))
              [some (.str z), some (.int at_), some (.int row), some (.str ⟨(s.take 1).toArray⟩), some x, some (.int ((at_ + 1 + c : Nat) : Int)), none] H3 (decide (k = .void) || !decide ((s.drop (1 + c)).take 1 = [cl])) := by
            refine et_or (kd_eq (b := .void) (ed_var rfl kx) ed_str shk void_sh) fun _ => et_d (K := K) ((ed_neS (ed_one (a := at_ + 1 + c) (ed_var rfl (.str z)) hz (ed_var rfl (.int _))) (ed_if (d := .str ⟨#[cl]⟩) (et_d (K := K) (ed_eqS (ed_var rfl (.str _)) ed_str)) (fun h => ?_) (fun h => ?_))).is ?_)
            · rw [sgn] at h; subst h; rw [hcl]; exact ed_str
            · rw [sgn] at h; subst h; rw [hcl]; exact ed_str
            · rw [show at_ + 1 + c = at_ + (1 + c) by omega, stail, str_eqL (s := ⟨#[cl]⟩) (m := [cl]) rfl]
          by_cases c2 : k = .void ∨ (s.drop (1 + c)).take 1 ≠ [cl]
          · rw [if_pos c2] at hbra
            cases hbra
            refine dq_ifT (et_is tst (by rcases c2 with h | h <;> simp [h])) fun H4 e4 => ?_
            exact s_bad (ea_cons (ev_var rfl) (ea_cons ev_c ea_nil)) (bw (e3.trans e4) (bad rfl))
          · rw [if_neg c2] at hbra
            cases hbra
            have c2' : k ≠ .void ∧ (s.drop (1 + c)).take 1 = [cl] := by
              refine ⟨fun h => c2 (.inl h), ?_⟩
              by_cases q : (s.drop (1 + c)).take 1 = [cl]
              · exact q
              · exact absurd (.inr q) c2
            refine dq_ifF (et_is tst (by simp [c2'.1, c2'.2])) fun H4 e4 => ?_
            refine d_ret (K := K) (ed_tup (eda_cons (ed_tup (eda_cons (ed_if (d := .str (if isb then "array" else "channel")) (et_d (K := K) (ed_eqS (ed_var (i := 3) rfl (.str _)) ed_str)) (fun h => ?_) (fun h => ?_)) (eda_cons (ed_var (i := 4) rfl (dp_ex e4 kx)) eda_nil)) (by show 2 ≤ 1000; omega)) (eda_cons (ed_I0 (g := fun i j => i + j) (ed_var (i := 5) rfl (.int _)) ed_int) eda_nil)) (by show 2 ≤ 1000; omega)) fun v H5 e5 kv => ok _ _ rfl v H5 ((e3.trans e4).trans e5) ?_
            · rw [sgn] at h; subst h; exact ed_str
            · rw [sgn] at h; subst h; exact ed_str
            · rw [hmk]
              have en : ((at_ + (1 + c + 1) : Nat) : Int) = ((at_ + 1 + c : Nat) : Int) + 1 := by omega
              rw [en]
              exact kv
        · subst e
          simp only at hbra
          cases hbra
          exact bw e2 (bad rfl)
    have c1' : s.take 1 ≠ [91] ∧ s.take 1 ≠ [60] := by simpa [not_or] using c1
    refine dq_ifF (et_is t1 (Bool.eq_false_iff.mpr c1)) fun H2 e2 => ?_
    have e2 := e1.trans e2
    unfold typeAt at hg
    rw [if_neg c1'.1, if_neg c1'.2] at hg
    have sgq : ∀ {o : Nat} {q : Str} {H' : Hp}, q = ⟨#[o]⟩ → EvT (tTest (tOp rEq (tVar 3) (tC (.str q)))) [some (.str z), some (.int at_), some (.int row), some (.str ⟨(s.take 1).toArray⟩), none, none, none] H' (decide (s.take 1 = [o])) := fun {o q H'} hq =>
      et_d (K := K) ((ed_eqS (ed_var rfl (.str _)) ed_str).is (by rw [str_eqL (m := [o]) hq]))
    by_cases c3 : s.take 1 = [63]
    · -- weak
      rw [if_pos c3] at hg
      refine dq_ifT (et_is (sgq (o := 63) (by decide +kernel)) (decide_eq_true c3)) fun H3 e3 => ?_
      have e3 := e2.trans e3
      unfold weakAt at hg
      cases hr1 : typeAt n (s.drop 1) with
      | none => rw [hr1] at hg; cases hg
      | some r1 =>
        rw [hr1] at hg
        refine q_read2 (at_ := at_ + 1) (res := r1) (ea_cons (ev_var rfl) (ea_cons (ev_edI (K := K) (ed_I0 (g := fun i j => i + j) (i := at_) (j := 1) (ed_var rfl (.int _)) ed_int)) (ea_cons (ev_var rfl) ea_nil))) hz hk (by omega) (by rw [stail]; exact hr1) (fun k c e x H4 e4 kx => ?_) (fun e => ?_)
        · subst e
          have e4 := e3.trans e4
          simp only at hg
          have tst : EvT (tOr (tB (tCB (rIsi K) (tCons (tVar 4) (tCons (tC (.ty "str")) tNil)))) (tTest (tOp (rNeD K) (tOp (rIx K) (tVar 4) (tC (.int 0))) (tC (.str "class")))))
              [some (.str z), some (.int at_), some (.int row), some (.str ⟨(s.take 1).toArray⟩), some x, some (.int ((at_ + 1 + c : Nat) : Int)), none] H4 (!k.isCls) := by
            have hx : EvD K (tVar 4) [some (.str z), some (.int at_), some (.int row), some (.str ⟨(s.take 1).toArray⟩), some x, some (.int ((at_ + 1 + c : Nat) : Int)), none] H4 k.d := ed_var rfl kx
            cases k <;> first
              | exact et_is (et_or (b := false) (et_dB ((ed_isi hx (T.isi _)).is rfl)) fun h => Bool.noConfusion h) rfl
              | exact et_is (et_or (et_dB ((ed_isi hx (T.isi _)).is rfl)) fun _ => et_d (K := K) (k0_ne (r := true) hx (by decide +kernel))) rfl
              | exact et_is (et_or (et_dB ((ed_isi hx (T.isi _)).is rfl)) fun _ => et_d (K := K) (k0_ne (r := false) hx (by decide +kernel))) rfl
          by_cases c4 : k.isCls = true
          · rw [if_pos c4] at hg
            cases hg
            refine dq_ifF (et_is tst (by rw [c4]; rfl)) fun H5 e5 => ?_
            refine d_ret (K := K) (ed_tup (eda_cons (ed_tup (eda_cons ed_str (eda_cons (ed_var (i := 4) rfl (dp_ex e5 kx)) eda_nil)) (by show 2 ≤ 1000; omega)) (eda_cons (ed_var (i := 5) rfl (.int _)) eda_nil)) (by show 2 ≤ 1000; omega)) fun v H6 e6 kv => ok _ _ rfl v H6 ((e4.trans e5).trans e6) ?_
            rw [← Nat.add_assoc]
            exact kv
          · rw [if_neg c4] at hg
            cases hg
            refine dq_ifT (et_is tst (by rw [Bool.eq_false_iff.mpr c4]; rfl)) fun H5 e5 => ?_
            exact s_bad (ea_cons (ev_var rfl) (ea_cons ev_c ea_nil)) (bw (e4.trans e5) (bad rfl))
        · subst e
          simp only at hg
          cases hg
          exact bw e3 (bad rfl)
    rw [if_neg c3] at hg
    refine dq_ifF (et_is (sgq (o := 63) (by decide +kernel)) (decide_eq_false c3)) fun H3 e3 => ?_
    have e3 := e2.trans e3
    by_cases c4 : s.take 1 = [40]
    · -- a function's
      rw [if_pos c4] at hg
      refine dq_ifT (et_is (sgq (o := 40) (by decide +kernel)) (decide_eq_true c4)) fun H4 e4 => ?_
      have e4 := e3.trans e4
      exact call_read (res := res) (ea_cons (ev_var rfl) (ea_cons (ev_var rfl) (ea_cons (ev_var rfl) ea_nil))) hz hk (by omega) (by rw [es]; simp only [if_pos c4]; exact hg) (fun k c e v H' e5 kv => ok k c e v H' (e4.trans e5) kv) (fun e => bw e4 (bad e))
    rw [if_neg c4] at hg
    refine dq_ifF (et_is (sgq (o := 40) (by decide +kernel)) (decide_eq_false c4)) fun H4 e4 => ?_
    have e4 := e3.trans e4
    -- end = at
    refine q_asg (ev_var (i := 1) (v := .int (at_ : Int)) rfl) fun H5 e5 => ?_
    have e5 := e4.trans e5
    have wl := word_le s
    have sl : s.length = (tl z).length - at_ := by rw [← es, List.length_drop]
    refine q_while (fun m σ' H' => ∃ e : Nat, m = (word s).length - e ∧ e ≤ (word s).length ∧ σ' = [some (.str z), some (.int at_), some (.int row), some (.str ⟨(s.take 1).toArray⟩), none, some (.int ((at_ + e : Nat) : Int)), none] ∧ Ex H H') (word s).length ⟨0, rfl, Nat.zero_le _, rfl, e5⟩ ?_
    rintro m σ' H' ⟨e, rfl, he, rfl, ex⟩
    have lenT : EvD K (tCB (fun xs H Q => ∃ x n, xs = [x] ∧ LenV K x H n ∧ Q (.int n) H) (tCons (tVar 0) tNil)) [some (.str z), some (.int at_), some (.int row), some (.str ⟨(s.take 1).toArray⟩), none, some (.int ((at_ + e : Nat) : Int)), none] H' (.int z.length) := ed_lenS (ed_var rfl (.str z)) (by omega)
    have inT : ∀ c, s[e]? = some c → EvT (tTest (tOp (fun x y H Q => ∃ (c : Nat) (z : Str), x = .str ⟨#[c]⟩ ∧ y = .str z ∧ Q (.bl (decide (c ∈ z.cps.toList))) H) (tOp (rIx K) (tVar 0) (tVar 5)) (tOp (fun x y H Q => ∃ i j, x = .str i ∧ y = .str j ∧ i.length + j.length ≤ sizeLine ∧ Q (.str (i ++ j)) H) (tOp (fun x y H Q => ∃ i j, x = .str i ∧ y = .str j ∧ i.length + j.length ≤ sizeLine ∧ Q (.str (i ++ j)) H) (tC (.str LET)) (tC (.str DIG))) (tC (.str "_"))))) [some (.str z), some (.int at_), some (.int row), some (.str ⟨(s.take 1).toArray⟩), none, some (.int ((at_ + e : Nat) : Int)), none] H' (isW c) := fun c hc => by
      refine et_d (K := K) ((ed_inSign (c := c) (s := ⟨wch.toArray⟩) (ed_ixS (ed_var (i := 0) rfl (.str z)) (ed_var (i := 5) rfl (.int _)) (by omega) (atI_nat (j := at_ + e) ?_)) ?_).is rfl)
      · have := hc
        rw [← es, List.getElem?_drop] at this
        exact this
      · exact (ed_addS (a := LET ++ DIG) (b := "_") (ed_addS (a := LET) (b := DIG) (ed_c (.str LET)) (ed_c (.str DIG)) (by decide +kernel)) ed_str (by decide +kernel)).is (by rw [wch_app])
    by_cases lt : e < (word s).length
    · obtain ⟨c, hc, hw⟩ := word_at lt
      have hcl : e < s.length := (List.getElem?_eq_some_iff.mp hc).1
      refine ⟨true, et_is (et_and (et_d (K := K) (ed_B0 (g := fun i j => decide (i < j)) (ed_var (i := 5) rfl (.int _)) lenT)) fun _ => inT c hc) ?_, fun _ H6 e6 => ?_, fun h => Bool.noConfusion h⟩
      · rw [hw, Bool.and_true]
        exact decide_eq_true (by omega)
      · refine ⟨fun σ2 H2 => ∃ m', m' < (word s).length - e ∧ ∃ e : Nat, m' = (word s).length - e ∧ e ≤ (word s).length ∧ σ2 = [some (.str z), some (.int at_), some (.int row), some (.str ⟨(s.take 1).toArray⟩), none, some (.int ((at_ + e : Nat) : Int)), none] ∧ Ex H H2, fun σ2 H2 h => h, ?_⟩
        exact s_aug (i := 5) rfl ev_c fun H7 e7 => ⟨_, by omega, e + 1, rfl, lt, rfl, (ex.trans e6).trans e7⟩
    · have ee : e = (word s).length := by omega
      subst ee
      have fals : EvT (tAnd (tTest (tOp (rI0 fun i j => .bl (decide (i < j))) (tVar 5) (tCB (fun xs H Q => ∃ x n, xs = [x] ∧ LenV K x H n ∧ Q (.int n) H) (tCons (tVar 0) tNil)))) (tTest (tOp (fun x y H Q => ∃ (c : Nat) (z : Str), x = .str ⟨#[c]⟩ ∧ y = .str z ∧ Q (.bl (decide (c ∈ z.cps.toList))) H) (tOp (rIx K) (tVar 0) (tVar 5)) (tOp (fun x y H Q => ∃ i j, x = .str i ∧ y = .str j ∧ i.length + j.length ≤ sizeLine ∧ Q (.str (i ++ j)) H) (tOp (fun x y H Q => ∃ i j, x = .str i ∧ y = .str j ∧ i.length + j.length ≤ sizeLine ∧ Q (.str (i ++ j)) H) (tC (.str LET)) (tC (.str DIG))) (tC (.str "_")))))) [some (.str z), some (.int at_), some (.int row), some (.str ⟨(s.take 1).toArray⟩), none, some (.int ((at_ + (word s).length : Nat) : Int)), none] H' false := by
        rcases word_end s with h | ⟨c, hc, hw⟩
        · by_cases e0 : at_ ≤ (tl z).length
          · exact et_is (et_and (b := false) (et_d (K := K) (ed_B0 (g := fun i j => decide (i < j)) (ed_var (i := 5) rfl (.int _)) lenT)) fun h2 => absurd (of_decide_eq_true h2) (by omega)) (Bool.and_false _)
          · exact et_is (et_and (b := false) (et_d (K := K) (ed_B0 (g := fun i j => decide (i < j)) (ed_var (i := 5) rfl (.int _)) lenT)) fun h2 => absurd (of_decide_eq_true h2) (by omega)) (Bool.and_false _)
        · exact et_is (et_and (et_d (K := K) (ed_B0 (g := fun i j => decide (i < j)) (ed_var (i := 5) rfl (.int _)) lenT)) fun _ => inT c hc) (by rw [hw, Bool.and_false])
      refine ⟨false, fals, fun h => Bool.noConfusion h, fun _ H6 e6 => ?_⟩
      have e6 := ex.trans e6
      -- word = text[at:end]
      refine dq_asg (K := K) (d := .str ⟨(word s).toArray⟩) ((ed_slS (ed_var (i := 0) rfl (.str z)) (eo_d (K := K) (ed_var (i := 1) rfl (.int _))) (eo_d (K := K) (ed_var (i := 5) rfl (.int _))) (by omega)).is (by rw [cut_nat z at_ (at_ + (word s).length) (by omega), es, show at_ + (word s).length - at_ = (word s).length by omega, word_take])) fun v6 H7 e7 k7 => ?_
      have e7 := e6.trans e7
      rw [dp_str k7]
      clear k7 v6
      have hww : ∀ {q : Str} {m : List Nat}, q = (⟨m.toArray⟩ : Str) → (q == (⟨(word s).toArray⟩ : Str)) = decide (word s = m) := fun h => str_beqL h
      have tw : ∀ {H' : Hp} {ss : List Str} {b : Bool} {tr : TA}, EvDA K tr [some (.str z), some (.int at_), some (.int row), some (.str ⟨(s.take 1).toArray⟩), none, some (.int ((at_ + (word s).length : Nat) : Int)), some (.str ⟨(word s).toArray⟩)] H' (ss.map PyData.str) → ss.length ≤ 1000 → (ss.any fun y => y == (⟨(word s).toArray⟩ : Str)) = b →
          EvT (tTest (tOp (rIn K false) (tVar 6) (tTup tr))) [some (.str z), some (.int at_), some (.int row), some (.str ⟨(s.take 1).toArray⟩), none, some (.int ((at_ + (word s).length : Nat) : Int)), some (.str ⟨(word s).toArray⟩)] H' b := fun {H' ss b tr} h hl hb =>
        et_d (K := K) ((ed_inStrsT (ss := ss) (ed_var (i := 6) rfl (.str _)) (ed_tup h (by rw [List.length_map]; exact hl))).is (by rw [if_neg (by decide), hb]))
      have t2 : (([("int" : Str), ("void" : Str)] : List Str).any fun y => y == (⟨(word s).toArray⟩ : Str)) = (decide (word s = cs "int") || decide (word s = cs "void")) := by
        rw [List.any_cons, List.any_cons, List.any_nil, Bool.or_false, hww (q := "int") (m := cs "int") (by decide +kernel), hww (q := "void") (m := cs "void") (by decide +kernel)]
      have t3 : (([("null" : Str), ("unset" : Str), ("fresh" : Str)] : List Str).any fun y => y == (⟨(word s).toArray⟩ : Str)) = (decide (word s = cs "null") || (decide (word s = cs "unset") || decide (word s = cs "fresh"))) := by
        rw [List.any_cons, List.any_cons, List.any_cons, List.any_nil, Bool.or_false, hww (q := "null") (m := cs "null") (by decide +kernel), hww (q := "unset") (m := cs "unset") (by decide +kernel), hww (q := "fresh") (m := cs "fresh") (by decide +kernel)]
      have strI : (⟨(cs "int").toArray⟩ : Str) = "int" := by decide +kernel
      have strV : (⟨(cs "void").toArray⟩ : Str) = "void" := by decide +kernel
      by_cases c5 : word s = cs "int" ∨ word s = cs "void"
      · refine dq_ifT (tw (ss := ["int", "void"]) (eda_cons ed_str (eda_cons ed_str eda_nil)) (by show 2 ≤ 1000; omega) (t2.trans (by rcases c5 with h | h <;> simp [h]))) fun H8 e8 => ?_
        obtain ⟨k, hk, hkd⟩ : ∃ k : Kd, wordKd (word s) = some k ∧ k.d = .str ⟨(word s).toArray⟩ := by
          rcases c5 with h | h
          · exact ⟨.int, by rw [h]; exact int_kd, by rw [h, strI]; rfl⟩
          · exact ⟨.void, by rw [h]; exact void_kd, by rw [h, strV]; rfl⟩
        rw [hk] at hg
        cases hg
        refine d_ret (K := K) (ed_tup (eda_cons (ed_var (i := 6) rfl (.str _)) (eda_cons (ed_var (i := 5) rfl (.int _)) eda_nil)) (by show 2 ≤ 1000; omega)) fun v H9 e9 kv => ok _ _ rfl v H9 ((e7.trans e8).trans e9) ?_
        rw [hkd]
        exact kv
      · have c5' : word s ≠ cs "int" ∧ word s ≠ cs "void" := by simpa [not_or] using c5
        refine dq_ifF (tw (ss := ["int", "void"]) (eda_cons ed_str (eda_cons ed_str eda_nil)) (by show 2 ≤ 1000; omega) (t2.trans (by simp [c5'.1, c5'.2]))) fun H8 e8 => ?_
        have e8 := e7.trans e8
        have hck : ∀ {Ek : XK}, EvD K (tCall (SpD K R_is_name) [] Ek (tCons (tVar 6) tNil)) [some (.str z), some (.int at_), some (.int row), some (.str ⟨(s.take 1).toArray⟩), none, some (.int ((at_ + (word s).length : Nat) : Int)), some (.str ⟨(word s).toArray⟩)] H8 (.bool (isName (word s))) := ed_call (eda_cons (ed_var (i := 6) rfl (.str _)) eda_nil) ⟨⟨(word s).toArray⟩, rfl, by show (word s).toArray.size ≤ 1000; rw [List.size_toArray]; omega, rfl⟩
        have tst : ∀ {Ek : XK}, EvT (tOr (tNot (tB (tCall (SpD K R_is_name) [] Ek (tCons (tVar 6) tNil)))) (tTest (tOp (rIn K false) (tVar 6) (tTup (tCons (tC (.str "null")) (tCons (tC (.str "unset")) (tCons (tC (.str "fresh")) tNil))))))) [some (.str z), some (.int at_), some (.int row), some (.str ⟨(s.take 1).toArray⟩), none, some (.int ((at_ + (word s).length : Nat) : Int)), some (.str ⟨(word s).toArray⟩)] H8
            (!isName (word s) || (decide (word s = cs "null") || (decide (word s = cs "unset") || decide (word s = cs "fresh")))) := fun {Ek} =>
          et_or (et_not (et_dB (K := K) (hck (Ek := Ek)))) fun _ => tw (ss := ["null", "unset", "fresh"]) (eda_cons ed_str (eda_cons ed_str (eda_cons ed_str eda_nil))) (by show 3 ≤ 1000; omega) t3
        have hwk : wordKd (word s) = if isName (word s) = false ∨ word s = cs "null" ∨ word s = cs "unset" ∨ word s = cs "fresh" then none else some (.cls ⟨(word s).toArray⟩) := by
          unfold wordKd
          rw [if_neg c5'.1, if_neg c5'.2]
        by_cases c6 : isName (word s) = false ∨ word s = cs "null" ∨ word s = cs "unset" ∨ word s = cs "fresh"
        · rw [hwk, if_pos c6] at hg
          cases hg
          refine dq_ifT (et_is tst (by rcases c6 with h | h | h | h <;> simp [h])) fun H9 e9 => ?_
          exact s_bad (ea_cons (ev_var rfl) (ea_cons ev_c ea_nil)) (bw (e8.trans e9) (bad rfl))
        · rw [hwk, if_neg c6] at hg
          cases hg
          have c6' : isName (word s) = true ∧ word s ≠ cs "null" ∧ word s ≠ cs "unset" ∧ word s ≠ cs "fresh" := by simpa [not_or] using c6
          refine dq_ifF (et_is tst (by simp [c6'])) fun H9 e9 => ?_
          exact d_ret (K := K) (ed_tup (eda_cons (ed_tup (eda_cons ed_str (eda_cons (ed_var (i := 6) rfl (.str _)) eda_nil)) (by show 2 ≤ 1000; omega)) (eda_cons (ed_var (i := 5) rfl (.int _)) eda_nil)) (by show 2 ≤ 1000; omega)) fun v H10 e10 kv => ok _ _ rfl v H10 ((e8.trans e9).trans e10) kv
end
end K01

set_option maxRecDepth 100000
set_option maxHeartbeats 4000000
/-! law_k01: func_at, read_type. -/
namespace K01
open PySem PySem.Spec PyProof.Rows L2 Evl Dat TL
section
variable {P : Program} {w : World} {K : PySem.W.Frag} {mg : Str → Option Value} {base : Heap} {C fI cc oA : Addr} {tL tD : Tok} {F : NdefX.NF} {fdI : FuncData} {f f1 f2 f3 : Addr} {fd fd1 fd2 fd3 : FuncData} {σ : L2.St} {H : Hp} {v : V} {ds : List PyData} {ta tb te : TE} {tr : TA}
theorem q_parL {D : Ends} {tz : TS} {i j : Nat} {xs : List V} (h1 : EvL ta σ H xs) (h2 : Ev tb σ H v) (k : ∀ p H1, H p = none → Ex H H1 → H1 p = some (.lst xs) → tz D ((σ.set i (some (.ref p))).set j (some v)) H1) : tSeq (tPar i j (tCons ta (tCons tb tNil))) tz D σ H :=
  h1 H (Ex.refl H) _ fun p H1 hp e1 h => h2 H1 e1 _ fun H2 e2 => ⟨_, _, rfl, k p H2 hp (e1.trans e2) (e2 _ _ h)⟩
theorem ok_func_at (D_func_at : Def' K mg "func_at" s_func_at ["text", "at", "row"] f fd) (D_type_at : Def' K mg "type_at" s_type_at ["text", "at", "row"] f1 fd1) (T : Txt P K mg C fI cc oA tL tD F fdI) (n : Nat)
    (G_type_at : FnOk P w K mg base (L2.CX P w) (2 * n + 2) f1 fd1 ["text", "at", "row"] (spType K C n)) :
    FnOk P w K mg base (L2.CX P w) (2 * n + 3) f fd ["text", "at", "row"] (spFunc K C n) := by
  refine D_func_at.fn.okX sc_func_at (fun vs H Q E h => ?_) (fun cdv A outer s H vs Q E hr h => ?_)
  · obtain ⟨z, at_, row, res, rfl, _⟩ := h
    rfl
  · obtain ⟨z, at_, row, res, rfl, hz, hk, hn, hg, ok, bad⟩ := h
    refine ⟨_, (pss_cons (ps_par (i := 3) (j := 4) (by first | rfl | assumption) sc_func_at.nd rfl rfl (by decide) rfl rfl (pa_cons (pe_lst pa_nil) (pa_cons (pe_op op_add (pv 1) pe_int) pa_nil)) (by rfl))
    (Evl.pss_cut (ps_if (pt_cmpR op_eq (pe_slice sl_str (pv 0) (po_some (pv 4)) (po_some (pe_op op_add (pv 4) pe_int))) pe_str (nomark _)) (pss_one (ps_aug (i := 4) sc_func_at.nd rfl (by first | exact Or.inl rfl | exact Or.inr rfl) pe_int ip_add)) (pss_one (ps_while (passes_of rfl) (pt_val pe_bl) (pss_cons (ps_asg (pcallX D_type_at G_type_at (hr.mono (by omega)) (fun σ => passAt (takes_of rfl rfl rfl rfl) σ) (pa_cons (pv 0) (pa_cons (pv 4) (pa_cons (pv 2) pa_nil)))) (pg_tup rfl (pgs_cons (pg_name (i := 5) sc_func_at.nd rfl (by first | exact Or.inl rfl | exact Or.inr rfl)) (pgs_cons (pg_name (i := 4) sc_func_at.nd rfl (by first | exact Or.inl rfl | exact Or.inr rfl)) pgs_nil))))
    (pss_cons (ps_if (pt_cmpR (op_eqD (un64 hr)) (pv 5) pe_str (nomark _)) (pss_one (ps_raise rfl (takes_of rfl rfl rfl rfl) (T.mk_TextError hr (pa_cons (pv 2) (pa_cons pe_str pa_nil))))) pss_nil)
    (pss_cons (ps_expr (pe_bm PySem.F.plainAttrs_list PySem.F.slot_list_append PySem.F.type_list_append mt_append (pv 3) (pa_cons (pv 5) pa_nil)))
    (pss_cons (ps_if (pt_cmpR op_eq (pe_slice sl_str (pv 0) (po_some (pv 4)) (po_some (pe_op op_add (pv 4) pe_int))) pe_str (nomark _)) (pss_cons (ps_aug (i := 4) sc_func_at.nd rfl (by first | exact Or.inl rfl | exact Or.inr rfl) pe_int ip_add)
    (pss_one ps_break)) pss_nil)
    (pss_cons (ps_if (pt_cmpR op_ne (pe_slice sl_str (pv 0) (po_some (pv 4)) (po_some (pe_op op_add (pv 4) pe_int))) pe_str (nomark _)) (pss_one (ps_raise rfl (takes_of rfl rfl rfl rfl) (T.mk_TextError hr (pa_cons (pv 2) (pa_cons pe_str pa_nil))))) pss_nil)
    (pss_one (ps_aug (i := 4) sc_func_at.nd rfl (by first | exact Or.inl rfl | exact Or.inr rfl) pe_int ip_add))))))))))
    (pss_cons (ps_asg (pcallX D_type_at G_type_at (hr.mono (by omega)) (fun σ => passAt (takes_of rfl rfl rfl rfl) σ) (pa_cons (pv 0) (pa_cons (pv 4) (pa_cons (pv 2) pa_nil)))) (pg_tup rfl (pgs_cons (pg_name (i := 6) sc_func_at.nd rfl (by first | exact Or.inl rfl | exact Or.inr rfl)) (pgs_cons (pg_name (i := 4) sc_func_at.nd rfl (by first | exact Or.inl rfl | exact Or.inr rfl)) pgs_nil))))
    (pss_one (ps_ret (pe_tup (pa_cons (pe_tup (pa_cons pe_str (pa_cons (pe_callTy call_tuple_of (by rfl) T.z_tuple (by decide +kernel) (pa_cons (pv 3) pa_nil)) (pa_cons (pv 6) pa_nil)))) (pa_cons (pv 4) pa_nil)))))))), ?_⟩
    have hs : okS ((tl z).drop at_) := okS_drop hk at_
    have stail : ∀ m, (tl z).drop (at_ + m) = ((tl z).drop at_).drop m := fun m => by rw [List.drop_drop]
    generalize es : (tl z).drop at_ = s at hg hs stail
    have lenz : z.length = (tl z).length := len_tl z
    have hsh : ∀ {k : Kd} {c m : Nat}, typeAt n (s.drop m) = some (some (k, c)) → SeqAt.shaped k.d = true := fun h => lay_shaped (lay_typeAt n _ _ _ (okS_drop hs _) h) (by omega)
    have sl : s.length ≤ 1000 := by rw [← es, List.length_drop]; omega
    simp only at hg
    by_cases c40 : s.take 1 = [40]
    case neg => rw [if_neg c40] at hg; cases hg
    rw [if_pos c40] at hg
    unfold funcAt at hg
    -- params, end = [], at + 1
    refine q_parL (el_lst ea_nil (Nat.zero_le _)) (ev_edI (K := K) (i := (at_ : Int) + 1) (ed_I0 (g := fun i j => i + j) (i := at_) (j := 1) (ed_var (i := 1) rfl (.int _)) ed_int)) fun p H2 hp0 ex2 hp2 => ?_
    have ea1 : ((at_ : Int) + 1) = ((at_ + 1 : Nat) : Int) := by omega
    rw [ea1]
    have sgq : ∀ {o c : Nat} {q : Str} {H' : Hp} {x : V} {o5 : Option V}, q = ⟨#[o]⟩ → EvD K (tSl rSlS (tVar 0) (tPart (tVar 4)) (tPart (tOp (rI0 fun i j => .int (i + j)) (tVar 4) (tC (.int 1))))) [some (.str z), some (.int at_), some (.int row), some x, some (.int ((at_ + c : Nat) : Int)), o5, none] H' (.str ⟨((s.drop c).take 1).toArray⟩) := fun {o c q H' x o5} hq =>
      (ed_one (a := at_ + c) (ed_var rfl (.str z)) hz (ed_var rfl (.int _))).is (by rw [stail])
    refine q_cut (M := fun σ' H' => ∃ (c : Nat) (ps : List Kd) (xs : List V) (o5 : Option V), σ' = [some (.str z), some (.int at_), some (.int row), some (.ref p), some (.int ((at_ + c : Nat) : Int)), o5, none] ∧ Ex H H' ∧ H' p = some (.lst xs) ∧ DpAll K H' xs (Kd.dAll ps) ∧ ps.length ≤ 1000 ∧
      (match typeAt n (s.drop c) with | none => none | some none => some none | some (some (r, n)) => some (some (Kd.fn ps r, c + n))) = some res) ?_ ?_
    · by_cases c1 : (s.drop 1).take 1 = [41]
      · rw [if_pos c1] at hg
        refine s_if (b := true) (et_d (K := K) ((ed_eqS (sgq (o := 41) (c := 1) (q := ")") (by decide +kernel)) ed_str).is (by rw [str_eqL (m := [41]) (by decide +kernel), decide_eq_true c1]))) (fun _ H3 e3 => ?_) (fun h => Bool.noConfusion h)
        refine s_aug (i := 4) rfl ev_c fun H4 e4 => ⟨2, [], [], none, ?_, (ex2.trans e3).trans e4, e4 _ _ (e3 _ _ hp2), .nil, Nat.zero_le _, hg⟩
        show [some (V.str z), some (.int at_), some (.int row), some (.ref p), some (.int (((at_ + 1 : Nat) : Int) + 1)), none, none] = _
        rw [show (((at_ + 1 : Nat) : Int) + 1) = ((at_ + 2 : Nat) : Int) by omega]
      · rw [if_neg c1] at hg
        refine s_if (b := false) (et_d (K := K) ((ed_eqS (sgq (o := 41) (c := 1) (q := ")") (by decide +kernel)) ed_str).is (by rw [str_eqL (m := [41]) (by decide +kernel), decide_eq_false c1]))) (fun h => Bool.noConfusion h) (fun _ H3 e3 => ?_)
        have ex3 := ex2.trans e3
        cases hp' : pars (typeAt n) s.length (s.drop 1) 1 [] with
        | none => rw [hp'] at hg; cases hg
        | some rp =>
          rw [hp'] at hg
          refine s_while (fun m σ' H' => ∃ (c : Nat) (acc : List Kd) (xs : List V) (o5 : Option V), σ' = [some (.str z), some (.int at_), some (.int row), some (.ref p), some (.int ((at_ + c : Nat) : Int)), o5, none] ∧ Ex H H' ∧ H' p = some (.lst xs) ∧ DpAll K H' xs (Kd.dAll acc) ∧ acc.length + m = s.length ∧ pars (typeAt n) m (s.drop c) c acc = some rp) s.length
            ⟨1, [], [], none, rfl, ex3, e3 _ _ hp2, .nil, Nat.zero_add _, hp'⟩ ?_
          rintro m σ' H' ⟨c, acc, xs, o5, rfl, ex, hpx, ks, hl, hpar⟩
          refine ⟨true, et_B ev_c, fun _ H4 e4 => ?_, fun h => Bool.noConfusion h⟩
          have ex4 := ex.trans e4
          cases m with
          | zero => unfold pars at hpar; cases hpar
          | succ m =>
            unfold pars at hpar
            refine ⟨fun σ2 H2 => ∃ m', m' < m + 1 ∧ ∃ (c : Nat) (acc : List Kd) (xs : List V) (o5 : Option V), σ2 = [some (.str z), some (.int at_), some (.int row), some (.ref p), some (.int ((at_ + c : Nat) : Int)), o5, none] ∧ Ex H H2 ∧ H2 p = some (.lst xs) ∧ DpAll K H2 xs (Kd.dAll acc) ∧ acc.length + m' = s.length ∧ pars (typeAt n) m' (s.drop c) c acc = some rp, fun σ2 H2 h => h, ?_⟩
            cases hr1 : typeAt n (s.drop c) with
            | none => rw [hr1] at hpar; cases hpar
            | some r1 =>
              rw [hr1] at hpar
              refine q_read2 (at_ := at_ + c) (res := r1) (ea_cons (ev_var rfl) (ea_cons (ev_var rfl) (ea_cons (ev_var rfl) ea_nil))) hz hk (by omega) (by rw [stail]; exact hr1) (fun k c' e x H5 e5 kx => ?_) (fun e => ?_)
              · subst e
                have ex5 := ex4.trans e5
                have hpx5 : H5 p = some (.lst xs) := e5 _ _ (e4 _ _ hpx)
                simp only at hpar
                have tv := kd_eq (K := K) (σ := [some (.str z), some (.int at_), some (.int row), some (.ref p), some (.int ((at_ + c + c' : Nat) : Int)), some x, none]) (b := .void) (ed_var (i := 5) rfl kx) ed_str (hsh hr1) void_sh
                by_cases cv : k = .void
                · rw [if_pos cv] at hpar
                  cases hpar
                  cases hg
                  refine dq_ifT (et_is tv (by simp [cv])) fun H6 e6 => ?_
                  exact s_bad (ea_cons (ev_var rfl) (ea_cons ev_c ea_nil)) ((bad rfl).mono (ex5.trans e6))
                · rw [if_neg cv] at hpar
                  refine dq_ifF (et_is tv (by simp [cv])) fun H6 e6 => ?_
                  have ex6 := ex5.trans e6
                  have hpx6 := e6 _ _ hpx5
                  have xl : xs.length = acc.length := by rw [dpa_len ks, dAll_map, List.length_map]
                  -- params.append(inner)
                  refine q_app (K := K) (l := p) hpx6 (ev_var (i := 3) rfl) (ev_var (i := 5) rfl) (by omega) fun H7 e7 => ?_
                  have ex7 := ex6.trans e7
                  have exU : Ex H (upd H7 p (.lst (xs ++ [x]))) := Ex.mut ex7 hp0
                  have off : OffT (H7 p) := by rw [e7 _ _ hpx6]; exact offT_lst
                  have btU : Bt p H7 (upd H7 p (.lst (xs ++ [x]))) := fun b o nb hb => by rw [upd_ne nb]; exact hb
                  have ksU : DpAll K (upd H7 p (.lst (xs ++ [x]))) (xs ++ [x]) (Kd.dAll (acc ++ [k])) := by
                    rw [dAll_map, List.map_append, ← dAll_map]
                    exact dpa_append (dpa_btT off btU (noLs_kd acc) (dpa_ex (((e4.trans e5).trans e6).trans e7) ks)) (.cons (dp_btT off btU (noL_kd k) (dp_ex (e6.trans e7) kx)) .nil)
                  have hpU : upd H7 p (.lst (xs ++ [x])) p = some (.lst (xs ++ [x])) := upd_same
                  generalize upd H7 p (.lst (xs ++ [x])) = HU at exU ksU hpU
                  have sq2 : ∀ {o : Nat} {q : Str} {H' : Hp} {b : Bool}, q = ⟨#[o]⟩ → decide (((s.drop c).drop c').take 1 = [o]) = b → EvD K (tOp rEq (tSl rSlS (tVar 0) (tPart (tVar 4)) (tPart (tOp (rI0 fun i j => .int (i + j)) (tVar 4) (tC (.int 1))))) (tC (.str q))) [some (.str z), some (.int at_), some (.int row), some (.ref p), some (.int ((at_ + c + c' : Nat) : Int)), some x, none] H' (.bool b) := fun {o q H' b} hq hb =>
                    (ed_eqS (ed_one (a := at_ + c + c') (ed_var rfl (.str z)) hz (ed_var rfl (.int _))) ed_str).is (by rw [Nat.add_assoc, stail, ← List.drop_drop, str_eqL (m := [o]) hq, hb])
                  have sn2 : ∀ {o : Nat} {q : Str} {H' : Hp} {b : Bool}, q = ⟨#[o]⟩ → decide (((s.drop c).drop c').take 1 = [o]) = b → EvD K (tOp rNe (tSl rSlS (tVar 0) (tPart (tVar 4)) (tPart (tOp (rI0 fun i j => .int (i + j)) (tVar 4) (tC (.int 1))))) (tC (.str q))) [some (.str z), some (.int at_), some (.int row), some (.ref p), some (.int ((at_ + c + c' : Nat) : Int)), some x, none] H' (.bool (!b)) := fun {o q H' b} hq hb =>
                    (ed_neS (ed_one (a := at_ + c + c') (ed_var rfl (.str z)) hz (ed_var rfl (.int _))) ed_str).is (by rw [Nat.add_assoc, stail, ← List.drop_drop, str_eqL (m := [o]) hq, hb])
                  by_cases c2 : ((s.drop c).drop c').take 1 = [41]
                  · rw [if_pos c2] at hpar
                    cases hpar
                    refine dq_ifT (et_d (K := K) (sq2 (o := 41) (q := ")") (by decide +kernel) (decide_eq_true c2))) fun H8 e8 => ?_
                    refine q_aug (i := 4) rfl ev_c fun H9 e9 => ?_
                    refine ⟨c + c' + 1, _, xs ++ [x], some x, ?_, (exU.trans e8).trans e9, e9 _ _ (e8 _ _ hpU), dpa_ex (e8.trans e9) ksU, by rw [List.length_append]; show acc.length + 1 ≤ 1000; omega, hg⟩
                    show [some (V.str z), some (.int at_), some (.int row), some (.ref p), some (.int (((at_ + c + c' : Nat) : Int) + 1)), some x, none] = _
                    rw [show (((at_ + c + c' : Nat) : Int) + 1) = ((at_ + (c + c' + 1) : Nat) : Int) by omega]
                  · rw [if_neg c2] at hpar
                    refine dq_ifF (et_d (K := K) (sq2 (o := 41) (q := ")") (by decide +kernel) (decide_eq_false c2))) fun H8 e8 => ?_
                    by_cases c3 : ((s.drop c).drop c').take 1 = [44]
                    · rw [if_neg (by simpa using c3)] at hpar
                      refine dq_ifF (et_d (K := K) (sn2 (o := 44) (q := ",") (by decide +kernel) (decide_eq_true c3))) fun H9 e9 => ?_
                      refine s_aug (i := 4) rfl ev_c fun H10 e10 => ⟨m, Nat.lt_succ_self m, c + c' + 1, acc ++ [k], xs ++ [x], some x, ?_, ((exU.trans e8).trans e9).trans e10, e10 _ _ (e9 _ _ (e8 _ _ hpU)), dpa_ex ((e8.trans e9).trans e10) ksU, by rw [List.length_append]; show acc.length + 1 + m = s.length; omega, ?_⟩
                      · show [some (V.str z), some (.int at_), some (.int row), some (.ref p), some (.int (((at_ + c + c' : Nat) : Int) + 1)), some x, none] = _
                        rw [show (((at_ + c + c' : Nat) : Int) + 1) = ((at_ + (c + c' + 1) : Nat) : Int) by omega]
                      · rw [List.drop_drop] at hpar
                        exact hpar
                    · rw [if_pos c3] at hpar
                      cases hpar
                      cases hg
                      refine dq_ifT (et_d (K := K) (sn2 (o := 44) (q := ",") (by decide +kernel) (decide_eq_false c3))) fun H9 e9 => ?_
                      exact s_bad (ea_cons (ev_var rfl) (ea_cons ev_c ea_nil)) ((bad rfl).mono ((exU.trans e8).trans e9))
              · subst e
                simp only at hpar
                cases hpar
                cases hg
                exact (bad rfl).mono ex4
    · rintro σ' H' ⟨c, ps, xs, o5, rfl, ex, hpx, ks, hl, hm⟩
      cases hr1 : typeAt n (s.drop c) with
      | none => rw [hr1] at hm; cases hm
      | some r1 =>
        rw [hr1] at hm
        refine q_read2 (at_ := at_ + c) (res := r1) (ea_cons (ev_var rfl) (ea_cons (ev_var rfl) (ea_cons (ev_var rfl) ea_nil))) hz hk (by omega) (by rw [stail]; exact hr1) (fun k c' e x H5 e5 kx => ?_) (fun e => ?_)
        · subst e
          cases hm
          have hpx5 := e5 _ _ hpx
          have ks5 := dpa_ex e5 ks
          refine d_ret (K := K) (ed_tup (eda_cons (ed_tup (eda_cons ed_str (eda_cons (ed_tupOf (ed_var (i := 3) rfl (dp_newL hpx5 ks5))) (eda_cons (ed_var (i := 6) rfl kx) eda_nil))) (by show 3 ≤ 1000; omega)) (eda_cons (ed_var (i := 4) rfl (.int _)) eda_nil)) (by show 2 ≤ 1000; omega)) fun v H6 e6 kv => ok _ _ rfl v H6 ((ex.trans e5).trans e6) ?_
          rw [← Nat.add_assoc]
          exact kv
        · subst e
          cases hm
          exact (bad rfl).mono ex
end
end K01

set_option maxRecDepth 100000
set_option maxHeartbeats 4000000
/-! law_k01: read_type. -/
namespace K01
open PySem PySem.Spec PyProof.Rows L2 Evl Dat TL
section
variable {P : Program} {w : World} {K : PySem.W.Frag} {mg : Str → Option Value} {base : Heap} {C fI cc oA : Addr} {tL tD : Tok} {F : NdefX.NF} {fdI : FuncData} {f f1 f2 f3 : Addr} {fd fd1 fd2 fd3 : FuncData} {σ : L2.St} {H : Hp} {v : V} {ds : List PyData} {ta tb te : TE} {tr : TA}
theorem ok_types (D_type_at : Def' K mg "type_at" s_type_at ["text", "at", "row"] f fd) (D_func_at : Def' K mg "func_at" s_func_at ["text", "at", "row"] f1 fd1) (D_is_name : Def' K mg "is_name" s_is_name ["word"] f2 fd2) (T : Txt P K mg C fI cc oA tL tD F fdI) :
    ∀ n, FnOk P w K mg base (L2.CX P w) (2 * n + 2) f fd ["text", "at", "row"] (spType K C n) ∧ FnOk P w K mg base (L2.CX P w) (2 * n + 3) f1 fd1 ["text", "at", "row"] (spFunc K C n)
  | 0 => ⟨fn0 fun vs H Q E h => (by
      obtain ⟨z, at_, row, res, _, _, _, _, hg, _⟩ := h
      cases hg), fn0 fun vs H Q E h => (by
      obtain ⟨z, at_, row, res, _, _, _, _, hg, _⟩ := h
      generalize (tl z).drop at_ = s at hg
      simp only at hg
      by_cases c : s.take 1 = [40]
      · rw [if_pos c] at hg
        unfold funcAt at hg
        have e0 : ∀ c, typeAt 0 (s.drop c) = none := fun _ => rfl
        by_cases c1 : (s.drop 1).take 1 = [41]
        · rw [if_pos c1] at hg
          simp only [e0] at hg
          cases hg
        · rw [if_neg c1] at hg
          have e1 : pars (typeAt 0) s.length (s.drop 1) 1 [] = none := by
            cases s.length with
            | zero => rfl
            | succ m => rfl
          rw [e1] at hg
          cases hg
      · rw [if_neg c] at hg
        cases hg)⟩
  | n + 1 => by
    obtain ⟨h1, h2⟩ := ok_types D_type_at D_func_at D_is_name T n
    have h3 := ok_type_at D_type_at D_func_at T D_is_name n h1 h2
    exact ⟨h3, ok_func_at D_func_at D_type_at T (n + 1) h3⟩
def spReadT (K : PySem.W.Frag) (C : Addr) (n : Nat) : Sp := fun vs H Q E => ∃ (z : Str) (row : Int) (res : Option Kd), vs = [.str z, .int row] ∧ z.length ≤ 1000 ∧ okS (tl z) ∧ n ≤ 20 ∧ readType n (tl z) = some res ∧
  (∀ k, res = some k → ∀ v H', Ex H H' → Dp K H' v k.d → Q v H') ∧ (res = none → Bad C row H E)
theorem ok_read_type (D_read_type : Def' K mg "read_type" s_read_type ["text", "row"] f fd) (D_type_at : Def' K mg "type_at" s_type_at ["text", "at", "row"] f1 fd1) (T : Txt P K mg C fI cc oA tL tD F fdI) (n : Nat)
    (G_type_at : FnOk P w K mg base (L2.CX P w) (2 * n + 2) f1 fd1 ["text", "at", "row"] (spType K C n)) :
    FnOk P w K mg base (L2.CX P w) (2 * n + 3) f fd ["text", "row"] (spReadT K C n) := by
  refine D_read_type.fn.okX sc_read_type (fun vs H Q E h => ?_) (fun cdv A outer s H vs Q E hr h => ?_)
  · obtain ⟨z, row, res, rfl, _⟩ := h
    rfl
  · obtain ⟨z, row, res, rfl, hz, hk, hn, hg, ok, bad⟩ := h
    refine ⟨_, (pss_cons (ps_asg (pcallX D_type_at G_type_at (hr.mono (by omega)) (fun σ => passAt (takes_of rfl rfl rfl rfl) σ) (pa_cons (pv 0) (pa_cons pe_int (pa_cons (pv 1) pa_nil)))) (pg_tup rfl (pgs_cons (pg_name (i := 2) sc_read_type.nd rfl (by first | exact Or.inl rfl | exact Or.inr rfl)) (pgs_cons (pg_name (i := 3) sc_read_type.nd rfl (by first | exact Or.inl rfl | exact Or.inr rfl)) pgs_nil))))
    (pss_cons (ps_if ((pw_or (pt_cmpR op_lt (pv 3) (pe_callB call_len (by rfl) T.z_len PySem.boot_len (pa_cons (pv 0) pa_nil)) (nomark _)) (pw_or1 (pt_cmpR (op_eqD (un64 hr)) (pv 2) pe_str (nomark _))))).pt (pss_one (ps_raise rfl (takes_of rfl rfl rfl rfl) (T.mk_TextError hr (pa_cons (pv 1) (pa_cons pe_str pa_nil))))) pss_nil)
    (pss_one (ps_ret (pv 2))))), ?_⟩
    unfold readType at hg
    have lenz : z.length = (tl z).length := len_tl z
    cases hr1 : typeAt n (tl z) with
    | none => rw [hr1] at hg; cases hg
    | some r1 =>
      rw [hr1] at hg
      refine q_read2 (at_ := 0) (res := r1) (ea_cons (ev_var rfl) (ea_cons ev_c (ea_cons (ev_var rfl) ea_nil))) hz hk (by omega) (by rw [List.drop_zero]; exact hr1) (fun k c e x H1 e1 kx => ?_) (fun e => ?_)
      · subst e
        simp only at hg
        rw [Nat.zero_add]
        have shk : SeqAt.shaped k.d = true := lay_shaped (lay_typeAt n _ _ _ hk hr1) (by omega)
        have tst : EvT (tOr (tTest (tOp (rI0 fun i j => .bl (decide (i < j))) (tVar 3) (tCB (fun xs H Q => ∃ x n, xs = [x] ∧ LenV K x H n ∧ Q (.int n) H) (tCons (tVar 0) tNil)))) (tTest (tOp (rEqD K) (tVar 2) (tC (.str "void")))))
            [some (.str z), some (.int row), some x, some (.int (c : Int))] H1 (decide (c < (tl z).length) || decide (k = .void)) :=
          et_or (et_d (K := K) ((ed_B0 (g := fun i j => decide (i < j)) (ed_var (i := 3) rfl (.int _)) (ed_lenS (ed_var rfl (.str z)) (by omega))).is (by rw [lenz]; congr 1; exact decide_eq_decide.mpr (by omega)))) fun _ => kd_eq (K := K) (b := .void) (ed_var (i := 2) rfl kx) ed_str shk void_sh
        by_cases c1 : c < (tl z).length ∨ k = .void
        · rw [if_pos c1] at hg
          cases hg
          refine dq_ifT (et_is tst (by rcases c1 with h | h
                                       · rw [decide_eq_true h, Bool.true_or]
                                       · rw [decide_eq_true h, Bool.or_true])) fun H2 e2 => ?_
          exact s_bad (ea_cons (ev_var rfl) (ea_cons ev_c ea_nil)) ((bad rfl).mono (e1.trans e2))
        · rw [if_neg c1] at hg
          cases hg
          refine dq_ifF (et_is tst (by have : ¬ c < (tl z).length ∧ k ≠ .void := by simpa [not_or] using c1
                                       rw [decide_eq_false this.1, decide_eq_false this.2]; rfl)) fun H2 e2 => ?_
          exact d_ret (K := K) (ed_var (i := 2) rfl (dp_ex e2 kx)) fun v H3 e3 kv => ok _ rfl v H3 ((e1.trans e2).trans e3) kv
      · subst e
        simp only at hg
        cases hg
        exact bad rfl
end
end K01

set_option maxRecDepth 100000
set_option maxHeartbeats 4000000
/-! law_k01: the tape. -/
namespace K01
open PySem PySem.Spec PyProof.Rows L2 Evl Dat TL
def kC : Key := .inr "cells"
def kA : Key := .inr "at"
def kL : Key := .inr "left"
def kS : Key := .inr "seed"
def kX : Key := .inr "salt"
def TapeK (c : Addr) (i : Nat) (l s x : Int) : List (Key × V) := [(kC, .ref c), (kA, .int i), (kL, .int l), (kS, .int s), (kX, .int x)]
section
variable {c : Addr} {i : Nat} {l s x y : Int}
theorem nCA : ¬ kC = kA := by decide +kernel
theorem nCL : ¬ kC = kL := by decide +kernel
theorem nCS : ¬ kC = kS := by decide +kernel
theorem nCX : ¬ kC = kX := by decide +kernel
theorem nAL : ¬ kA = kL := by decide +kernel
theorem nAS : ¬ kA = kS := by decide +kernel
theorem nAX : ¬ kA = kX := by decide +kernel
theorem nLS : ¬ kL = kS := by decide +kernel
theorem nLX : ¬ kL = kX := by decide +kernel
theorem nSX : ¬ kS = kX := by decide +kernel
theorem vC : valV (TapeK c i l s x) kC = some (.ref c) := valV_pos rfl
theorem vA : valV (TapeK c i l s x) kA = some (.int i) := (valV_neg nCA).trans (valV_pos rfl)
theorem vL : valV (TapeK c i l s x) kL = some (.int l) := (valV_neg nCL).trans ((valV_neg nAL).trans (valV_pos rfl))
theorem vS : valV (TapeK c i l s x) kS = some (.int s) := (valV_neg nCS).trans ((valV_neg nAS).trans ((valV_neg nLS).trans (valV_pos rfl)))
theorem vX : valV (TapeK c i l s x) kX = some (.int x) := (valV_neg nCX).trans ((valV_neg nAX).trans ((valV_neg nLX).trans ((valV_neg nSX).trans (valV_pos rfl))))
theorem pL : putK (TapeK c i l s x) kL (.int y) = TapeK c i y s x := by
  simp [putK, TapeK, nCL, nAL, Ne.symm nLS, Ne.symm nLX]
theorem pA {j : Nat} : putK (TapeK c i l s x) kA (.int j) = TapeK c j l s x := by
  simp [putK, TapeK, nCA, Ne.symm nAL, Ne.symm nAS, Ne.symm nAX]
theorem pX : putK (TapeK c i l s x) kX (.int y) = TapeK c i l s y := by
  simp [putK, TapeK, nCX, nAX, nLX, nSX]
end
/-- a tape stands at t -/
structure Tp (K : PySem.W.Frag) (H : Hp) (t c : Addr) (cs : List Int) (i : Nat) (l s x : Int) : Prop where
  d : H t = some (.dK (TapeK c i l s x))
  c : SqL K H c (cs.map V.int)
  l0 : 0 ≤ l
  cs0 : ∀ z ∈ cs, 0 ≤ z
def TapeAt (K : PySem.W.Frag) (H : Hp) (t c : Addr) (cs : List Int) : Prop := ∃ i l s x, Tp K H t c cs i l s x
section
variable {P : Program} {w : World} {K : PySem.W.Frag} {mg : Str → Option Value} {base : Heap} {C fI cc oA : Addr} {tL tD : Tok} {F : NdefX.NF} {fdI : FuncData} {f f1 f2 f3 : Addr} {fd fd1 fd2 fd3 : FuncData} {σ : L2.St} {H H' : Hp} {v : V} {d : PyData} {ds : List PyData} {ta tb te td ty tv : TE} {tr : TA} {t c : Addr} {cs : List Int} {i : Nat} {l s x : Int}
theorem Tp.ex (T : Tp K H t c cs i l s x) (e : Ex H H') : Tp K H' t c cs i l s x := ⟨e _ _ T.d, ex_l e T.c, T.l0, T.cs0⟩
theorem TapeAt.ex (h : TapeAt K H t c cs) (e : Ex H H') : TapeAt K H' t c cs := let ⟨i, l, s, x, T⟩ := h; ⟨i, l, s, x, T.ex e⟩
theorem Tp.put {i' : Nat} {l' s' x' : Int} (T : Tp K H t c cs i l s x) (h : 0 ≤ l') : Tp K (upd H t (.dK (TapeK c i' l' s' x'))) t c cs i' l' s' x' ∧ Bt t H (upd H t (.dK (TapeK c i' l' s' x'))) := by
  have b : Bt t H (upd H t (.dK (TapeK c i' l' s' x'))) := fun b o nb hb => by rw [upd_ne nb]; exact hb
  exact ⟨⟨upd_same, bt_l (by rw [T.d]; exact True.intro) b T.c, h, T.cs0⟩, b⟩
theorem ed_I {Cn : Int → Int → Prop} {g : Int → Int → Int} {i j : Int} (ha : EvD K ta σ H (.int i)) (hb : EvD K tb σ H (.int j)) (hc : Cn i j) : EvD K (tOp (rI Cn fun i j => .int (g i j)) ta tb) σ H (.int (g i j)) := ed_op2 ha hb fun H1 x y _ kx ky Q q => by
  rw [dp_int kx, dp_int ky]
  exact ⟨i, j, rfl, rfl, hc, q _ H1 (Ex.refl _) (.int _)⟩
theorem ed_intOf {i : Int} (h : EvD K te σ H (.int i)) : EvD K (tCB (fun xs H Q => (∃ i, xs = [.int i] ∧ Q (.int i) H) ∨ ∃ k, xs = [.bl k] ∧ Q (.int (if k then 1 else 0)) H) (tCons te tNil)) σ H (.int i) := ed_cb (eda_cons h eda_nil) fun H1 vs _ ks Q q => by
  obtain ⟨v, rfl, kv⟩ := dpa1 ks
  rw [dp_int kv]
  exact .inl ⟨i, rfl, q _ H1 (Ex.refl _) (.int _)⟩
theorem ed_absOf {i : Int} (h : EvD K te σ H (.int i)) : EvD K (tCB (fun xs H Q => ∃ i, xs = [.int i] ∧ Q (.int (if i < 0 then -i else i)) H) (tCons te tNil)) σ H (.int (if i < 0 then -i else i)) := ed_cb (eda_cons h eda_nil) fun H1 vs _ ks Q q => by
  obtain ⟨v, rfl, kv⟩ := dpa1 ks
  rw [dp_int kv]
  exact ⟨i, rfl, q _ H1 (Ex.refl _) (.int _)⟩
/-- tape[key] -/
theorem ev_tp {k : Str} (h : Ev td σ H (.ref t)) (T : Tp K H t c cs i l s x) (hv : valV (TapeK c i l s x) (.inr k) = some v) : Ev (tDGet td (tC (.str k))) σ H v := ev_dgetA h (.inl T.d) (ev_c (v := kV (.inr k))) hv
theorem ed_tp {k : Str} (h : Ev td σ H (.ref t)) (T : Tp K H t c cs i l s x) (hv : valV (TapeK c i l s x) (.inr k) = some v) (kd : Dp K H v d) : EvD K (tDGet td (tC (.str k))) σ H d := ed_ev (ev_tp h T hv) kd
/-- tape[key] = value -/
theorem s_tput {D : Ends} {k : Str} {kvs : List (Key × V)} (hv : Ev tv σ H v) (h : Ev td σ H (.ref t)) (T : Tp K H t c cs i l s x) (hp : putK (TapeK c i l s x) (.inr k) v = kvs) (q : ∀ H1, Ex H H1 → D.nx σ (upd H1 t (.dK kvs))) : sDPut td (tC (.str k)) tv D σ H :=
  hv H (Ex.refl H) _ fun H1 e1 => h H1 e1 _ fun H2 e2 => ⟨t, _, rfl, hp ▸ .k (k := .inr k) ((e1.trans e2) _ _ T.d) (by show 5 < sizeLine; rw [sizeLine_eq]; omega), q H2 (e1.trans e2)⟩
theorem q_tput {D : Ends} {tz : TS} {k : Str} {kvs : List (Key × V)} (hv : Ev tv σ H v) (h : Ev td σ H (.ref t)) (T : Tp K H t c cs i l s x) (hp : putK (TapeK c i l s x) (.inr k) v = kvs) (q : ∀ H1, Ex H H1 → tz D σ (upd H1 t (.dK kvs))) : tSeq (sDPut td (tC (.str k)) tv) tz D σ H :=
  s_tput (D := { D with nx := tz D }) hv h T hp q
theorem dpa_ints : ∀ {ns : List Int}, DpAll K H (ns.map V.int) (ns.map PyData.int)
  | [] => .nil
  | i :: r => .cons (.int i) (dpa_ints (ns := r))
theorem Tp.cd (T : Tp K H t c cs i l s x) : Dp K H (.ref c) (.list (cs.map PyData.int)) := .lst T.c dpa_ints
def spTake (K : PySem.W.Frag) : Sp := fun vs H Q _ => ∃ (t : Addr) (m : Int) (c : Addr) (cs : List Int), vs = [.ref t, .int m] ∧ TapeAt K H t c cs ∧ 0 < m ∧ m < 1000 ∧ ∀ (d : Nat) H', (d : Int) < m → TapeAt K H' t c cs → Bt t H H' → Q (.int d) H'
theorem ok__law_take (D__law_take : Def' K mg "_law_take" s__law_take ["tape", "many"] f fd) (T : Txt P K mg C fI cc oA tL tD F fdI) : FnOk P w K mg base CX0 1 f fd ["tape", "many"] (spTake K) := by
  refine D__law_take.fn.ok sc__law_take (fun vs H Q E h => ?_) (fun cdv A outer s H vs Q E hr h => ?_)
  · obtain ⟨t, m, c, cs, rfl, _⟩ := h
    rfl
  · obtain ⟨t, m, c, cs, rfl, ⟨i, l, sd, x, Tt⟩, m0, m1, q⟩ := h
    refine ⟨_, (Evl.pss_cut (ps_if ((pw_and (pt_cmpR op_eq (pe_dget (hu_of hr) (pv 0) pe_str (fun _ _ => rfl)) pe_int (nomark _)) (pw_and1 (pt_cmpR op_lt (pe_dget (hu_of hr) (pv 0) pe_str (fun _ _ => rfl)) (pe_callB call_len (by rfl) T.z_len PySem.boot_len (pa_cons (pe_dget (hu_of hr) (pv 0) pe_str (fun _ _ => rfl)) pa_nil)) (nomark _))))).pt (pss_cons (ps_dput (hu_of hr) (pv 0) pe_str (pe_ix ix_seq (pe_dget (hu_of hr) (pv 0) pe_str (fun _ _ => rfl)) (pe_dget (hu_of hr) (pv 0) pe_str (fun _ _ => rfl)) (fun _ _ => rfl)) rfl)
    (pss_one (ps_dput (hu_of hr) (pv 0) pe_str (pe_op op_add (pe_dget (hu_of hr) (pv 0) pe_str (fun _ _ => rfl)) pe_int) rfl))) pss_nil)
    (pss_cons (ps_if (pt_cmpR op_gt (pe_dget (hu_of hr) (pv 0) pe_str (fun _ _ => rfl)) pe_int (nomark _)) (pss_cons (ps_set (i := 2) sc__law_take.nd rfl (by first | exact Or.inl rfl | exact Or.inr rfl) (pe_op op_mod (pe_callTy call_int1 (by rfl) T.z_int (by decide +kernel) (pa_cons (pe_dget (hu_of hr) (pv 0) pe_str (fun _ _ => rfl)) pa_nil)) (pv 1)))
    (pss_cons (ps_dput (hu_of hr) (pv 0) pe_str (pe_op op_fdiv (pe_dget (hu_of hr) (pv 0) pe_str (fun _ _ => rfl)) (pv 1)) rfl)
    (pss_one (ps_ret (pv 2))))) pss_nil)
    (pss_cons (ps_dput (hu_of hr) (pv 0) pe_str (pe_op op_add (pe_dget (hu_of hr) (pv 0) pe_str (fun _ _ => rfl)) pe_int) rfl)
    (pss_cons (ps_set (i := 3) sc__law_take.nd rfl (by first | exact Or.inl rfl | exact Or.inr rfl) (pe_op op_mod (pe_callTy call_int1 (by rfl) T.z_int (by decide +kernel) (pa_cons (pe_op op_add (pe_op op_mul (pe_dget (hu_of hr) (pv 0) pe_str (fun _ _ => rfl)) pe_int) (pe_op op_mul (pe_dget (hu_of hr) (pv 0) pe_str (fun _ _ => rfl)) pe_int)) pa_nil)) pe_int))
    (pss_cons (ps_set (i := 3) sc__law_take.nd rfl (by first | exact Or.inl rfl | exact Or.inr rfl) (pe_op op_mod (pe_callTy call_int1 (by rfl) T.z_int (by decide +kernel) (pa_cons (pe_op op_add (pe_op op_add (pe_op op_mul (pv 3) (pv 3)) (pe_op op_mul (pe_dget (hu_of hr) (pv 0) pe_str (fun _ _ => rfl)) pe_int)) pe_int) pa_nil)) pe_int))
    (pss_one (ps_ret (pe_op op_mod (pe_callTy call_int1 (by rfl) T.z_int (by decide +kernel) (pa_cons (pv 3) pa_nil)) (pv 1))))))))), ?_⟩
    have gL : ∀ {H' : Hp} {c cs i l sd x} {a b : Option V}, Tp K H' t c cs i l sd x → EvD K (tDGet (tVar 0) (tC (.str "left"))) [some (.ref t), some (.int m), a, b] H' (.int l) := fun T => ed_tp (ev_var rfl) T vL (.int _)
    have gA : ∀ {H' : Hp} {c cs i l sd x} {a b : Option V}, Tp K H' t c cs i l sd x → EvD K (tDGet (tVar 0) (tC (.str "at"))) [some (.ref t), some (.int m), a, b] H' (.int i) := fun T => ed_tp (ev_var rfl) T vA (.int _)
    have gS : ∀ {H' : Hp} {c cs i l sd x} {a b : Option V}, Tp K H' t c cs i l sd x → EvD K (tDGet (tVar 0) (tC (.str "seed"))) [some (.ref t), some (.int m), a, b] H' (.int sd) := fun T => ed_tp (ev_var rfl) T vS (.int _)
    have gX : ∀ {H' : Hp} {c cs i l sd x} {a b : Option V}, Tp K H' t c cs i l sd x → EvD K (tDGet (tVar 0) (tC (.str "salt"))) [some (.ref t), some (.int m), a, b] H' (.int x) := fun T => ed_tp (ev_var rfl) T vX (.int _)
    have gC : ∀ {H' : Hp} {c cs i l sd x} {a b : Option V}, Tp K H' t c cs i l sd x → Ev (tDGet (tVar 0) (tC (.str "cells"))) [some (.ref t), some (.int m), a, b] H' (.ref c) := fun T => ev_tp (ev_var rfl) T vC
    refine q_cut (M := fun σ' H' => σ' = [some (.ref t), some (.int m), none, none] ∧ TapeAt K H' t c cs ∧ Bt t H H') ?_ ?_
    · refine s_if (b := decide (l = 0) && decide ((i : Int) < (cs.length : Int))) (et_and (et_d (K := K) (ed_eqI (gL Tt) ed_int)) fun _ => et_d (K := K) (ed_B0 (g := fun i j => decide (i < j)) (gA Tt) ?_)) ?_ ?_
      · exact (ed_lenL (ed_ev (gC Tt) Tt.cd)).is (by rw [List.length_map])
      · intro hb H1 e1
        have hb' : l = 0 ∧ (i : Int) < (cs.length : Int) := by simpa using hb
        have T1 := Tt.ex e1
        have hi : i < cs.length := by omega
        have hci : cs[i]? = some cs[i] := List.getElem?_eq_getElem hi
        refine q_tput (ev_edI (K := K) (ed_ixL (d := .int cs[i]) (ed_ev (gC T1) T1.cd) (gA T1) (atI_nat (by rw [List.getElem?_map, hci]; rfl)))) (ev_var (i := 0) rfl) T1 pL fun H2 e2 => ?_
        obtain ⟨T2, b2⟩ := (T1.ex e2).put (i' := i) (l' := cs[i]) (s' := sd) (x' := x) (Tt.cs0 _ (List.mem_of_getElem? hci))
        refine s_tput (ev_edI (K := K) (ed_I0 (g := fun i j => i + j) (gA T2) ed_int)) (ev_var (i := 0) rfl) T2 (pA (j := i + 1)) fun H3 e3 => ?_
        obtain ⟨T3, b3⟩ := (T2.ex e3).put (i' := i + 1) (l' := cs[i]) (s' := sd) (x' := x) T2.l0
        exact ⟨rfl, ⟨_, _, _, _, T3⟩, ((Bt.ex (e1.trans e2)).trans b2).trans ((Bt.ex e3).trans b3)⟩
      · intro hb H1 e1
        exact ⟨rfl, ⟨_, _, _, _, Tt.ex e1⟩, Bt.ex e1⟩
    · rintro σ' H' ⟨rfl, ⟨i, l, sd, x, T'⟩, b'⟩
      refine q_when (b := decide (l > 0)) (et_d (K := K) (ed_B0 (g := fun i j => decide (i > j)) (gL T') ed_int)) (fun hb H1 e1 => ?_) (fun hb H1 e1 => ?_)
      · have hb' : l > 0 := by simpa using hb
        have T1 := T'.ex e1
        refine dq_asg (K := K) (d := .int (l % m)) (ed_I (g := fun i j => i % j) (ed_intOf (gL T1)) (ed_var (i := 1) rfl (.int _)) m0) fun v H2 e2 kv => ?_
        rw [dp_int kv]
        have T2 := T1.ex e2
        refine q_tput (ev_edI (K := K) (i := l / m) (ed_I (g := fun i j => i / j) (gL T2) (ed_var (i := 1) rfl (.int _)) ⟨m0, by omega⟩)) (ev_var (i := 0) rfl) T2 pL fun H3 e3 => ?_
        obtain ⟨T3, b3⟩ := (T2.ex e3).put (i' := i) (l' := l / m) (s' := sd) (x' := x) (Int.ediv_nonneg T'.l0 (by omega))
        have h0 : 0 ≤ l % m := Int.emod_nonneg _ (by omega)
        have h1 : l % m < m := Int.emod_lt_of_pos _ m0
        refine s_ret (ev_var (i := 2) rfl) fun H4 e4 => ?_
        have q' := q (l % m).toNat H4 (by omega) ⟨_, _, _, _, T3.ex e4⟩ (b'.trans ((Bt.ex (e1.trans (e2.trans e3))).trans (b3.trans (Bt.ex e4))))
        rw [Int.toNat_of_nonneg h0] at q'
        exact q'
      · have T1 := T'.ex e1
        refine q_tput (ev_edI (K := K) (i := x + 1) (ed_I0 (g := fun i j => i + j) (gX T1) ed_int)) (ev_var (i := 0) rfl) T1 pX fun H2 e2 => ?_
        obtain ⟨T2, b2⟩ := (T1.ex e2).put (i' := i) (l' := l) (s' := sd) (x' := x + 1) T'.l0
        have cm : ∀ {a b : Int}, 0 ≤ b → b < 1000000000000 → CMul a b := fun h1 h2 => .inr ⟨by omega, by omega⟩
        refine dq_asg (K := K) (d := .int ((sd * 48271 + (x + 1) * 69621) % 2147483647)) (ed_I (g := fun i j => i % j) (ed_intOf (ed_I0 (g := fun i j => i + j) (ed_I (g := fun i j => i * j) (gS T2) ed_int (cm (by omega) (by omega))) (ed_I (g := fun i j => i * j) (gX T2) ed_int (cm (by omega) (by omega))))) ed_int (by omega)) fun v H3 e3 kv => ?_
        rw [dp_int kv]
        have T3 := T2.ex e3
        have h0 : 0 ≤ (sd * 48271 + (x + 1) * 69621) % 2147483647 := Int.emod_nonneg _ (by omega)
        have h1 : (sd * 48271 + (x + 1) * 69621) % 2147483647 < 2147483647 := Int.emod_lt_of_pos _ (by omega)
        generalize (sd * 48271 + (x + 1) * 69621) % 2147483647 = mx at h0 h1
        refine dq_asg (K := K) (d := .int ((mx * mx + (x + 1) * 40692 + 12345) % 2147483399)) (ed_I (g := fun i j => i % j) (ed_intOf (ed_I0 (g := fun i j => i + j) (ed_I0 (g := fun i j => i + j) (ed_I (g := fun i j => i * j) (ed_var (i := 3) rfl (.int _)) (ed_var (i := 3) rfl (.int _)) (cm h0 (by omega))) (ed_I (g := fun i j => i * j) (gX T3) ed_int (cm (by omega) (by omega)))) ed_int)) ed_int (by omega)) fun v H4 e4 kv => ?_
        rw [dp_int kv]
        have T4 := T3.ex e4
        generalize (mx * mx + (x + 1) * 40692 + 12345) % 2147483399 = my
        refine d_ret (K := K) (d := .int (my % m)) (ed_I (g := fun i j => i % j) (ed_intOf (ed_var (i := 3) rfl (.int _))) (ed_var (i := 1) rfl (.int _)) m0) fun v H5 e5 kv => ?_
        rw [dp_int kv]
        have g0 : 0 ≤ my % m := Int.emod_nonneg _ (by omega)
        have g1 : my % m < m := Int.emod_lt_of_pos _ m0
        have q' := q (my % m).toNat H5 (by omega) ⟨_, _, _, _, T4.ex e5⟩ (b'.trans ((Bt.ex (e1.trans e2)).trans (b2.trans (Bt.ex (e3.trans (e4.trans e5))))))
        rw [Int.toNat_of_nonneg g0] at q'
        exact q'
end
end K01

set_option maxRecDepth 100000
set_option maxHeartbeats 4000000
/-! law_k01: the tape is made. -/
namespace K01
open PySem PySem.Spec PyProof.Rows L2 Evl Dat TL
section
variable {P : Program} {w : World} {K : PySem.W.Frag} {mg : Str → Option Value} {base : Heap} {C fI cc oA : Addr} {tL tD : Tok} {F : NdefX.NF} {fdI : FuncData} {f f1 f2 f3 : Addr} {fd fd1 fd2 fd3 : FuncData} {σ : L2.St} {H H' : Hp} {v : V} {d : PyData} {ds : List PyData} {ta tb te td ty tv : TE} {tr : TA} {t c : Addr} {cs : List Int} {i : Nat} {l s x : Int}
def absD : PyData → PyData
  | .int i => .int (if i < 0 then -i else i)
  | d => d
theorem dpa_ints_inv : ∀ {xs : List V} {ys : List Int}, DpAll K H xs (ys.map PyData.int) → xs = ys.map V.int
  | _, [], .nil => rfl
  | _, y :: r, .cons h t => by rw [dp_int h, dpa_ints_inv t]; rfl
def spTape (K : PySem.W.Frag) : Sp := fun vs H Q _ => ∃ (a : Addr) (ns : List Int), vs = [.ref a] ∧ SqL K H a (ns.map V.int) ∧ ns.length ≤ 63 ∧ ∀ t c cs H', H t = none → Ex H H' → TapeAt K H' t c cs → Q (.ref t) H'
theorem ok__law_tape (D__law_tape : Def' K mg "_law_tape" s__law_tape ["script"] f fd) (T : Txt P K mg C fI cc oA tL tD F fdI) : FnOk P w K mg base CX0 1 f fd ["script"] (spTape K) := by
  refine D__law_tape.fn.ok sc__law_tape (fun vs H Q E h => ?_) (fun cdv A outer s H vs Q E hr h => ?_)
  · obtain ⟨a, ns, rfl, _⟩ := h
    rfl
  · obtain ⟨a, ns, rfl, hS, hl, q⟩ := h
    refine ⟨_, (pss_cons (ps_setLc (i := 1) (own := [("cell", 2)]) (g := gName 2) (by rfl) sc__law_tape.nd rfl rfl (sw_true rfl rfl rfl (by decide +kernel)) (pi_list (pv 0)) (blkOk_by (own := [("cell", 2)]) (N := ["script", "cells", "cell", "seed"]) (sc := defScope s__law_tape) (by decide +kernel)) (fun _ _ _ _ _ => pg_name (i := 2) sc__law_tape.nd rfl (Or.inl rfl)) (fun _ _ _ _ _ => pts_nil) (fun _ _ _ _ _ => (pe_callB call_abs (by rfl) T.z_abs (by decide +kernel) (pa_cons (pe_callTy call_int1 (by rfl) T.z_int (by decide +kernel) (pa_cons (pv 2) pa_nil)) pa_nil))))
    (pss_cons (ps_set (i := 3) sc__law_tape.nd rfl (by first | exact Or.inl rfl | exact Or.inr rfl) pe_int)
    (pss_cons (ps_for PassesOwn.never rfl (pi_list (pv 1)) (pg_name (i := 2) sc__law_tape.nd rfl (by first | exact Or.inl rfl | exact Or.inr rfl)) (pss_one (ps_set (i := 3) sc__law_tape.nd rfl (by first | exact Or.inl rfl | exact Or.inr rfl) (pe_op op_mod (pe_callTy call_int1 (by rfl) T.z_int (by decide +kernel) (pa_cons (pe_op op_add (pe_op op_mul (pv 3) pe_int) (pv 2)) pa_nil)) pe_int))))
    (pss_one (ps_ret (pe_disp (pps_cons pe_str (pv 1) (pps_cons pe_str pe_int (pps_cons pe_str pe_int (pps_cons pe_str (pv 3) (pps_cons pe_str pe_int pps_nil))))) (by rfl) (by rfl) (fun z => by cases z) (by decide))))))), ?_⟩
    have ec : (((ns.map PyData.int).filter fun _ => true).map absD) = ((ns.map fun i => if i < 0 then -i else i).map PyData.int) := by
      rw [List.filter_eq_self.mpr (fun _ _ => rfl), List.map_map, List.map_map]
      rfl
    refine dq_asg (K := K) (d := .list ((ns.map fun i => if i < 0 then -i else i).map PyData.int)) ((ed_lcL (K := K) (p := fun _ => true) (f := absD) (ed_var (i := 0) rfl (.lst hS dpa_ints)) (by rw [List.length_map]; omega) (fun _ => rfl) (fun d hd v H' e kv => et_yes) (fun d hd _ => ?_) (fun d hd _ v H' e kv => ?_)).is (by rw [ec])) fun v H1 e1 kv => ?_
    · obtain ⟨i, _, rfl⟩ := List.mem_map.mp hd
      rfl
    · obtain ⟨i, _, rfl⟩ := List.mem_map.mp hd
      exact ed_absOf (ed_intOf (ed_var (i := 2) rfl kv))
    obtain ⟨c, xs, rfl, hc, ks⟩ := dp_lst kv
    rw [dpa_ints_inv ks] at hc
    have hc0 : ∀ z ∈ ns.map (fun i => if i < 0 then -i else i), 0 ≤ z := fun z hz => by
      obtain ⟨i, _, rfl⟩ := List.mem_map.mp hz
      show 0 ≤ if i < 0 then -i else i
      split <;> omega
    generalize ns.map (fun i => if i < 0 then -i else i) = cs at hc hc0
    refine q_asg ev_c fun H2 e2 => ?_
    refine q_forLn (a := c) (xs := cs.map V.int) (ev_var (i := 1) rfl) (ex_l e2 hc) (fun i σ' H' => ∃ (sd : Int) (o : Option V), σ' = [some (.ref a), some (.ref c), o, some (.int sd)] ∧ Ex H H' ∧ SqL K H' c (cs.map V.int)) (fun H3 e3 => ⟨7, _, rfl, (e1.trans e2).trans e3, ex_l (e2.trans e3) hc⟩) (fun i σ' H' _ ⟨_, _, _, _, h⟩ => h) ?_ ?_
    · rintro i y σ' H' hi ⟨sd, o, rfl, ex, hs⟩
      obtain ⟨z, rfl⟩ : ∃ z, y = V.int z := by
        rw [List.getElem?_map] at hi
        cases e : cs[i]? with
        | none => rw [e] at hi; cases hi
        | some z => rw [e] at hi; exact ⟨z, (Option.some.inj hi).symm⟩
      refine s_asg (v := .int ((sd * 31 + z) % 2147483647)) (ev_edI (K := K) (ed_I (g := fun i j => i % j) (ed_intOf (ed_I0 (g := fun i j => i + j) (ed_I (g := fun i j => i * j) (ed_var (i := 3) rfl (.int _)) ed_int (.inr ⟨by omega, by omega⟩)) (ed_var (i := 2) rfl (.int _)))) ed_int (by omega))) fun H3 e3 => ⟨_, _, rfl, ex.trans e3, ex_l e3 hs⟩
    · rintro σ' H' ⟨sd, o, rfl, ex, hs⟩
      have hps : EvPs [some (.ref a), some (.ref c), o, some (.int sd)] H' [(tC (.str "cells"), tVar 1), (tC (.str "at"), tC (.int 0)), (tC (.str "left"), tC (.int 0)), (tC (.str "seed"), tVar 3), (tC (.str "salt"), tC (.int 0))] (TapeK c 0 0 sd 0) :=
        ⟨ev_c, ev_var rfl, ev_c, ev_c, ev_c, ev_c, ev_c, ev_var rfl, ev_c, ev_c, True.intro⟩
      refine ek_disp (kvs := TapeK c 0 0 sd 0) hps (by show 5 ≤ 15; omega) (by show [kC, kA, kL, kS, kX].Nodup; decide +kernel) H' (Ex.refl _) _ fun p H2 hp e2 h2 => ?_
      exact q p c cs H2 (fresh_back ex hp) (ex.trans e2) ⟨0, 0, sd, 0, h2, ex_l e2 hs, by omega, hc0⟩
end
end K01

set_option maxRecDepth 100000
set_option maxHeartbeats 4000000
/-! law_k01: what is drawn. -/
namespace K01
open PySem PySem.Spec PyProof.Rows L2 Evl Dat TL
def nms : List Str := ["A", "B", "C", "D", "E"]
def Bd : Nat → Nat
  | 0 => 6
  | n + 1 => 3 * Bd n + 4
theorem bd6 : ∀ n, 6 ≤ Bd n
  | 0 => Nat.le_refl _
  | n + 1 => by have := bd6 n; show 6 ≤ 3 * Bd n + 4; omega
/-- drawn, n deep at most -/
structure Dr (n : Nat) (k : Kd) : Prop where
  ok : ok n k = true
  len : k.wr.length ≤ Bd n
  sgn : okS k.wr
  cls : ∀ x, k = .cls x → x = obj ∨ x ∈ nms
theorem okS_cs (l : List Nat) (h : l.all (fun x => decide (x < 0x110000)) = true) : okS l := fun x hx => of_decide_eq_true (List.all_eq_true.mp h x hx)
theorem okS_app {a b : List Nat} (ha : okS a) (hb : okS b) : okS (a ++ b) := fun x hx => (List.mem_append.mp hx).elim (ha x) (hb x)
theorem okS_cons {c : Nat} {a : List Nat} (hc : c < 0x110000) (ha : okS a) : okS (c :: a) := fun x hx => by
  rcases List.mem_cons.mp hx with rfl | h
  · exact hc
  · exact ha x h
theorem okS_nil : okS [] := fun x hx => by cases hx
theorem names_ok : ∀ x ∈ obj :: nms, goodN x = true ∧ x.cps.toList.length ≤ 6 ∧ x.cps.toList.all (fun x => decide (x < 0x110000)) = true := by decide +kernel
theorem Dr.int (n : Nat) : Dr n .int := ⟨by cases n <;> rfl, by have := bd6 n; show 3 ≤ Bd n; omega, okS_cs _ (by decide +kernel), fun x h => by cases h⟩
theorem Dr.clsOf (n : Nat) {x : Str} (hx : x ∈ obj :: nms) : Dr n (.cls x) := by
  obtain ⟨h1, h2, h3⟩ := names_ok x hx
  refine ⟨by cases n <;> exact h1, by have := bd6 n; show x.cps.toList.length ≤ Bd n; omega, okS_cs _ h3, fun y h => ?_⟩
  cases h
  exact List.mem_cons.mp hx
theorem Dr.arr {n : Nat} {k : Kd} (h : Dr n k) : Dr (n + 1) (.arr k) := ⟨h.ok, by have := h.len; show (91 :: (k.wr ++ [93])).length ≤ 3 * Bd n + 4; simp; omega, okS_cons (by omega) (okS_app h.sgn (okS_cons (by omega) okS_nil)), fun x h => by cases h⟩
theorem Dr.chan {n : Nat} {k : Kd} (h : Dr n k) : Dr (n + 1) (.chan k) := ⟨h.ok, by have := h.len; show (60 :: (k.wr ++ [62])).length ≤ 3 * Bd n + 4; simp; omega, okS_cons (by omega) (okS_app h.sgn (okS_cons (by omega) okS_nil)), fun x h => by cases h⟩
theorem Dr.weak {n : Nat} {x : Str} (h : Dr n (.cls x)) : Dr (n + 1) (.weak (.cls x)) := ⟨by have := h.ok; show (Kd.isCls (.cls x) && K01.ok n (.cls x)) = true; rw [this]; rfl, by have := h.len; show (63 :: (Kd.cls x).wr).length ≤ 3 * Bd n + 4; simp; omega, okS_cons (by omega) h.sgn, fun x h => by cases h⟩
theorem okAll_of : ∀ {n : Nat} {ps : List Kd}, (∀ k ∈ ps, ok n k = true) → okAll n ps = true
  | n, [], _ => by simp [okAll]
  | n, k :: r, h => by simp [okAll, h k List.mem_cons_self, okAll_of (ps := r) fun k hk => h k (List.mem_cons_of_mem _ hk)]
theorem Dr.fn {n : Nat} {ps : List Kd} {r : Kd} (hp : ∀ k ∈ ps, Dr n k) (hl : ps.length ≤ 2) (hr : r = .void ∨ Dr n r) : Dr (n + 1) (.fn ps r) := by
  have hrl : r.wr.length ≤ Bd n := by
    rcases hr with rfl | h
    · have := bd6 n; show 4 ≤ Bd n; omega
    · exact h.len
  have hrs : okS r.wr := by
    rcases hr with rfl | h
    · exact okS_cs _ (by decide +kernel)
    · exact h.sgn
  have hro : (r.beq .void || K01.ok n r) = true := by
    rcases hr with rfl | h
    · rfl
    · rw [h.ok, Bool.or_true]
  have hj : (joinL [44] (Kd.wrAll ps)).length ≤ 2 * Bd n + 1 ∧ okS (joinL [44] (Kd.wrAll ps)) := by
    match ps, hp, hl with
    | [], _, _ => exact ⟨Nat.zero_le _, okS_nil⟩
    | [a], hp, _ =>
      have := (hp a List.mem_cons_self).len
      exact ⟨by show a.wr.length ≤ _; omega, (hp a List.mem_cons_self).sgn⟩
    | [a, b], hp, _ =>
      have h1 := hp a List.mem_cons_self
      have h2 := hp b (List.mem_cons_of_mem _ List.mem_cons_self)
      have l1 := h1.len
      have l2 := h2.len
      refine ⟨?_, okS_app h1.sgn (okS_app (okS_cons (by omega) okS_nil) h2.sgn)⟩
      show (a.wr ++ ([44] ++ b.wr)).length ≤ _
      simp
      omega
    | a :: b :: c :: d, _, hl => simp at hl
  refine ⟨?_, ?_, okS_cons (by omega) (okS_app hj.2 (okS_cons (by omega) hrs)), fun x h => by cases h⟩
  · show (okAll n ps && (r.beq .void || K01.ok n r)) = true
    rw [okAll_of (fun k hk => (hp k hk).ok), hro]
    rfl
  · have := hj.1
    show (40 :: (joinL [44] (Kd.wrAll ps) ++ 41 :: r.wr)).length ≤ 3 * Bd n + 4
    simp
    omega
theorem Dr.up {n : Nat} {k : Kd} (h : Dr n k) : Dr n k := h
/-- what is asked of it -/
theorem ok_dep : ∀ (n : Nat) (k : Kd), K01.ok n k = true → k.dep ≤ n ∧ noFresh k = true
  | _, .int, _ => ⟨Nat.zero_le _, rfl⟩
  | _, .cls n, _ => ⟨Nat.zero_le _, rfl⟩
  | n + 1, .arr k, h => by
    obtain ⟨h1, h2⟩ := ok_dep n k h
    exact ⟨Nat.succ_le_succ h1, h2⟩
  | n + 1, .chan k, h => by
    obtain ⟨h1, h2⟩ := ok_dep n k h
    exact ⟨Nat.succ_le_succ h1, h2⟩
  | n + 1, .weak k, h => by
    have h' : k.isCls = true ∧ K01.ok n k = true := by simpa [K01.ok] using h
    obtain ⟨h1, h2⟩ := ok_dep n k h'.2
    exact ⟨Nat.succ_le_succ h1, h2⟩
  | n + 1, .fn ps r, h => by
    have h' : okAll n ps = true ∧ (r.beq .void = true ∨ K01.ok n r = true) := by simpa [K01.ok] using h
    have hr : r.dep ≤ n ∧ noFresh r = true := by
      rcases h'.2 with e | e
      · rw [beq_of e]
        exact ⟨Nat.zero_le _, rfl⟩
      · exact ok_dep n r e
    have hp : ∀ (qs : List Kd), (∀ k ∈ qs, k ∈ ps) → Kd.depAll qs ≤ n ∧ noFreshs qs = true := fun qs => by
      induction qs with
      | nil => exact fun _ => ⟨Nat.zero_le _, rfl⟩
      | cons a b ih =>
        intro hq
        have ha := ok_dep n a (okAll_mem h'.1 a (hq a List.mem_cons_self))
        obtain ⟨h1, h2⟩ := ih fun k hk => hq k (List.mem_cons_of_mem _ hk)
        refine ⟨by show max a.dep (Kd.depAll b) ≤ n; have := ha.1; omega, ?_⟩
        show (noFresh a && noFreshs b) = true
        rw [ha.2, h2]
        rfl
    obtain ⟨h1, h2⟩ := hp ps fun _ h => h
    refine ⟨by show max (Kd.depAll ps) r.dep + 1 ≤ n + 1; have := hr.1; omega, ?_⟩
    show (noFreshs ps && noFresh r) = true
    rw [h2, hr.2]
    rfl
  | 0, .arr k, h => by simp [K01.ok] at h
  | 0, .chan k, h => by simp [K01.ok] at h
  | 0, .weak k, h => by simp [K01.ok] at h
  | 0, .fn ps r, h => by simp [K01.ok] at h
  | 0, .void, h => by simp [K01.ok] at h
  | 0, .null, h => by simp [K01.ok] at h
  | 0, .unset, h => by simp [K01.ok] at h
  | 0, .fresh _ _, h => by simp [K01.ok] at h
  | n + 1, .void, h => by simp [K01.ok] at h
  | n + 1, .null, h => by simp [K01.ok] at h
  | n + 1, .unset, h => by simp [K01.ok] at h
  | n + 1, .fresh _ _, h => by simp [K01.ok] at h
theorem Dr.lay {n : Nat} {k : Kd} (h : Dr n k) : lay (2 * (n + 1)) k := by
  have e := typeAt_wr n k [] h.ok rfl
  exact lay_typeAt (n + 1) _ _ _ (by rw [List.append_nil]; exact h.sgn) e
theorem Dr.ask {n : Nat} {k : Kd} {Tr : Tree} (h : Dr n k) (hn : n ≤ 10) (hT : ∀ x ∈ obj :: nms, x ∈ Tr.dom) : Ask Tr k := by
  have hl := h.lay
  refine ⟨lay_shaped hl (by omega), ?_, ok_ne_void h.ok, by have := hl.2; omega⟩
  cases k with
  | cls x => exact hT x (List.mem_cons.mpr (h.cls x rfl))
  | _ => exact True.intro
end K01

set_option maxRecDepth 100000
set_option maxHeartbeats 4000000
/-! law_k01: _law_kind. -/
namespace K01
open PySem PySem.Spec PyProof.Rows L2 Evl Dat TL
/-- the tape at t, the names at nm -/
structure Sd (K : PySem.W.Frag) (t nm c : Addr) (cs : List Int) (H : Hp) : Prop where
  tp : TapeAt K H t c cs
  nm : SqL K H nm (nms.map V.str)
section
variable {P : Program} {w : World} {K : PySem.W.Frag} {mg : Str → Option Value} {base : Heap} {C fI cc oA : Addr} {tL tD : Tok} {F : NdefX.NF} {fdI : FuncData} {f f1 f2 f3 : Addr} {fd fd1 fd2 fd3 : FuncData} {σ : L2.St} {H H' : Hp} {v : V} {d : PyData} {ds : List PyData} {ta tb te td ty tv : TE} {tr : TA} {t nm c : Addr} {cs : List Int}
theorem TapeAt.off (h : TapeAt K H t c cs) : Off (H t) := by
  obtain ⟨i, l, s, x, T⟩ := h
  rw [T.d]
  exact True.intro
theorem Sd.ex (h : Sd K t nm c cs H) (e : Ex H H') : Sd K t nm c cs H' := ⟨h.tp.ex e, ex_l e h.nm⟩
theorem Sd.bt (h : Sd K t nm c cs H) (b : Bt t H H') (hT : TapeAt K H' t c cs) : Sd K t nm c cs H' := ⟨hT, bt_l h.tp.off b h.nm⟩
theorem Sd.dp (h : Sd K t nm c cs H) (b : Bt t H H') {v : V} {d : PyData} (k : Dp K H v d) : Dp K H' v d := dp_bt h.tp.off b k
/-- what is evaluated, the tape moving -/
def EvB (K : PySem.W.Frag) (t nm c : Addr) (cs : List Int) (te : TE) (σ : L2.St) (H : Hp) (R : V → Hp → Prop) : Prop := ∀ Q : VK, (∀ v H', Bt t H H' → Sd K t nm c cs H' → R v H' → Q v H') → te σ H Q
theorem eb_take {m : Int} {E : XK} (S : Sd K t nm c cs H) (h : EvA tr σ H [.ref t, .int m]) (m0 : 0 < m) (m1 : m < 1000) : EvB K t nm c cs (tCall (spTake K) [] E tr) σ H fun v _ => ∃ d : Nat, (d : Int) < m ∧ v = .int d := fun Q q =>
  h H (Ex.refl H) _ fun H1 e1 => ⟨t, m, c, cs, rfl, S.tp.ex e1, m0, m1, fun d H' hd hT b => q _ H' ((Bt.ex e1).trans b) ((S.ex e1).bt b hT) ⟨d, hd, rfl⟩⟩
def spKind (K : PySem.W.Frag) (n : Nat) : Sp := fun vs H Q _ => ∃ (t nm c : Addr) (cs : List Int) (deep : Nat), vs = [.ref t, .ref nm, .int deep] ∧ Sd K t nm c cs H ∧ deep < n ∧ ∀ v k H', Bt t H H' → Sd K t nm c cs H' → Dr deep k → Dp K H' v k.d → Q v H'
theorem eb_kind {n deep : Nat} {E : XK} (S : Sd K t nm c cs H) (h : EvA tr σ H [.ref t, .ref nm, .int deep]) (hn : deep < n) : EvB K t nm c cs (tCall (spKind K n) [] E tr) σ H fun v H' => ∃ k, Dr deep k ∧ Dp K H' v k.d := fun Q q =>
  h H (Ex.refl H) _ fun H1 e1 => ⟨t, nm, c, cs, deep, rfl, S.ex e1, hn, fun v k H' b S' hk kv => q v H' ((Bt.ex e1).trans b) S' ⟨k, hk, kv⟩⟩
/-- names[take(tape, len(names))] -/
theorem eb_name {E : XK} (S : Sd K t nm c cs H) (h0 : σ[0]? = some (some (.ref t))) (h1 : σ[1]? = some (some (.ref nm))) :
    EvB K t nm c cs (tOp (rIx K) (tVar 1) (tCall (spTake K) [] E (tCons (tVar 0) (tCons (tCB (fun xs H Q => ∃ x n, xs = [x] ∧ LenV K x H n ∧ Q (.int n) H) (tCons (tVar 1) tNil)) tNil)))) σ H fun v _ => ∃ x, x ∈ nms ∧ v = .str x := fun Q q => by
  refine ⟨_, h1, ?_⟩
  refine eb_take S (m := 5) (ea_cons (ev_var h0) (ea_cons (fun H1 e1 Q q => ⟨_, h1, _, 5, rfl, .inl ⟨_, ex_l e1 S.nm, rfl⟩, q H1 (Ex.refl _)⟩) ea_nil)) (by omega) (by omega) _ fun v H' b S' ⟨d, hd, e⟩ => ?_
  subst e
  have hd5 : d < nms.length := by show d < 5; omega
  have hx : nms[d]? = some nms[d] := List.getElem?_eq_getElem hd5
  exact .inl ⟨nm, _, (d : Int), .str nms[d], rfl, rfl, S'.nm, atI_nat (by rw [List.getElem?_map, hx]; rfl), q _ _ b S' ⟨_, List.mem_of_getElem? hx, rfl⟩⟩
theorem ok__law_kind (D__law_kind : Def' K mg "_law_kind" s__law_kind ["tape", "names", "deep"] f fd) (D__law_take : Def' K mg "_law_take" s__law_take ["tape", "many"] f1 fd1) (T : Txt P K mg C fI cc oA tL tD F fdI) : ∀ n, FnOk P w K mg base CX0 (n + 1) f fd ["tape", "names", "deep"] (spKind K n)
  | 0 => fn0 fun vs H Q E h => by
    obtain ⟨_, _, _, _, _, _, _, h, _⟩ := h
    exact absurd h (Nat.not_lt_zero _)
  | n + 1 => by
    have G__law_take := ok__law_take (w := w) (base := base) D__law_take T
    have G__law_kind := ok__law_kind D__law_kind D__law_take T n
    refine D__law_kind.fn.ok sc__law_kind (fun vs H Q E h => ?_) (fun cdv A outer s H vs Q E hr h => ?_)
    · obtain ⟨t, nm, c, cs, deep, rfl, _⟩ := h
      rfl
    · obtain ⟨t, nm, c, cs, deep, rfl, S, hn, q⟩ := h
      refine ⟨_, (pss_cons (ps_set (i := 3) sc__law_kind.nd rfl (by first | exact Or.inl rfl | exact Or.inr rfl) (pcall D__law_take G__law_take (hr.mono (by omega)) (pa_cons (pv 0) (pa_cons (pe_ifExp (pt_cmpR op_gt (pv 2) pe_int (nomark _)) pe_int pe_int) pa_nil))))
    (pss_cons (ps_if (pt_cmpR op_lt (pv 3) pe_int (nomark _)) (pss_one (ps_ret (pe_ifExp (pt_cmpR op_eq (pv 3) pe_int (nomark _)) pe_str (pe_tup (pa_cons pe_str (pa_cons pe_str pa_nil)))))) pss_nil)
    (pss_cons (ps_if (pt_cmpR op_lt (pv 3) pe_int (nomark _)) (pss_one (ps_ret (pe_tup (pa_cons pe_str (pa_cons (pe_ix ix_seq (pv 1) (pcall D__law_take G__law_take (hr.mono (by omega)) (pa_cons (pv 0) (pa_cons (pe_callB call_len (by rfl) T.z_len PySem.boot_len (pa_cons (pv 1) pa_nil)) pa_nil))) (fun _ _ => rfl)) pa_nil))))) pss_nil)
    (pss_cons (ps_if (pt_cmpR op_lt (pv 3) pe_int (nomark _)) (pss_one (ps_ret (pe_tup (pa_cons (pe_ix ix_seq (pe_lst (pa_cons pe_str (pa_cons pe_str pa_nil))) (pe_op op_sub (pv 3) pe_int) (fun _ _ => rfl)) (pa_cons (pcall D__law_kind G__law_kind (hr.mono (by omega)) (pa_cons (pv 0) (pa_cons (pv 1) (pa_cons (pe_op op_sub (pv 2) pe_int) pa_nil)))) pa_nil))))) pss_nil)
    (pss_cons (ps_if (pt_cmpR op_eq (pv 3) pe_int (nomark _)) (pss_one (ps_ret (pe_tup (pa_cons pe_str (pa_cons (pe_tup (pa_cons pe_str (pa_cons (pe_ix ix_seq (pv 1) (pcall D__law_take G__law_take (hr.mono (by omega)) (pa_cons (pv 0) (pa_cons (pe_callB call_len (by rfl) T.z_len PySem.boot_len (pa_cons (pv 1) pa_nil)) pa_nil))) (fun _ _ => rfl)) pa_nil))) pa_nil))))) pss_nil)
    (pss_cons (ps_set (i := 4) sc__law_kind.nd rfl (by first | exact Or.inl rfl | exact Or.inr rfl) (pe_callTy call_tuple_of (by rfl) T.z_tuple (by decide +kernel) (pa_cons (pe_lc (own := [("k", 5)]) (g := gName 5) (by rfl) sc__law_kind.nd (pi_range1 (by rfl) T.z_range (pa_cons (pcall D__law_take G__law_take (hr.mono (by omega)) (pa_cons (pv 0) (pa_cons pe_int pa_nil))) pa_nil)) (blkOk_by (own := [("k", 5)]) (N := ["tape", "names", "deep", "pick", "params", "k"]) (sc := defScope s__law_kind) (by decide +kernel)) (fun _ _ _ _ _ => pg_name (i := 5) sc__law_kind.nd rfl (Or.inl rfl)) (fun _ _ _ _ _ => pts_nil) (fun _ _ _ _ _ => (pcall D__law_kind G__law_kind (hr.mono (by omega)) (pa_cons (pv 0) (pa_cons (pv 1) (pa_cons (pe_op op_sub (pv 2) pe_int) pa_nil)))))) pa_nil)))
    (pss_one (ps_ret (pe_tup (pa_cons pe_str (pa_cons (pv 4) (pa_cons (pe_ifExp (pt_cmpR op_eq (pv 3) pe_int (nomark _)) pe_str (pcall D__law_kind G__law_kind (hr.mono (by omega)) (pa_cons (pv 0) (pa_cons (pv 1) (pa_cons (pe_op op_sub (pv 2) pe_int) pa_nil))))) pa_nil)))))))))))), ?_⟩
      refine eb_take S (m := if deep = 0 then 4 else 9) (ea_cons (ev_var (i := 0) rfl) (ea_cons (ev_if (b := decide ((deep : Int) > 0)) (et_d (K := K) (ed_B0 (g := fun i j => decide (i > j)) (ed_var (i := 2) rfl (.int _)) ed_int)) (fun h => ?_) (fun h => ?_)) ea_nil)) (by split <;> omega) (by split <;> omega) _ fun v H1 b1 S1 ⟨d, hd, e⟩ => ?_
      · have : ¬ deep = 0 := by have := of_decide_eq_true h; omega
        rw [if_neg this]; exact ev_c
      · have : deep = 0 := by have := of_decide_eq_false h; omega
        rw [if_pos this]; exact ev_c
      subst e
      have lt : ∀ {H' : Hp} {j : Nat} {o4 o5 : Option V}, EvT (tTest (tOp (rI0 fun i j => .bl (decide (i < j))) (tVar 3) (tC (.int (j : Int))))) [some (.ref t), some (.ref nm), some (.int deep), some (.int d), o4, o5] H' (decide (d < j)) := fun {H' j o4 o5} =>
        et_is (et_d (K := K) (ed_B0 (g := fun i j => decide (i < j)) (ed_var (i := 3) rfl (.int _)) (ed_int (i := (j : Int))))) (decide_eq_decide.mpr (by omega))
      have eq : ∀ {H' : Hp} {j : Nat} {o4 o5 : Option V}, EvT (tTest (tOp rEq (tVar 3) (tC (.int (j : Int))))) [some (.ref t), some (.ref nm), some (.int deep), some (.int d), o4, o5] H' (decide (d = j)) := fun {H' j o4 o5} =>
        et_is (et_d (K := K) (ed_eqI (ed_var (i := 3) rfl (.int _)) (ed_int (i := (j : Int))))) (decide_eq_decide.mpr (by omega))
      -- pick < 2
      by_cases c1 : d < 2
      · refine dq_ifT (et_is (lt (j := 2)) (decide_eq_true c1)) fun H2 e2 => ?_
        by_cases c0 : d = 0
        · refine d_ret (K := K) (d := Kd.int.d) (ed_if (et_is (eq (j := 0)) (decide_eq_true c0)) (fun _ => ed_str) (fun h => Bool.noConfusion h)) fun v H3 e3 kv => q v .int H3 (b1.trans (Bt.ex (e2.trans e3))) (S1.ex (e2.trans e3)) (Dr.int _) kv
        · refine d_ret (K := K) (d := Kd.ob.d) (ed_if (et_is (eq (j := 0)) (decide_eq_false c0)) (fun h => Bool.noConfusion h) (fun _ => ed_tup (eda_cons ed_str (eda_cons ed_str eda_nil)) (by show 2 ≤ 1000; omega))) fun v H3 e3 kv => q v Kd.ob H3 (b1.trans (Bt.ex (e2.trans e3))) (S1.ex (e2.trans e3)) (Dr.clsOf _ List.mem_cons_self) kv
      refine dq_ifF (et_is (lt (j := 2)) (decide_eq_false c1)) fun H2 e2 => ?_
      have S2 := S1.ex e2
      have b2 := b1.trans (Bt.ex e2)
      by_cases c2 : d < 4
      · refine dq_ifT (et_is (lt (j := 4)) (decide_eq_true c2)) fun H3 e3 => ?_
        refine eb_name (S2.ex e3) rfl rfl _ fun v H4 b4 S4 ⟨x, hx, e⟩ => ⟨sz_of (by show 2 ≤ 100000; omega), fun p hp => ?_⟩
        subst e
        exact q (.ref p) (.cls x) _ ((b2.trans (Bt.ex e3)).trans (b4.trans (Bt.ex (Ex.new hp)))) (S4.ex (Ex.new hp)) (Dr.clsOf _ (List.mem_cons_of_mem _ hx)) (dp_newT upd_same (.cons (.str _) (.cons (.str _) .nil)))
      refine dq_ifF (et_is (lt (j := 4)) (decide_eq_false c2)) fun H3 e3 => ?_
      have S3 := S2.ex e3
      have b3 := b2.trans (Bt.ex e3)
      have dp : 0 < deep ∧ d < 9 := by
        by_cases h : deep = 0
        · rw [if_pos h] at hd; omega
        · rw [if_neg h] at hd; omega
      obtain ⟨de, rfl⟩ : ∃ de, deep = de + 1 := ⟨deep - 1, by omega⟩
      have args : ∀ {H' : Hp} {o4 o5 : Option V}, EvA (tCons (tVar 0) (tCons (tVar 1) (tCons (tOp (rI0 fun i j => .int (i - j)) (tVar 2) (tC (.int 1))) tNil))) [some (.ref t), some (.ref nm), some (.int ((de + 1 : Nat) : Int)), some (.int d), o4, o5] H' [.ref t, .ref nm, .int (de : Int)] := fun {H' o4 o5} =>
        ea_cons (ev_var rfl) (ea_cons (ev_var rfl) (ea_cons (ev_edI (K := K) ((ed_I0 (g := fun i j => i - j) (ed_var (i := 2) rfl (.int _)) ed_int).is (by congr 1; omega))) ea_nil))
      by_cases c3 : d < 6
      · refine dq_ifT (et_is (lt (j := 6)) (decide_eq_true c3)) fun H4 e4 => ?_
        have S4 := S3.ex e4
        have b4 := b3.trans (Bt.ex e4)
        -- (['array', 'channel'][pick - 4], ..)
        have hix : EvD K (tOp (rIx K) (tLst (tCons (tC (.str "array")) (tCons (tC (.str "channel")) tNil))) (tOp (rI0 fun i j => .int (i - j)) (tVar 3) (tC (.int 4)))) [some (.ref t), some (.ref nm), some (.int ((de + 1 : Nat) : Int)), some (.int d), none, none] H4 (.str (if d = 4 then "array" else "channel")) :=
          ed_ixL (i := ((d - 4 : Nat) : Int)) (ed_lst (eda_cons ed_str (eda_cons ed_str eda_nil)) (by show 2 ≤ 1000; omega)) ((ed_I0 (g := fun i j => i - j) (ed_var (i := 3) rfl (.int _)) ed_int).is (by congr 1; omega)) (by
            rcases (show d = 4 ∨ d = 5 by omega) with h | h
            · subst h; exact atI_nat (j := 0) rfl
            · subst h; exact atI_nat (j := 1) rfl)
        refine hix H4 (Ex.refl _) _ fun va H5 e5 ka => ?_
        have S5 := S4.ex e5
        refine eb_kind (deep := de) S5 args (by omega) _ fun v H6 b6 S6 ⟨k, hk, kv⟩ => ⟨sz_of (by show 2 ≤ 100000; omega), fun p hp => ?_⟩
        rw [dp_str ka]
        refine q (.ref p) (if d = 4 then .arr k else .chan k) _ ((b4.trans (Bt.ex e5)).trans (b6.trans (Bt.ex (Ex.new hp)))) (S6.ex (Ex.new hp)) ?_ ?_
        · split
          · exact hk.arr
          · exact hk.chan
        · have e : (if d = 4 then Kd.arr k else Kd.chan k).d = .tuple [.str (if d = 4 then "array" else "channel"), k.d] := by split <;> rfl
          rw [e]
          exact dp_newT upd_same (.cons (.str _) (.cons (dp_ex (Ex.new hp) kv) .nil))
      refine dq_ifF (et_is (lt (j := 6)) (decide_eq_false c3)) fun H4 e4 => ?_
      have S4 := S3.ex e4
      have b4 := b3.trans (Bt.ex e4)
      by_cases c4 : d = 6
      · refine dq_ifT (et_is (eq (j := 6)) (decide_eq_true c4)) fun H5 e5 => ?_
        refine eb_name (S4.ex e5) rfl rfl _ fun v H6 b6 S6 ⟨x, hx, e⟩ => ⟨sz_of (by show 2 ≤ 100000; omega), fun p hp => ⟨sz_of (by show 2 ≤ 100000; omega), fun p2 hp2 => ?_⟩⟩
        subst e
        have ex := (Ex.new (o := .tup [V.str "class", V.str x]) hp).trans (Ex.new (o := .tup [V.str "weak", V.ref p]) hp2)
        refine q (.ref p2) (.weak (.cls x)) _ ((b4.trans (Bt.ex e5)).trans (b6.trans (Bt.ex ex))) (S6.ex ex) (Dr.weak (Dr.clsOf _ (List.mem_cons_of_mem _ hx))) ?_
        exact dp_newT upd_same (.cons (.str _) (.cons (dp_ex (Ex.new hp2) (dp_newT upd_same (.cons (.str _) (.cons (.str _) .nil)))) .nil))
      refine dq_ifF (et_is (eq (j := 6)) (decide_eq_false c4)) fun H5 e5 => ?_
      have S5 := S4.ex e5
      have b5 := b4.trans (Bt.ex e5)
      -- params = tuple([_law_kind(..) for k in range(_law_take(tape, 3))])
      refine eb_take S5 (m := 3) (ea_cons (ev_var (i := 0) rfl) (ea_cons ev_c ea_nil)) (by omega) (by omega) _ fun v H6 b6 S6 ⟨j, hj, e⟩ => ?_
      subst e
      refine ⟨(j : Int), rfl, by omega, by omega, fun L hL => ?_⟩
      have tL : L ≠ t := fun e => by
        subst e
        obtain ⟨i, l, sd, x, Tt⟩ := S6.tp
        rw [Tt.d] at hL
        cases hL
      have hN : Sd K t nm c cs (upd H6 L (.lst [])) := S6.ex (Ex.new hL)
      refine lc_range (lo := 0) (n := j) (fun i H' => Bt t H6 H' ∧ Sd K t nm c cs H' ∧ ∃ acc ks, H' L = some (.lst acc) ∧ DpAll K H' acc (Kd.dAll ks) ∧ ks.length = i ∧ ∀ k ∈ ks, Dr de k)
        ⟨Bt.ex (Ex.new hL), hN, [], [], upd_same, .nil, rfl, fun k hk => by cases hk⟩ ?_ ?_
      · rintro i H' hi ⟨bt, SS, acc, ks, hacc, hda, hkl, hks⟩
        show wipe ((wipe [some (V.ref t), some (.ref nm), some (.int ((de + 1 : Nat) : Int)), some (.int d), none, none] [5]).set 5 (some (.int (0 + (i : Int))))) [5] = wipe [some (V.ref t), some (.ref nm), some (.int ((de + 1 : Nat) : Int)), some (.int d), none, none] [5] ∧ _
        refine ⟨rfl, ?_⟩
        refine eb_kind (deep := de) (σ := [some (.ref t), some (.ref nm), some (.int ((de + 1 : Nat) : Int)), some (.int d), none, some (.int (0 + (i : Int)))]) SS args (by omega) _ fun v H7 b7 S7 ⟨k, hk, kv⟩ => ?_
        have h7 : H7 L = some (.lst acc) := b7 _ _ tL hacc
        have al : acc.length = i := by rw [dpa_len hda, dAll_map, List.length_map, hkl]
        have btU : Bt L H7 (upd H7 L (.lst (acc ++ [v]))) := fun b o nb hb => by rw [upd_ne nb]; exact hb
        have off : OffT (H7 L) := by rw [h7]; exact offT_lst
        have b8 : Bt t H6 (upd H7 L (.lst (acc ++ [v]))) := fun b o nb hb => by
          rw [upd_ne (ne_of_none hb hL)]
          exact b7 _ _ nb (bt _ _ nb hb)
        obtain ⟨i', l', s', x', T7⟩ := S7.tp
        have T8 : TapeAt K (upd H7 L (.lst (acc ++ [v]))) t c cs := ⟨i', l', s', x', by rw [upd_ne (Ne.symm tL)]; exact T7.d, by obtain ⟨_, _, _, _, T6⟩ := id S6.tp; exact bt_l S6.tp.off b8 T6.c, T7.l0, T7.cs0⟩
        refine ⟨acc, h7, sz_lt (by omega), b8, S6.bt b8 T8, acc ++ [v], ks ++ [k], upd_same, ?_, by rw [List.length_append, hkl]; rfl, fun k' hk' => ?_⟩
        · rw [dAll_map, List.map_append, ← dAll_map]
          exact dpa_append (dpa_btT off btU (noLs_kd ks) (dpa_bt SS.tp.off b7 hda)) (.cons (dp_btT off btU (noL_kd k) kv) .nil)
        · rcases List.mem_append.mp hk' with h | h
          · exact hks k' h
          · have : k' = k := by simpa using h
            rw [this]
            exact hk
      · rintro H7 ⟨bt, S7, acc, ks, hacc, hda, hkl, hks⟩
        have b7 := b5.trans (b6.trans bt)
        refine ⟨L, acc, rfl, .inl ⟨sq_of hacc, fun p hp => ?_⟩⟩
        have S8 := S7.ex (Ex.new (o := .tup acc) hp)
        have b8 := b7.trans (Bt.ex (Ex.new (o := .tup acc) hp))
        have kp : Dp K (upd H7 p (.tup acc)) (.ref p) (.tuple (Kd.dAll ks)) := dp_newT upd_same (dpa_ex (Ex.new hp) hda)
        generalize upd H7 p (.tup acc) = H8 at S8 b8 kp
        have fin : ∀ r v H9, Bt t H8 H9 → Sd K t nm c cs H9 → (r = .void ∨ Dr de r) → Dp K H9 v r.d → tTup (tCons (tC (.str "func")) (tCons (tC (.ref p)) (tCons (tC v) tNil))) [] H9 Q := fun r v H9 b9 S9 hr kv => ⟨sz_of (by show 3 ≤ 100000; omega), fun p2 hp2 =>
          q (.ref p2) (.fn ks r) _ ((b8.trans b9).trans (Bt.ex (Ex.new hp2))) (S9.ex (Ex.new hp2)) (Dr.fn hks (by omega) hr) (dp_newT upd_same (.cons (.str _) (.cons (dp_ex (Ex.new hp2) (S8.dp b9 kp)) (.cons (dp_ex (Ex.new hp2) kv) .nil))))⟩
        refine ⟨.ref p, rfl, ?_⟩
        by_cases c7 : d = 7
        · refine (eq (j := 7) (o4 := some (.ref p)) (o5 := none)) H8 (Ex.refl _) _ fun H9 e9 => ?_
          rw [decide_eq_true c7]
          exact fin .void (.str "void") H9 (Bt.ex e9) (S8.ex e9) (.inl rfl) (.str _)
        · refine (eq (j := 7) (o4 := some (.ref p)) (o5 := none)) H8 (Ex.refl _) _ fun H9 e9 => ?_
          rw [decide_eq_false c7]
          refine eb_kind (deep := de) (S8.ex e9) args (by omega) _ fun v H10 b10 S10 ⟨k, hk, kv⟩ => ?_
          exact fin k v H10 ((Bt.ex e9).trans b10) S10 (.inr hk) kv
end
end K01

set_option maxRecDepth 100000
set_option maxHeartbeats 4000000
/-! sorted(set(xs)), xs texts no two alike. -/
namespace SetTx
open PySem PySem.Spec PyProof.Rows L2 PySem.Froz
/-- rising places, a led order -/
def Rl (w : World) (t : SetTable) : Prop := Ris t.place.toList ∧ (w.params.followText "set-order" = true ∨ t.led = true)
theorem rl_tail {w : World} {ep : Nat} {es : Array (Int × Value)} {t : SetTable} {b : Bool} (h : Rl w t) : Rl w (tailTx ep es t b).2.2 := by
  unfold tailTx
  split
  · exact ⟨relayAll_ris _ _ _, h.2.imp id fun z => by rw [relayAll_led]; exact z⟩
  · exact h
theorem rl_add {w : World} {k : Int} {v : Value} {D : SD} (h : Rl w D.2.2) : Rl w (addTx k v D).2.2 := by
  unfold addTx
  refine rl_tail ?_
  have h1 := layNew_ris D.2.2 D.1 k v h.1
  have h2 := layNew_led D.2.2 D.1 k v
  have h3 : w.params.followText "set-order" = true ∨ (layNew D.2.2 D.1 k v).2.1.led = true := h.2.imp id fun z => by rw [h2]; exact z
  split
  · exact ⟨h1, h3⟩
  · exact ⟨h1, h3⟩
/-- the set of the texts l stands at a -/
def SetTR (P : Program) (w : World) (h : Heap) (a : Addr) (l : List Str) : Prop := ∃ D : SD, h.get? a = some (sObj "set" D) ∧ TxOk P w D l ∧ Rl w D.2.2
section
variable {prog : Program} {w : World} {A : Around} {R : Result → Shared → Prop} {I : Addr} {fp wr : List Addr} {G : Array GenState → Array GenState → Prop} {n : Nat} {P : Nat → Value → Prop} {St : Nat → Shared → Prop}
theorem loopTx (W : WalksS prog w A.in1 I fp wr G n P St) (S : Addr) (hSf : S ∉ fp) (xs : List Str) (hsz : xs.length = n) (hn1 : n ≤ 60) (hnd : xs.Nodup)
    (hval : ∀ i v, P i v → ∃ t, v = .str (xs.getD i Str.empty) t) :
    ∀ (k i : Nat) (s : Shared), n - i = k → i ≤ n → St i s → SetTR prog w s.heap S (xs.take i).reverse →
      (∀ s', Moved (S :: wr) G s s' → SetTR prog w s'.heap S xs.reverse → R (.ok (.ret .none)) s') →
      codeAny (model prog w) A (.builtin "set.update.loop" ⟨[.ref S, .ref I], []⟩) R s := by
  have hSw : S ∉ wr := fun h => hSf (W.sub _ h)
  have hsub : ∀ b ∈ wr, b ∈ S :: wr := fun b hb => List.mem_cons_of_mem _ hb
  intro k
  induction k with
  | zero =>
    intro i s hk hi hst hS hR
    have hin : i = n := by omega
    subst hin
    refine codeAny_builtin PyProof.Rows.F.entry_set_update_loop ?_
    rw [Around.under_plainId PyProof.Rows.F.plain_set_update_loop _]
    show wpAny _ A.in1 (pyNext (.ref I) >>= _) _ _ s
    refine wpAny_bind (W.done s _ _ hst fun s' hm => ?_)
    show wpAny _ A.in1 (ret Value.none) _ _ s'
    exact wpAny_pure (hR s' (hm.mono hsub) (by
      obtain ⟨D, ho, rest⟩ := hS
      rw [List.take_of_length_le (by omega)] at rest
      exact ⟨D, hm.heap S _ hSw ho, rest⟩))
  | succ k ih =>
    intro i s hk hi hst hS hR
    have hlt : i < n := by omega
    refine codeAny_builtin PyProof.Rows.F.entry_set_update_loop ?_
    rw [Around.under_plainId PyProof.Rows.F.plain_set_update_loop _]
    show wpAny _ A.in1 (pyNext (.ref I) >>= _) _ _ s
    refine wpAny_bind (W.item i s _ _ hlt hst fun v s' hP hst' hm => ?_)
    obtain ⟨t, rfl⟩ := hval i v hP
    have hix : i < xs.length := by omega
    have hget : xs.getD i Str.empty = xs[i] := by rw [List.getD_eq_getElem?_getD, List.getElem?_eq_getElem hix]; rfl
    rw [hget]
    obtain ⟨D, hD, F, rl⟩ := hS
    have hD' : s'.heap.get? S = some (sObj "set" D) := hm.heap S _ hSw hD
    show wpAny _ A.in1 (holding [Value.str xs[i] t] (setAdd S (.str xs[i] t)) >>= _) _ _ s'
    refine wpAny_bind (wpAny_holding ?_)
    unfold setAdd
    refine wpAny_holding ?_
    refine wpAny_bind ((PySem.strKind prog w).pyHash (k := xs[i]) (strKind_is _ _ _ _) ?_)
    have hnot : xs[i] ∉ (xs.take i).reverse := fun h => by
      rw [List.mem_reverse] at h
      obtain ⟨j, hj, e⟩ := List.mem_take_iff_getElem.mp h
      exact List.pairwise_iff_getElem.mp hnd j i (by omega) hix (by omega) e
    refine add_x (s := { s' with toks := s'.toks + 1 }) (u := t) (k := xs[i]) hD' F hnot (by rw [List.length_reverse, List.length_take]; unfold scanBound; omega) ?_
    have F2 : TxOk prog w (addTx (hashStr w xs[i]) (.str xs[i] t) D) (xs.take (i + 1)).reverse := by
      have e : (xs.take (i + 1)).reverse = xs[i] :: (xs.take i).reverse := by
        rw [List.take_add_one, List.getElem?_eq_getElem hix]
        simp
      rw [e]
      exact add_ok t F
    have rl2 : Rl w (addTx (hashStr w xs[i]) (.str xs[i] t) D).2.2 := rl_add rl
    have hsb : ∀ b, b ≠ S → (s'.heap.update S (fun _ => sObj "set" (addTx (hashStr w xs[i]) (.str xs[i] t) D))).get? b = s'.heap.get? b := fun b hb => Heap.get?_update_other _ _ (fun e => hb e.symm)
    refine wpAny_pure ⟨plainId_quiet PyProof.Rows.F.plain_set_update_loop _, ih (i + 1) _ (by omega) hlt (W.frame _ s' _ _ hst' (Nat.le_succ _) fun b hb o e => ?_) ⟨_, get_upd _ hD' rfl, F2, rl2⟩ fun s'' hm'' hS'' => ?_⟩
    · rw [hsb b (fun h : b = S => hSf (by rw [← h]; exact hb))]; exact e
    · refine hR s'' (Moved.trans W.gtrans ((hm.mono hsub).then_heap (Nat.le_succ _) fun b o hb e => ?_) hm'') hS''
      rw [hsb b (fun h : b = S => hb (by rw [h]; exact List.mem_cons_self))]; exact e
end
section
variable {prog : Program} {w : World} {A : Around} {E : Value → Shared → Prop} {s : Shared}
set_option maxHeartbeats 6400000 in
theorem call_set_tx {l : Addr} {items : Array Value} {xs : List Str} {Q : Value → Shared → Prop}
    (hh : A.handled = none) (hl : s.heap.IsList l items) (hi : PyProof.Rows.StrsAre items.toList xs) (hn1 : xs.length ≤ 60) (hnd : xs.Nodup)
    (h : ∀ (h' : Heap) (tk : Nat), SetTR prog w h' s.heap.objs.size xs.reverse →
      (∀ b o, b < s.heap.objs.size → s.heap.get? b = some o → h'.get? b = some o) → Q (.ref s.heap.objs.size) { s with heap := h', toks := tk }) :
    wpAny (model prog w) A (call (.type "set") [.ref l]) Q E s := by
  obtain ⟨c, tl, hmro⟩ := PySem.F.called_set.mro
  have hmade := PySem.F.called_set.made
  have hsub := PySem.F.called_set.sub
  refine wpAny_call (codeAny_of_tree ?_)
  show wpAny _ _ (callAny (.type "set") _) _ _ _
  refine wpAny_pure ⟨Code.quiet_builtin _ (by decide +kernel), codeAny_builtin PySem.F.entry_type_call ?_⟩
  rw [Around.under_plain (weight_type_call_type "set" [.ref l] []) rfl]
  have h1 := PySem.F.called_set.notType
  have h2 := PySem.F.called_set.canCreate
  have hct := PySem.F.typeCall_set_1 (.ref l)
  repeat (any_goals (first | assumption | wp_step))

  refine codeAny_mono (code_set_led1 (.ref l) (E := E) (Q₁ := fun obj s₁ => obj = .ref s.heap.objs.size ∧ s₁ = { s with heap := s.heap.push { cls := .type "set", dict := none, data := .set #[] 0 (.fresh 0 0 (!w.params.followText "set-order")) } }) ⟨rfl, rfl⟩) fun r s₁ hr => ?_
  cases r with
  | error e => exact hr
  | ok fl =>
    cases fl with
    | ret obj =>
      obtain ⟨rfl, rfl⟩ := hr
      have hled : w.params.followText "set-order" = true ∨ (!w.params.followText "set-order") = true := by
        cases w.params.followText "set-order"
        · exact .inr rfl
        · exact .inl rfl
      generalize (!w.params.followText "set-order") = led at hled
      have hS : (s.heap.push { cls := .type "set", dict := none, data := .set #[] 0 (.fresh 0 0 led) }).get? s.heap.objs.size = some { cls := .type "set", dict := none, data := .set #[] 0 (.fresh 0 0 led) } := Heap.get?_push_size _ rfl
      have hT : Shared.TypeIs { s with heap := s.heap.push { cls := .type "set", dict := none, data := .set #[] 0 (.fresh 0 0 led) } } (.ref s.heap.objs.size) "set" := ⟨_, hS, rfl⟩
      have hli := PySem.F.called_set.init.lookup
      have hbi := PySem.F.called_set.init.bind (.ref s.heap.objs.size)
      repeat (any_goals (first | assumption | wp_step))

      refine codeAny_mono (codeAny_call_builtin (R := wants (fun r s₂ => r = .none ∧ ∃ h' tk, s₂ = { s with heap := h', toks := tk } ∧
          SetTR prog w h' s.heap.objs.size xs.reverse ∧
          (∀ b o, b < s.heap.objs.size → s.heap.get? b = some o → h'.get? b = some o)) E) PySem.F.called_set.init.plain PySem.F.entry_set_init (check_set_init_1 hT ?_)) fun r₂ s₂ hr₂ => ?_
      · obtain ⟨ol, hol, hcl, nl, hdl⟩ := hl
        obtain ⟨ocls, odict, odata, oslots⟩ := ol
        simp only at hcl hdl
        subst hcl; subst hdl
        have hol' : (s.heap.push { cls := .type "set", dict := none, data := .set #[] 0 (.fresh 0 0 led) }).get? l = some { cls := .type "list", dict := odict, data := .seq items nl, slots := oslots } := Heap.get?_push_of_some _ hol
        have hsls := PySem.F.sub_list_set
        have hslf := PySem.F.sub_list_frozenset
        have hne : (Value.type "list" == Value.type "dict") = false := by decide
        have hl1 : (s.heap.push { cls := .type "set", dict := none, data := .set #[] 0 (.fresh 0 0 led) }).IsList l items := ⟨_, hol', rfl, nl, rfl⟩
        unfold Builtin.«set.__init__» noKeywords Builtin.Frozenset.updateFrom
        generalize hPI : pyIter = PI
        wp_walk
        subst hPI

        refine wpAny_pyIter_list hl1 ?_
        refine wpAny_bind (wpAny_runValue ?_)
        have hlS : l < s.heap.objs.size := Heap.lt_size hol
        have hh3 : A.in1.in1.in1.handled = none := by simp [hh]
        have hneI : l ≠ (s.heap.push { cls := .type "set", dict := none, data := .set #[] 0 (.fresh 0 0 led) }).objs.size := by
          rw [Heap.size_push]; exact Nat.ne_of_lt (Nat.lt_succ_of_lt hlS)
        have hSf : s.heap.objs.size ∉ [(s.heap.push { cls := .type "set", dict := none, data := .set #[] 0 (.fresh 0 0 led) }).objs.size, l] := by
          rw [Heap.size_push]; simp only [List.mem_cons, List.mem_singleton, List.not_mem_nil, or_false, not_or]
          exact ⟨Nat.ne_of_lt (Nat.lt_succ_self _), Nat.ne_of_gt hlS⟩
        have hsz : xs.length = items.size := by rw [← StrsAre.len_eq hi, Array.length_toList]
        have hval : ∀ (i : Nat) (v : Value), items[i]? = some v → ∃ t, v = .str (xs.getD i Str.empty) t := fun i v hv => SS.strs_at hi i v (by rw [Array.getElem?_toList]; exact hv)
        refine loopTx ((Walks.list hh3 _ l hneI items).toS) s.heap.objs.size
          hSf xs hsz (by rw [← hsz]; exact hn1) hnd hval (items.size - 0) 0 _ (by omega) (Nat.zero_le _)
          ⟨⟨_, Heap.get?_push_size _ rfl, rfl, rfl⟩, (hl1.push _)⟩ ?hS0 ?hR
        case hS0 =>
          have hget : ((s.heap.push { cls := .type "set", dict := none, data := .set #[] 0 (.fresh 0 0 led) }).push { cls := .type "list_iterator", data := .fields #[.ref l, .int 0 0] }).get? s.heap.objs.size
              = some { cls := .type "set", dict := none, data := .set #[] 0 (.fresh 0 0 led) } := Heap.get?_push_of_some _ hS
          exact ⟨(#[], 0, .fresh 0 0 led), hget, TxOk.nil rfl, List.Pairwise.nil, hled⟩
        case hR =>
          intro s' hm hS'
          obtain ⟨h', g', d', tk', os'⟩ := s'
          have eg : g' = s.gens := hm.gens
          have ed : d' = s.drawn := hm.drawn
          have eo : os' = s.os := hm.os
          subst eg; subst ed; subst eo
          show wpAny _ _ _ _ _ _
          refine wpAny_pure ?_
          show wpAny _ _ (ret Value.none) _ _ _
          refine wpAny_pure ⟨rfl, h', tk', rfl, hS', fun b o hb e => ?_⟩
          have hb1 : b ≠ s.heap.objs.size := Nat.ne_of_lt hb
          have hb2 : b ≠ (s.heap.push { cls := .type "set", dict := none, data := .set #[] 0 (.fresh 0 0 led) }).objs.size := by
            rw [Heap.size_push]; exact Nat.ne_of_lt (Nat.lt_succ_of_lt hb)
          exact hm.heap b o (by simp only [List.mem_cons, List.mem_singleton, List.not_mem_nil, or_false, not_or]; exact ⟨hb1, hb2⟩) (Heap.get?_push_of_some _ (Heap.get?_push_of_some _ e))

      · cases r₂ with
        | error e => exact hr₂
        | ok fl₂ =>
          cases fl₂ with
          | ret r =>
            obtain ⟨rfl, h', tk, rfl, hS', hk'⟩ := hr₂
            repeat (any_goals (first | assumption | wp_step))
            exact h _ _ hS' hk'
          | _ => exact hr₂.elim
    | _ => exact hr.elim
/-- what stands in it -/
theorem perm_of : ∀ (l ys : List Str), l.Nodup → (∀ k ∈ l, k ∈ ys) → ys.length = l.length → ys.Perm l
  | [], ys, _, _, h => by
    have : ys = [] := List.eq_nil_of_length_eq_zero h
    subst this
    exact .nil
  | k :: l, ys, hn, hm, h => by
    obtain ⟨pre, post, rfl⟩ := List.append_of_mem (hm k List.mem_cons_self)
    have hn' := List.nodup_cons.mp hn
    refine (List.perm_middle).trans (.cons k (perm_of l (pre ++ post) hn'.2 (fun z hz => ?_) (by simp at h ⊢; omega)))
    have hz' := hm z (List.mem_cons_of_mem _ hz)
    have ne : z ≠ k := fun e => hn'.1 (e ▸ hz)
    rcases List.mem_append.mp hz' with q | q
    · exact List.mem_append_left _ q
    · rcases List.mem_cons.mp q with q | q
      · exact absurd q ne
      · exact List.mem_append_right _ q
theorem txs_of {es : Array (Int × Value)} {ep : Nat} {t : SetTable} {l : List Str} (F : TxOk prog w (es, ep, t) l) (hnd : l.Nodup) : (∀ v ∈ es.toList.map (·.2), ∃ x t, v = .str x t) ∧ ((es.toList.map (·.2)).map PyProof.Rows.strOf).Perm l := by
  have sh : ∀ e ∈ es.toList, ∃ x t, e.2 = .str x t := fun e he => by
    obtain ⟨⟨k, hk, _⟩, _⟩ := F.el e he
    obtain ⟨t, h⟩ := Value.isStrOf_shape hk
    exact ⟨k, t, h⟩
  refine ⟨fun v hv => ?_, perm_of l _ hnd (fun k hk => ?_) (by rw [List.length_map, List.length_map, Array.length_toList]; exact F.sz)⟩
  · obtain ⟨e, he, rfl⟩ := List.mem_map.mp hv
    exact sh e he
  · obtain ⟨e, he, hz⟩ := (F.mem k).mp hk
    obtain ⟨t, h⟩ := Value.isStrOf_shape hz
    exact List.mem_map.mpr ⟨e.2, List.mem_map.mpr ⟨e, he, rfl⟩, by rw [h] <;> rfl⟩
theorem sorted_tx {a : Addr} {l : List Str} {Q : Value → Shared → Prop} (R : SetTR prog w s.heap a l) (hnd : l.Nodup) (hh : A.handled = none) (h64 : l.length < 64)
    (hQ : ∀ s' p (out : Array Value) (c : Nat) (ys : List Str), (∀ b o, s.heap.get? b = some o → s'.heap.get? b = some o) → s'.gens = s.gens → s'.os = s.os → s.heap.objs.size ≤ p →
      s'.heap.get? p = some (seqObj "list" out c) → StrsAre out.toList ys → ys.Perm l → sortedS ys = true → Q (.ref p) s') :
    wpAny (model prog w) A (call (.builtin "sorted") [.ref a]) Q E s := by
  obtain ⟨⟨es, ep, t⟩, ho, F, rl⟩ := R
  refine Calls.call_function_entry kind_sorted plain_sorted entry_sorted (args_sorted1 _) ?_
  unfold Builtin.«sorted»
  refine wpAny_bind (m := checkCount "sorted" 1 1 _) (wpAny_pure ?_)
  have hsz : es.size = l.length := F.sz
  refine wpAny_bind (collect_set (A := A.in1) hh ⟨_, ho, rfl, rfl⟩ F.fit (by show es.size < 4096; omega) rl.1 rl.2 fun s1 vs k1 hz g1 o1 pm => ?_)
  have hvl : vs.length = l.length := by rw [pm.length_eq, List.length_map, Array.length_toList]; exact hsz
  obtain ⟨hz1, hz2⟩ := txs_of F hnd
  have hI : StrsAre vs (vs.map PyProof.Rows.strOf) := strsAre_map vs fun v hv => hz1 v (pm.mem_iff.mp hv)
  have pk : (vs.map PyProof.Rows.strOf).Perm l := (pm.map _).trans hz2
  refine wpAny_bind (wpAny_newList ?_ (by rw [hvl, sizeLine_eq]; omega))
  have hoL : (s1.heap.push (seqObj "list" vs.toArray 0)).get? s1.heap.objs.size = some (seqObj "list" vs.toArray 0) := Heap.get?_push_size _ rfl
  refine wpAny_bind (wpAny_holding (wpAny_call_entry slot_list_sort ⟨_, hoL, rfl⟩ entry_list_sort (list_sort_treeK strKind_oneLt hoL hI.keysOf (fun v₁ v₂ rest e => keyKind_strs (by rw [← e]; exact hI)) (by rw [hvl]; exact h64) fun st' a1 a2 => ⟨_, rfl, ?_⟩) (args_list_sort _)))
  obtain ⟨ys, h1, h2, h3⟩ := sorted_out_str hI a1 a2
  obtain ⟨c, hc⟩ := sortedHeap_at (vs := vs) (out := (arrOf st').map (·.2)) hoL
  refine wpAny_pure ⟨_, rfl, hQ _ s1.heap.objs.size _ c ys (fun b u e => ?_) g1 o1 hz hc h1 (h2.trans pk) h3⟩
  have q := k1 b u e
  have hlt := Heap.lt_size q
  show (sortedHeap (s1.heap.push (seqObj "list" vs.toArray 0)) s1.heap.objs.size vs ((arrOf st').map (·.2))).get? b = some u
  rw [sortedHeap_old (Nat.ne_of_lt hlt) (by rw [size_push']; exact Nat.lt_succ_of_lt hlt)]
  exact Heap.get?_push_of_some _ q
end
/-- the set of texts at a -/
def SetTxO (P : Program) (w : World) (a : Addr) (l : List Str) : HO := .ext fun h => SetTR P w h a l
theorem setTx_new {P : Program} {w : World} {H : Hp} {h : Heap} {a : Addr} {l : List Str} (R : SetTR P w h a l) : ObjOk P w H h a (SetTxO P w a l) := by
  have ⟨D, ho, r⟩ := R
  refine ⟨R, ⟨_, ho⟩, fun h1 h2 p k => ?_⟩
  have ⟨D', ho', r'⟩ : SetTR P w h1 a l := p
  exact ⟨D', k _ ho', r'⟩
section
variable {X : Cx}
/-- set(xs), xs a list of texts, no two alike -/
def rSetTx (K : PySem.W.Frag) (P : Program) (w : World) : List V → Hp → VK → Prop := fun vs H Q => ∃ (l : Addr) (xs : List Str), vs = [V.ref l] ∧ SqL K H l (xs.map V.str) ∧ xs.length ≤ 60 ∧ xs.Nodup ∧ ∀ a, H a = none → Q (.ref a) (upd H a (SetTxO P w a xs.reverse))
theorem cr_setTx (hc : X.calm = true) : CallR X (.type "set") (rSetTx X.K X.prog X.w) := by
  intro pins s σ H vs us Q I r h
  obtain ⟨l, xs, rfl, hl, hn, hnd, q⟩ := h
  rw [Vals.ref1 r]
  obtain ⟨its, rv, pl, hz⟩ := I.list hl
  have hf : H s.heap.objs.size = none := I.hok.fresh (Nat.le_refl _)
  refine call_set_tx (prog := X.prog) (w := X.w) (I.ok.hd hc) pl.isList (by simpa using rv.strs) hn hnd fun h' tk R k => ?_
  exact ⟨.ref s.heap.objs.size, upd H s.heap.objs.size (SetTxO X.prog X.w s.heap.objs.size xs.reverse), I.laid (t' := tk) (fun b o e => k b o (Heap.lt_size e) e) (Nat.le_refl _) (setTx_new R), rfl, q _ hf⟩
/-- sorted(set) -/
def rSortedTx (P : Program) (w : World) : List V → Hp → VK → Prop := fun vs H Q => ∃ (a : Addr) (l : List Str), vs = [V.ref a] ∧ H a = some (SetTxO P w a l) ∧ l.Nodup ∧ l.length < 64 ∧
  ∀ (ys : List Str) (p : Addr), ys.Perm l → sortedS ys = true → H p = none → Q (.ref p) (upd H p (.lst (ys.map V.str)))
theorem cr_sortedTx (hc : X.calm = true) : CallR X (.builtin "sorted") (rSortedTx X.prog X.w) := by
  intro pins s σ H vs us Q I r h
  obtain ⟨a, l, rfl, ha, hnd, h64, q⟩ := h
  have R : SetTR X.prog X.w s.heap a l := (I.hok a _ ha).1
  rw [Vals.ref1 r]
  refine sorted_tx R hnd (I.ok.hd hc) h64 fun s' p out c ys k g o hp hg hi pm hs => ?_
  have hlen : (ys.map V.str).length ≤ sizeLine := by rw [List.length_map, pm.length_eq, sizeLine_eq]; omega
  have hn : H p = none := I.hok.fresh hp
  have J : Inv X pins σ (upd H p (.lst (ys.map V.str))) { s with heap := s'.heap, gens := s'.gens, drawn := s'.drawn, toks := s'.toks } :=
    I.call (ch := []) (Un.laid k hp hn) (I.hok.laid k hp ⟨hlen, out.toList, c, vals_of_strs hi, hg⟩) (by rw [g]; exact I.bare) (fun _ z => nomatch z)
  have e : s' = { s with heap := s'.heap, gens := s'.gens, drawn := s'.drawn, toks := s'.toks } := by
    cases s'
    cases s
    cases o
    rfl
  rw [e]
  exact ⟨.ref p, _, J, rfl, q ys p pm hs hn⟩
end
end SetTx

set_option maxRecDepth 100000
set_option maxHeartbeats 4000000
/-! law_k01: the tree of the drawn parents; what the law's loops need. -/
namespace K01
open PySem PySem.Spec PyProof.Rows L2 Evl Dat TL
def dom6 : List Str := obj :: nms
def parOf (ps : List Str) (s : Str) : Option Str := ((nms.zip ps).find? fun q => q.1 == s).map (·.2)
def rkOf (s : Str) : Nat := if s = obj then 0 else nms.idxOf s + 1
def kvsOf (ps : List Str) : List (Key × V) := (.inr obj, .non) :: (nms.zip ps).map fun q => (.inr q.1, .str q.2)
def goodP (ps : List Str) : Prop := ∀ j p, ps[j]? = some p → p ∈ obj :: nms.take j
def allPs : List (List Str) := [obj].flatMap fun a => (obj :: nms.take 1).flatMap fun b => (obj :: nms.take 2).flatMap fun c => (obj :: nms.take 3).flatMap fun d => (obj :: nms.take 4).map fun e => [a, b, c, d, e]
theorem mem_allPs {ps : List Str} (hl : ps.length = 5) (h : goodP ps) : ps ∈ allPs := by
  match ps, hl with
  | [a, b, c, d, e], _ =>
    have ha := h 0 a rfl
    have hb := h 1 b rfl
    have hc := h 2 c rfl
    have hd := h 3 d rfl
    have he := h 4 e rfl
    unfold allPs
    exact List.mem_flatMap.mpr ⟨a, ha, List.mem_flatMap.mpr ⟨b, hb, List.mem_flatMap.mpr ⟨c, hc, List.mem_flatMap.mpr ⟨d, hd, List.mem_map.mpr ⟨e, he, rfl⟩⟩⟩⟩⟩
def checkP (ps : List Str) : Bool := dom6.all fun s => decide (parOf ps s = none ↔ s = obj) && match parOf ps s with
  | none => true
  | some p => decide (p ∈ dom6) && decide (rkOf p < rkOf s)
theorem all_checked : ∀ ps ∈ allPs, checkP ps = true := by decide +kernel
theorem rk_low : ∀ s ∈ dom6, rkOf s ≤ 1000 := by decide +kernel
def treeOf (ps : List Str) (hl : ps.length = 5) (h : goodP ps) : Tree :=
  have c : ∀ s ∈ dom6, (parOf ps s = none ↔ s = obj) ∧ ∀ p, parOf ps s = some p → p ∈ dom6 ∧ rkOf p < rkOf s := fun s hs => by
    have h1 := List.all_eq_true.mp (all_checked ps (mem_allPs hl h)) s hs
    obtain ⟨h2, h3⟩ := Bool.and_eq_true_iff.mp h1
    refine ⟨of_decide_eq_true h2, fun p hp => ?_⟩
    rw [hp] at h3
    obtain ⟨h4, h5⟩ := Bool.and_eq_true_iff.mp h3
    exact ⟨of_decide_eq_true h4, of_decide_eq_true h5⟩
  { dom := dom6, par := parOf ps, rk := rkOf, has := List.mem_cons_self, root := fun s hs => (c s hs).1, closed := fun s hs p hp => ((c s hs).2 p hp).1, falls := fun s hs p hp => ((c s hs).2 p hp).2 }
theorem obj_nms : ∀ s ∈ nms, ¬ obj = s := by decide +kernel
theorem val_zip (s : Str) : ∀ (ns ps : List Str), valV ((ns.zip ps).map fun q => ((.inr q.1 : Key), V.str q.2)) (.inr s) = (((ns.zip ps).find? fun q => q.1 == s).map (·.2)).map V.str
  | [], _ => rfl
  | n :: ns, [] => rfl
  | n :: ns, p :: ps => by
    show valV ((.inr n, .str p) :: (ns.zip ps).map fun q => ((.inr q.1 : Key), V.str q.2)) (.inr s) = ((((n, p) :: ns.zip ps).find? fun q => q.1 == s).map (·.2)).map V.str
    by_cases e : n = s
    · subst e
      rw [valV_pos rfl, List.find?_cons_of_pos (by simp)]
      rfl
    · rw [valV_neg (fun h => e (Sum.inr.inj h)), val_zip s ns ps, List.find?_cons_of_neg (by simpa using e)]
theorem pat_of (ps : List Str) (hl : ps.length = 5) (h : goodP ps) : PAt (treeOf ps hl h) (kvsOf ps) := by
  refine ⟨fun s hs => ?_, rk_low⟩
  show valV (kvsOf ps) (.inr s) = some (opV (parOf ps s))
  unfold kvsOf
  by_cases e : s = obj
  · subst e
    rw [valV_pos rfl]
    have : parOf ps obj = none := ((treeOf ps hl h).root obj hs).mpr rfl
    rw [this]
    rfl
  · rw [valV_neg (fun z => e (Sum.inr.inj z).symm), val_zip]
    have hne : parOf ps s ≠ none := fun z => e (((treeOf ps hl h).root s hs).mp z)
    cases hp : parOf ps s with
    | none => exact absurd hp hne
    | some p =>
      unfold parOf at hp
      rw [hp]
      rfl
theorem kvs_put {ps : List Str} (hl : ps.length < 5) (p : Str) : putK (kvsOf ps) (.inr (nms[ps.length]'(by show _ < 5; omega))) (.str p) = kvsOf (ps ++ [p]) := by
  have hk : ∀ q ∈ kvsOf ps, q.1 ≠ .inr (nms[ps.length]'(by show _ < 5; omega)) := by
    intro q hq
    have ht : ∀ n (hn : n < nms.length), nms[n] ∉ obj :: nms.take n := by decide +kernel
    have hnot := ht ps.length (by show _ < 5; omega)
    intro e
    apply hnot
    unfold kvsOf at hq
    rcases List.mem_cons.mp hq with hq | hq
    · subst hq
      rw [← Sum.inr.inj e]
      exact List.mem_cons_self
    · obtain ⟨⟨a, b⟩, hz, rfl⟩ := List.mem_map.mp hq
      rw [← Sum.inr.inj e]
      obtain ⟨i, hi, ei⟩ := List.mem_iff_getElem.mp hz
      have hi' : i < nms.length ∧ i < ps.length := by rw [List.length_zip] at hi; omega
      have ea : nms[i]'hi'.1 = a := by have := congrArg Prod.fst ei; simpa using this
      refine List.mem_cons_of_mem _ (List.mem_take_iff_getElem.mpr ⟨i, by omega, ea⟩)
  rw [putK_new hk]
  match ps, hl with
  | [], _ => rfl
  | [a], _ => rfl
  | [a, b], _ => rfl
  | [a, b, c], _ => rfl
  | [a, b, c, d], _ => rfl
  | a :: b :: c :: d :: e :: r, hl => simp at hl; omega
/-! ### kinds -/
def Kd.hd0 : Kd → Str
  | .int => "i" | .void => "v" | .null => "n" | .unset => "u" | k => k.tag
theorem hd0_fresh (k : Kd) : (k.hd0 == "fresh") = k.isFresh := by cases k <;> simp only [Kd.hd0, Kd.isFresh, Kd.tag] <;> decide +kernel
theorem hd0_sh (k : Kd) : SeqAt.shaped (.str k.hd0) = true := by cases k <;> simp only [Kd.hd0, Kd.tag] <;> decide +kernel
theorem fresh_sh : SeqAt.shaped (.str ("fresh" : Str)) = true := by decide +kernel
section
variable {P : Program} {w : World} {K : PySem.W.Frag} {mg : Str → Option Value} {base : Heap} {σ : L2.St} {H H' : Hp} {v : V} {d : PyData} {ds es : List PyData} {ta tb tc te td ty tv : TE} {tr : TA} {t nm a : Addr} {Tr : Tree} {k1 k2 k : Kd} {kvs : List (Key × V)} {E : XK}
theorem ed_hd0 (h : EvD K te σ H k.d) : EvD K (tOp (rIx K) te (tC (.int 0))) σ H (.str k.hd0) := by
  cases k with
  | int => exact ed_ixS (s := "int") (c := 105) h ed_int (by decide +kernel) (by show atI (("int" : Str).cps.toList) 0 = some 105; decide +kernel)
  | void => exact ed_ixS (s := "void") (c := 118) h ed_int (by decide +kernel) (by show atI (("void" : Str).cps.toList) 0 = some 118; decide +kernel)
  | null => exact ed_ixS (s := "null") (c := 110) h ed_int (by decide +kernel) (by show atI (("null" : Str).cps.toList) 0 = some 110; decide +kernel)
  | unset => exact ed_ixS (s := "unset") (c := 117) h ed_int (by decide +kernel) (by show atI (("unset" : Str).cps.toList) 0 = some 117; decide +kernel)
  | _ => exact ed_ixT h ed_int at0
theorem ed_below {g : Kd → Kd → PyData} (h0 : Ev ta σ H (.ref a)) (hd : Rd H a (.dK kvs)) (PA : PAt Tr kvs) (h1 : EvD K tb σ H k1.d) (h2 : EvD K tc σ H k2.d) (A1 : Ask Tr k1) (A2 : Ask Tr k2) :
    EvD K (tCall (spBelow K Tr g) [] E (tCons ta (tCons tb (tCons tc tNil)))) σ H (g k1 k2) := fun H1 e1 Q q =>
  h0 H1 e1 _ fun H2 e2 => h1 H2 (e1.trans e2) _ fun v1 H3 e3 kv1 => h2 H3 ((e1.trans e2).trans e3) _ fun v2 H4 e4 kv2 =>
    ⟨a, v1, v2, k1, k2, kvs, rfl, ex_rd (((e1.trans e2).trans e3).trans e4) hd, PA, dp_ex e4 kv1, kv2, A1, A2, fun v H5 e5 kv => q v H5 (((e2.trans e3).trans e4).trans e5) kv⟩
/-- a new list of data -/
def EvNL (K : PySem.W.Frag) (te : TE) (σ : L2.St) (H : Hp) (ds : List PyData) : Prop := ∀ H1, Ex H H1 → ∀ Q : VK, (∀ p xs H2, H1 p = none → Ex H1 H2 → H2 p = some (.lst xs) → DpAll K H2 xs ds → Q (.ref p) H2) → te σ H1 Q
theorem EvNL.ed (h : EvNL K te σ H ds) : EvD K te σ H (.list ds) := fun H1 e1 Q q => h H1 e1 Q fun p xs H2 _ e2 h2 ks => q _ H2 e2 (dp_newL h2 ks)
theorem enl_lst (h : EvDA K tr σ H ds) (hl : ds.length ≤ 1000) : EvNL K (tLst tr) σ H ds := fun H1 e1 Q q =>
  h H1 e1 _ fun vs H2 e2 ks => ⟨sz_of (by rw [dpa_len ks]; omega), fun p hp => q p vs _ (fresh_back e2 hp) (e2.trans (Ex.new hp)) upd_same (dpa_ex (Ex.new hp) ks)⟩
theorem enl_cat {l : Addr} {xs : List V} (hl : H l = some (.lst xs)) (ks : DpAll K H xs ds) (ha : Ev ta σ H (.ref l)) (hb : EvNL K tb σ H es) (hz : ds.length + es.length ≤ 1000) : EvNL K (tOp rCat ta tb) σ H (ds ++ es) := fun H1 e1 Q q =>
  ha H1 e1 _ fun H2 e2 => hb H2 (e1.trans e2) _ fun p ys H3 hp e3 h3 kys => by
    have ex := (e1.trans e2).trans e3
    have ks3 := dpa_ex ex ks
    exact ⟨l, p, xs, ys, rfl, rfl, ex _ _ hl, h3, sz_of (by rw [dpa_len ks3, dpa_len kys]; omega), fun r hr => q r _ _ (fresh_back (e2.trans e3) hr) ((e2.trans e3).trans (Ex.new hr)) upd_same (dpa_ex (Ex.new hr) (dpa_append ks3 kys))⟩
theorem dpa_of : ∀ {vs : List V} {ds : List PyData}, vs.length = ds.length → (∀ (j : Nat) v d, vs[j]? = some v → ds[j]? = some d → Dp K H v d) → DpAll K H vs ds
  | [], [], _, _ => .nil
  | [], _ :: _, h, _ => by simp at h
  | _ :: _, [], h, _ => by simp at h
  | v :: vs, d :: ds, hl, h => .cons (h 0 v d rfl rfl) (dpa_of (by simpa using hl) fun j v' d' h1 h2 => h (j + 1) v' d' (by simpa using h1) (by simpa using h2))
/-- [('class', name) for name in parents] -/
theorem enl_keys {names : List Str} {i j : Nat} (h0 : σ[i]? = some (some (.ref a))) (hd : H a = some (.dK kvs)) (hk : kvs.map (·.1) = names.map fun n => (.inr n : Key)) (hl : names.length ≤ 1000) (hw : ∀ x, wipe ((wipe σ [j]).set j (some x)) [j] = wipe σ [j]) (hj : ∀ x, ((wipe σ [j]).set j (some x))[j]? = some (some x)) :
    EvNL K (tLockE (tLc (iKeys (tVar i)) (gName j) tYes (tTup (tCons (tC (.str "class")) (tCons (tVar j) tNil))) [j])) σ H (names.map fun n => Kd.d (.cls n)) := fun H1 e1 Q q => by
  have hd1 := e1 _ _ hd
  have kl : kvs.length = names.length := by have := congrArg List.length hk; simpa using this
  refine ⟨a, _, hd1, True.intro, fun od => ?_⟩
  refine ⟨.ref a, h0, a, od, rfl, .inl ⟨kvs, upd_same, fun D hD => ?_⟩⟩
  have nDa : D ≠ a := fun e => by rw [e, upd_same] at hD; cases hD
  have hD1 : H1 D = none := by rw [upd_ne nDa] at hD; exact hD
  refine lc_it walk_keys (fun n H' => Bt a H1 H' ∧ H' a = some (.frz od (.dK kvs)) ∧ ∃ acc : List V, H' D = some (.lst acc) ∧ acc.length = n ∧ ∀ (m : Nat) v, acc[m]? = some v → ∃ p s, v = .ref p ∧ names[m]? = some s ∧ H' p = some (.tup [.str "class", .str s]))
    ⟨fun b o nb hb => by rw [upd_ne (ne_of_none hb hD1), upd_ne nb]; exact hb, by rw [upd_ne nDa.symm]; exact upd_same, [], upd_same, rfl, fun m v h => by simp at h⟩ (fun n H' _ pv => pv.2.1) ?_ ?_
  · rintro n x H' H'' hn ⟨bt, hf, acc, hacc, hal, hall⟩ ⟨rfl, k, v, hkv, rfl⟩
    obtain ⟨s, hs, rfl⟩ : ∃ s, names[n]? = some s ∧ k = .inr s := by
      have e := congrArg (fun l => l[n]?) hk
      simp only [List.getElem?_map, hkv] at e
      cases hs : names[n]? with
      | none => rw [hs] at e; cases e
      | some s => rw [hs] at e; exact ⟨s, rfl, Option.some.inj e⟩
    show wipe ((wipe σ [j]).set j (some (kV (.inr s)))) [j] = wipe σ [j] ∧ _
    refine ⟨hw _, ?_⟩
    unfold tYes
    simp only [if_true]
    refine ⟨.str s, hj _, sz_of (by show 2 ≤ 100000; omega), fun p hp => ?_⟩
    have npD : D ≠ p := fun e => by rw [e, hp] at hacc; cases hacc
    have npa : a ≠ p := fun e => by rw [e, hp] at hf; cases hf
    have h1 : upd H'' p (.tup [.str "class", .str s]) D = some (.lst acc) := by rw [upd_ne npD]; exact hacc
    refine ⟨acc, h1, sz_lt (by omega), fun b o nb hb => ?_, ?_, acc ++ [.ref p], upd_same, by rw [List.length_append, hal]; rfl, fun m v hm => ?_⟩
    · rw [upd_ne (ne_of_none hb hD1), upd_ne (ne_of_none (bt _ _ nb hb) hp)]
      exact bt _ _ nb hb
    · rw [upd_ne nDa.symm, upd_ne npa]
      exact hf
    · by_cases hm' : m < acc.length
      · rw [List.getElem?_append_left hm'] at hm
        obtain ⟨p', s', rfl, hs', hp'⟩ := hall m v hm
        have n1 : p' ≠ D := fun e => by rw [e, hacc] at hp'; cases hp'
        have n2 : p' ≠ p := fun e => by rw [e, hp] at hp'; cases hp'
        exact ⟨p', s', rfl, hs', by rw [upd_ne n1, upd_ne n2]; exact hp'⟩
      · have hlt := (List.getElem?_eq_some_iff.mp hm).1
        rw [List.length_append] at hlt
        have em : m = acc.length := by simp at hlt; omega
        subst em
        rw [List.getElem?_append_right (Nat.le_refl _), Nat.sub_self] at hm
        have ev : V.ref p = v := Option.some.inj hm
        exact ⟨p, s, ev.symm, by rw [hal]; exact hs, by rw [upd_ne npD.symm]; exact upd_same⟩
  · rintro H' ⟨bt, hf, acc, hacc, hal, hall⟩
    refine ⟨hf, ?_⟩
    refine q D acc _ hD1 (fun b o hb => ?_) (by rw [upd_ne nDa]; exact hacc) (dpa_of (by rw [hal, kl, List.length_map]) fun m v d' hm hd' => ?_)
    · by_cases e : b = a
      · subst e
        rw [hd1] at hb
        cases hb
        exact upd_same
      · rw [upd_ne e]
        exact bt _ _ e hb
    · obtain ⟨p, s, rfl, hs, hp⟩ := hall m v hm
      rw [List.getElem?_map, hs] at hd'
      cases hd'
      have npa : p ≠ a := fun e => by rw [e, hf] at hp; cases hp
      exact dp_newT (by rw [upd_ne npa]; exact hp) (.cons (.str _) (.cons (.str _) .nil))
end
/-! ### the kinds that are gone through -/
inductive GK : Kd → Prop
  | dr {k} (h : Dr 2 k) : GK k
  | null : GK .null
  | unset : GK .unset
  | fresh (i : Int) : GK (.fresh "A" i)
theorem ask_small {Tr : Tree} {k : Kd} (h1 : SeqAt.shaped k.d = true) (h2 : inT Tr k) (h3 : k ≠ .void) (h4 : k.d.depth ≤ 60) : Ask Tr k := ⟨h1, h2, h3, h4⟩
theorem GK.ask {k : Kd} {Tr : Tree} (h : GK k) (hT : ∀ x ∈ obj :: nms, x ∈ Tr.dom) : Ask Tr k := by
  cases h with
  | dr h => exact h.ask (by omega) hT
  | null => exact ⟨null_sh, True.intro, fun h => (by cases h), by decide +kernel⟩
  | unset => exact ⟨by decide +kernel, True.intro, fun h => (by cases h), by decide +kernel⟩
  | fresh i => 
    refine ⟨?_, True.intro, fun h => (by cases h), by show 1 ≤ 60; omega⟩
    unfold SeqAt.shaped
    simp [Kd.d, PyData.canLay0, PyData.canLayAll0, PyData.depth, PyData.depthAll]
    decide +kernel
theorem unset_ask {Tr : Tree} : Ask Tr .unset := ⟨by decide +kernel, True.intro, fun h => (by cases h), by decide +kernel⟩
theorem ob_ask {Tr : Tree} : Ask Tr Kd.ob := ⟨ob_sh, Tr.has, fun h => (by cases h), by decide +kernel⟩
theorem cls_ask {Tr : Tree} {x : Str} (hx : x ∈ Tr.dom) (h : PyData.strOk x = true) (hl : x.length ≤ 1000) : Ask Tr (.cls x) := by
  refine ⟨?_, hx, fun h => (by cases h), by show 1 ≤ 60; omega⟩
  unfold SeqAt.shaped
  have : x.length ≤ sizeLine := by rw [sizeLine_eq]; omega
  simp [Kd.d, PyData.canLay0, PyData.canLayAll0, PyData.depth, PyData.depthAll, h, this]
  try decide +kernel
theorem join_ask {Tr : Tree} {k1 k2 : Kd} (hd : Tr.dom = dom6) (h1 : Ask Tr k1) (h2 : Ask Tr k2) : Ask Tr (joinK Tr k1 k2) := by
  have hn : ∀ x ∈ dom6, PyData.strOk x = true ∧ x.length ≤ 1000 := by decide +kernel
  unfold joinK
  split
  · exact h1
  · split
    · exact unset_ask
    · split
      · exact h2
      · split
        · exact h1
        · split
          · rename_i x y _ _ _ _
            have hx : Tr.lca x y ∈ Tr.dom := ln_dom (show x ∈ Tr.dom from h1.inT) (lca_spec (show x ∈ Tr.dom from h1.inT) (show y ∈ Tr.dom from h2.inT)).1
            exact cls_ask hx (hn _ (hd ▸ hx)).1 (hn _ (hd ▸ hx)).2
          · exact ob_ask
end K01

set_option maxRecDepth 100000
set_option maxHeartbeats 4000000
/-! law_k01: readings for the law. -/
namespace K01
open PySem PySem.Spec PyProof.Rows L2 Evl Dat TL
theorem wrongs_refused3 : ∀ w ∈ wrongs, readType 3 (cs w) = some none := by decide +kernel
section
variable {P : Program} {w : World} {K : PySem.W.Frag} {mg : Str → Option Value} {base : Heap} {C fI cc oA : Addr} {tL tD : Tok} {F : NdefX.NF} {fdI : FuncData} {σ : L2.St} {H H' : Hp} {v : V} {d : PyData} {ds es : List PyData} {ta tb tc te td ty tv : TE} {tr : TA} {t nm a : Addr} {Tr : Tree} {k1 k2 k : Kd} {kvs : List (Key × V)} {E : XK}
theorem ed_neB {a b : Bool} (ha : EvD K ta σ H (.bool a)) (hb : EvD K tb σ H (.bool b)) : EvD K (tOp rNe ta tb) σ H (.bool (!decide (a = b))) := ed_op2 ha hb fun H1 x y _ kx ky Q q => by
  rw [dp_bool kx, dp_bool ky]
  refine ⟨rfl, q _ H1 (Ex.refl _) ?_⟩
  have e : decide (V.bl a = V.bl b) = decide (a = b) := by
    by_cases h : a = b
    · simp [h]
    · simp [h]
  rw [e]
  exact .bl _
theorem ed_notin {a b : Kd} (h : EvD K te σ H k.d) (sk : SeqAt.shaped k.d = true) (sab : SeqAt.shaped (.tuple [a.d, b.d]) = true) (ht : EvDA K tr σ H [a.d, b.d]) : EvD K (tOp (rInT K true) te (tTup tr)) σ H (.bool (!(decide (a = k) || decide (b = k)))) :=
  te_inT (ds := [a.d, b.d]) h (ed_tup ht (by show 2 ≤ 1000; omega)) sk sab (by
    rw [if_pos rfl, List.any_cons, List.any_cons, List.any_nil, Bool.or_false, eqv_kd, eqv_kd])
/-- read_type(text, row) of a written kind -/
theorem ed_read {Es : L2.St → XK} {i : Int} (hk : Dr 2 k) (h : EvD K te σ H (.str (S k.wr))) : EvD K (tCallS (spReadT K C 3) Es (tCons te (tCons (tC (.int i)) tNil))) σ H k.d := fun H1 e1 Q q =>
  (ea_cons (ev_edS h) (ea_cons ev_c ea_nil)) H1 e1 _ fun H2 e2 => ⟨S k.wr, i, some k, rfl, by rw [S_len]; have := hk.len; show k.wr.length ≤ 1000; have : Bd 2 = 70 := rfl; omega, hk.sgn, by omega, readType_wr hk.ok, fun k' e v H3 e3 kv => by
    cases e
    exact q v H3 (e2.trans e3) kv, fun e => by cases e⟩
theorem sh_list {ds : List PyData} (h : ∀ d ∈ ds, SeqAt.shaped d = true ∧ d.depth ≤ 60) (hl : ds.length ≤ 5000) : SeqAt.shaped (.list ds) = true := by
  have hz : ds.length ≤ sizeLine := sz_of (by omega)
  have go : ∀ es : List PyData, (∀ d ∈ es, SeqAt.shaped d = true ∧ d.depth ≤ 60) → PyData.canLayAll0 es = true ∧ PyData.depthAll es ≤ 60 := fun es => by
    induction es with
    | nil => exact fun _ => ⟨rfl, Nat.zero_le _⟩
    | cons d r ih =>
      intro h
      obtain ⟨h1, h2⟩ := ih fun d hd => h d (List.mem_cons_of_mem _ hd)
      obtain ⟨g1, g2⟩ := h d List.mem_cons_self
      have g1' := SeqAt.canLay_of_shaped g1
      simp [PyData.canLayAll0, PyData.depthAll, h1, g1']
      omega
  obtain ⟨h1, h2⟩ := go ds h
  unfold SeqAt.shaped
  simp [PyData.canLay0, PyData.depth, h1, hz]
  omega
theorem el_cat {xs ys : List V} (ha : EvL ta σ H xs) (hb : EvL tb σ H ys) (hz : xs.length + ys.length ≤ 100000) : EvL (tOp rCat ta tb) σ H (xs ++ ys) := fun H1 e1 Q q =>
  ha H1 e1 _ fun l H2 hl e2 h2 => hb H2 (e1.trans e2) _ fun p H3 hp e3 h3 => ⟨l, p, xs, ys, rfl, rfl, e3 _ _ h2, h3, sz_of hz, fun r hr => q r _ (fresh_back (e2.trans e3) hr) ((e2.trans e3).trans (Ex.new hr)) upd_same⟩
theorem cut_nms : ∀ i < 5, cutV (nms.map V.str) none (some ((i : Nat) : Int)) = (nms.take i).map V.str := by
  intro i hi
  match i, hi with
  | 0, _ => rfl
  | 1, _ => rfl
  | 2, _ => rfl
  | 3, _ => rfl
  | 4, _ => rfl
theorem q_parLK {D : Ends} {tz : TS} {i j : Nat} {xs : List V} (h1 : EvL ta σ H xs) (h2 : EvK tb σ H kvs) (k : ∀ p r H1, H p = none → H r = none → Ex H H1 → H1 p = some (.lst xs) → H1 r = some (.dK kvs) → tz D ((σ.set i (some (.ref p))).set j (some (.ref r))) H1) : tSeq (tPar i j (tCons ta (tCons tb tNil))) tz D σ H :=
  h1 H (Ex.refl H) _ fun p H1 hp e1 h => h2 H1 e1 _ fun r H2 hr e2 h' => ⟨_, _, rfl, k p r H2 hp (fresh_back e1 hr) (e1.trans e2) (e2 _ _ h) h'⟩
theorem eqv_strs : ∀ ss : List Str, PyData.eqvAll (ss.map PyData.str) (ss.map PyData.str) = true
  | [] => rfl
  | s :: r => by
    show (PyData.eqv (.str s) (.str s) && PyData.eqvAll (r.map PyData.str) (r.map PyData.str)) = true
    rw [eqv_strs r]
    simp [PyData.eqv]
theorem ab_sorted {ys : List Str} (h : ys.Perm ["B", "A"]) (hs : sortedS ys = true) : ys = [("A" : Str), "B"] := by
  have hl := h.length_eq
  match ys, hl with
  | [x, y], _ =>
    have hn : ([x, y] : List Str).Nodup := h.nodup_iff.mpr (by decide +kernel)
    have hx : x ∈ (["B", "A"] : List Str) := h.mem_iff.mp List.mem_cons_self
    have hy : y ∈ (["B", "A"] : List Str) := h.mem_iff.mp (List.mem_cons_of_mem _ List.mem_cons_self)
    have q : ∀ x ∈ (["B", "A"] : List Str), ∀ y ∈ (["B", "A"] : List Str), ([x, y] : List Str).Nodup → sortedS [x, y] = true → ([x, y] : List Str) = [("A" : Str), "B"] := by decide +kernel
    exact q x hx y hy hn hs
theorem fnEx {α : Type} {CX : CXT} {n : Nat} {f : Addr} {fd : FuncData} {ps : List Str} {sp : α → Sp} (F : ∀ x, FnOk P w K mg base CX n f fd ps (sp x)) : FnOk P w K mg base CX n f fd ps (fun vs H Q E => ∃ x, sp x vs H Q E) :=
  ⟨fun vs H Q E ⟨x, h⟩ => (F x).len vs H Q E h, fun A outer s H args us vs Q E hr he hb hv ⟨x, h⟩ => (F x).run A outer s H args us vs Q E hr he hb hv h⟩
def spBel (K : PySem.W.Frag) (g : Tree → Kd → Kd → PyData) : Sp := fun vs H Q E => ∃ Tr, spBelow K Tr (g Tr) vs H Q E
def spLn : Sp := fun vs H Q E => ∃ Tr, spLine Tr vs H Q E
theorem ed_bel {g : Tree → Kd → Kd → PyData} (h0 : Ev ta σ H (.ref a)) (hd : Rd H a (.dK kvs)) (PA : PAt Tr kvs) (h1 : EvD K tb σ H k1.d) (h2 : EvD K tc σ H k2.d) (A1 : Ask Tr k1) (A2 : Ask Tr k2) :
    EvD K (tCall (spBel K g) [] E (tCons ta (tCons tb (tCons tc tNil)))) σ H (g Tr k1 k2) := fun H1 e1 Q q =>
  h0 H1 e1 _ fun H2 e2 => h1 H2 (e1.trans e2) _ fun v1 H3 e3 kv1 => h2 H3 ((e1.trans e2).trans e3) _ fun v2 H4 e4 kv2 =>
    ⟨Tr, a, v1, v2, k1, k2, kvs, rfl, ex_rd (((e1.trans e2).trans e3).trans e4) hd, PA, dp_ex e4 kv1, kv2, A1, A2, fun v H5 e5 kv => q v H5 (((e2.trans e3).trans e4).trans e5) kv⟩
theorem ed_ln {n : Str} (h : EvA tr σ H [.ref a, .str n]) (hd : Rd H a (.dK kvs)) (PA : PAt Tr kvs) (hn : n ∈ Tr.dom) : EvD K (tCall spLn [] E tr) σ H (.list ((Tr.ln n).map PyData.str)) := fun H1 e1 Q q =>
  h H1 e1 _ fun H2 e2 => ⟨Tr, a, n, kvs, rfl, ex_rd (e1.trans e2) hd, PA, hn, fun p H3 hp e3 h3 => q _ H3 (e2.trans e3) (dp_newL h3 dpa_strs)⟩
def TB_law (K : PySem.W.Frag) (C : Addr) : WX → TS := fun W => tDrop (tCallS (spReadT K C 3) (WE W) (tCons (tVar 15) (tCons (tC (.int 7)) tNil)))
def TS_law (C : Addr) : Addr → Value → Option Addr → TS := fun a cls d => tAsg (tOp (rI0 fun i j => .int (i + j)) (tVar 13) (tIf (tAnd (tTest (tOp rEq (tXf a cls d C "row" (tVar 16)) (tC (.int 7)))) (tTest (tOp rEq (tXf a cls d C "word" (tVar 16)) (tC (.str "type"))))) (tC (.int 1)) (tC (.int 0)))) (gName 13)
end
end K01

set_option maxRecDepth 100000
set_option maxHeartbeats 8000000
/-! law_k01: the law's loops over pairs. -/
namespace K01
open PySem PySem.Spec PyProof.Rows L2 Evl Dat TL
def a3 (i j k : Nat) : TA := tCons (tVar i) (tCons (tVar j) (tCons (tVar k) tNil))
def tBel (K : PySem.W.Frag) (i j k : Nat) : TE := tCall (spBel K fun Tr a b => PyData.bool (below Tr a b)) [] E0 (a3 i j k)
def tJn (K : PySem.W.Frag) (i j k : Nat) : TE := tCall (spBel K fun Tr a b => (joinK Tr a b).d) [] E0 (a3 i j k)
def tNo : TS := tRet (tC (.bl false))
def tAll (K : PySem.W.Frag) : TE := tOp rCat (tVar 5) (tLockE (tLc (iKeys (tVar 3)) (gName 11) tYes (tTup (tCons (tC (.str "class")) (tCons (tVar 11) tNil))) [11]))
def t_inner (K : PySem.W.Frag) : TS :=
  tSeq (tIfS (tTest (tOp rNe (tBel K 3 6 7) (tBel K 3 6 7))) tNo tNext)
  (tSeq (tAsg (tJn K 3 6 7) (gName 8))
  (tSeq (tIfS (tTest (tOp (rNeD K) (tVar 8) (tJn K 3 7 6))) tNo tNext)
  (tSeq (tAsg (tLc (iList K (tAll K)) (gName 10) (tAnd (tB (tBel K 3 6 10)) (tB (tBel K 3 7 10))) (tVar 10) [10]) (gName 9))
    (tIfS (tTest (tOp (rEqD K) (tVar 8) (tC (.str "unset")))) (tIfS (tAnd (tTest (tOp (rNeD K) (tVar 9) (tLst tNil))) (tTest (tOp (rNeD K) (tVar 6) (tVar 7)))) tNo tNext)
      (tIfS (tOr (tNot (tB (tBel K 3 6 8))) (tOr (tNot (tB (tBel K 3 7 8))) (tB (tCB (rAny K) (tCons (tLc (iList K (tVar 9)) (gName 10) tYes (tNotV (tBel K 3 8 10)) [10]) tNil))))) tNo tNext)))))
/-- what stands through the loops -/
structure Lp (K : PySem.W.Frag) (Tr : Tree) (kvs : List (Key × V)) (pr L : Addr) (xs : List V) (ks : List Kd) (H : Hp) : Prop where
  pr : H pr = some (.dK kvs)
  pa : PAt Tr kvs
  dom : Tr.dom = dom6
  keys : kvs.map (·.1) = dom6.map fun n => (.inr n : Key)
  l : H L = some (.lst xs)
  vals : DpAll K H xs (ks.map Kd.d)
  gk : ∀ k ∈ ks, GK k
  len : ks.length ≤ 100
section
variable {P : Program} {w : World} {K : PySem.W.Frag} {mg : Str → Option Value} {base : Heap} {C fI cc oA : Addr} {tL tD : Tok} {F : NdefX.NF} {fdI : FuncData} {σ : L2.St} {H H' : Hp} {v v1 v2 : V} {d : PyData} {ds es : List PyData} {ta tb tc te td ty tv : TE} {tr : TA} {t nm a pr L : Addr} {xs : List V} {ks : List Kd} {Tr : Tree} {k1 k2 k : Kd} {kvs : List (Key × V)} {E : XK} {D : Ends} {A0 A1 A2 : V} {o4 o7 o8 o9 : Option V}
theorem Lp.ex (h : Lp K Tr kvs pr L xs ks H) (e : Ex H H') : Lp K Tr kvs pr L xs ks H' := ⟨e _ _ h.pr, h.pa, h.dom, h.keys, e _ _ h.l, dpa_ex e h.vals, h.gk, h.len⟩
theorem dom_ask (h : Tr.dom = dom6) : ∀ x ∈ obj :: nms, x ∈ Tr.dom := fun x hx => by rw [h]; exact hx
theorem Lp.ask (h : Lp K Tr kvs pr L xs ks H) (g : GK k) : Ask Tr k := g.ask (dom_ask h.dom)
theorem cls6_ask (h : Tr.dom = dom6) {n : Str} (hn : n ∈ dom6) : Ask Tr (.cls n) := by
  have q : ∀ x ∈ dom6, PyData.strOk x = true ∧ x.length ≤ 1000 := by decide +kernel
  exact cls_ask (h ▸ hn) (q n hn).1 (q n hn).2
/-- is_below(parents, a, b) among the slots -/
theorem ed_tBel (h : Lp K Tr kvs pr L xs ks H) {j k : Nat} {u1 u2 : V} (h0 : σ[3]? = some (some (.ref pr))) (h1 : σ[j]? = some (some u1)) (h2 : σ[k]? = some (some u2)) (d1 : Dp K H u1 k1.d) (d2 : Dp K H u2 k2.d) (A1 : Ask Tr k1) (A2 : Ask Tr k2) :
    EvD K (tBel K 3 j k) σ H (.bool (below Tr k1 k2)) := ed_bel (g := fun Tr a b => PyData.bool (below Tr a b)) (ev_var h0) (.inl h.pr) h.pa (ed_var h1 d1) (ed_var h2 d2) A1 A2
theorem ed_tJn (h : Lp K Tr kvs pr L xs ks H) {j k : Nat} {u1 u2 : V} (h0 : σ[3]? = some (some (.ref pr))) (h1 : σ[j]? = some (some u1)) (h2 : σ[k]? = some (some u2)) (d1 : Dp K H u1 k1.d) (d2 : Dp K H u2 k2.d) (A1 : Ask Tr k1) (A2 : Ask Tr k2) :
    EvD K (tJn K 3 j k) σ H (joinK Tr k1 k2).d := ed_bel (g := fun Tr a b => (joinK Tr a b).d) (ev_var h0) (.inl h.pr) h.pa (ed_var h1 d1) (ed_var h2 d2) A1 A2
def stI (A0 A1 A2 : V) (pr : Addr) (o4 : Option V) (L : Addr) (o6 o7 o8 o9 : Option V) : L2.St := [some A0, some A1, some A2, some (.ref pr), o4, some (.ref L), o6, o7, o8, o9, none, none, none, none, none, none, none]
theorem inner (h : Lp K Tr kvs pr L xs ks H) (d1 : Dp K H v1 k1.d) (d2 : Dp K H v2 k2.d) (g1 : GK k1) (g2 : GK k2)
    (q : ∀ o8 o9 H', Ex H H' → D.nx (stI A0 A1 A2 pr o4 L (some v1) (some v2) o8 o9) H') : t_inner K D (stI A0 A1 A2 pr o4 L (some v1) (some v2) o8 o9) H := by
  have a1 := h.ask g1
  have a2 := h.ask g2
  have aj := join_ask h.dom a1 a2
  refine dq_ifF (et_d (K := K) ((ed_neB (ed_tBel h rfl rfl rfl d1 d2 a1 a2) (ed_tBel h rfl rfl rfl d1 d2 a1 a2)).is (by rw [decide_eq_true rfl]; rfl))) fun H1 e1 => ?_
  have h1 := h.ex e1
  refine dq_asg (K := K) (ed_tJn h1 rfl rfl rfl (dp_ex e1 d1) (dp_ex e1 d2) a1 a2) fun vj H2 e2 kj => ?_
  have h2 := h1.ex e2
  have e12 := e1.trans e2
  have nj : joinK Tr k1 k2 = joinK Tr k2 k1 := join_comm a1.inT a2.inT
  refine dq_ifF (et_d (K := K) (te_ne (ed_var (i := 8) rfl kj) (ed_tJn h2 rfl rfl rfl (dp_ex e12 d2) (dp_ex e12 d1) a2 a1) aj.sh (nj ▸ aj.sh) (by rw [← nj, eqv_kd]; simp))) fun H3 e3 => ?_
  have h3 := h2.ex e3
  have e13 := e12.trans e3
  have kj3 := dp_ex e3 kj
  -- above
  have hall : EvD K (tAll K) (stI A0 A1 A2 pr o4 L (some v1) (some v2) (some vj) o9) H3 (.list (ks.map Kd.d ++ dom6.map fun n => Kd.d (.cls n))) :=
    (enl_cat h3.l h3.vals (ev_var (i := 5) rfl) (enl_keys (i := 3) (j := 11) rfl h3.pr h3.keys (by show 6 ≤ 1000; omega) (fun _ => rfl) (fun _ => rfl)) (by rw [List.length_map, List.length_map]; have := h.len; show ks.length + 6 ≤ 1000; omega)).ed
  have kin : ∀ d ∈ ks.map Kd.d ++ dom6.map (fun n => Kd.d (.cls n)), ∃ k : Kd, d = k.d ∧ Ask Tr k := fun d hd => by
    rcases List.mem_append.mp hd with hd | hd
    · obtain ⟨k, hk, rfl⟩ := List.mem_map.mp hd
      exact ⟨k, rfl, h.ask (h.gk k hk)⟩
    · obtain ⟨n, hn, rfl⟩ := List.mem_map.mp hd
      exact ⟨.cls n, rfl, cls6_ask h.dom hn⟩
  have hlen : (ks.map Kd.d ++ dom6.map fun n => Kd.d (.cls n)).length ≤ 1000 := by
    rw [List.length_append, List.length_map, List.length_map]; have := h.len; show ks.length + 6 ≤ 1000; omega
  generalize ks.map Kd.d ++ dom6.map (fun n => Kd.d (.cls n)) = all at hall kin hlen
  have hp : ∀ k : Kd, liftK (fun k => below Tr k1 k && below Tr k2 k) false k.d = (below Tr k1 k && below Tr k2 k) := fun k => liftK_d _ _ k
  generalize liftK (fun k => below Tr k1 k && below Tr k2 k) false = p at hp
  refine dq_asg (K := K) (d := .list (all.filter p)) ((ed_lcL (K := K) (p := p) (f := fun d => d) hall hlen (fun _ => rfl) (fun d hd v H' e kv => ?_) (fun d hd _ => ?_) (fun d hd _ v H' e kv => ed_var (i := 10) rfl kv)).is (by rw [List.map_id'])) fun va H4 e4 ka => ?_
  · obtain ⟨k, rfl, ak⟩ := kin d hd
    rw [hp]
    have h' := h3.ex e
    exact et_and (et_dB (K := K) (ed_tBel h' rfl rfl rfl (dp_ex (e13.trans e) d1) kv a1 ak)) fun _ => et_dB (K := K) (ed_tBel h' rfl rfl rfl (dp_ex (e13.trans e) d2) kv a2 ak)
  · obtain ⟨k, rfl, ak⟩ := kin d hd
    exact noL_kd k
  have h4 := h3.ex e4
  have e14 := e13.trans e4
  have kj4 := dp_ex e4 kj3
  have habove : ∀ d ∈ all.filter p, ∃ k : Kd, d = k.d ∧ Ask Tr k ∧ below Tr k1 k = true ∧ below Tr k2 k = true := fun d hd => by
    obtain ⟨hd1, hd2⟩ := List.mem_filter.mp hd
    obtain ⟨k, rfl, ak⟩ := kin d hd1
    rw [hp] at hd2
    obtain ⟨b1, b2⟩ := Bool.and_eq_true_iff.mp hd2
    exact ⟨k, rfl, ak, b1, b2⟩
  have flen : (all.filter p).length ≤ 1000 := Nat.le_trans (List.length_filter_le _ _) hlen
  generalize all.filter p = ab at habove ka flen
  have unset_sh : SeqAt.shaped Kd.unset.d = true := by decide +kernel
  by_cases cu : joinK Tr k1 k2 = .unset
  · refine s_if (b := true) (et_is (kd_eq (K := K) (b := .unset) (ed_var (i := 8) rfl kj4) ed_str aj.sh unset_sh) (decide_eq_true cu)) (fun _ H5 e5 => ?_) (fun z => Bool.noConfusion z)
    have sab : SeqAt.shaped (.list ab) = true := sh_list (fun d hd => by
      obtain ⟨k, rfl, ak, _⟩ := habove d hd
      exact ⟨ak.sh, ak.dep⟩) (by omega)
    refine s_when (b := false) ?_ (fun z => Bool.noConfusion z) (fun _ H6 e6 => q _ _ H6 ((e14.trans e5).trans e6))
    by_cases c12 : k1 = k2
    · refine et_is (et_and (et_d (K := K) (ed_ne (ed_var (i := 9) rfl (dp_ex e5 ka)) (ed_lst eda_nil (Nat.zero_le _)) sab (by decide +kernel))) fun _ => et_d (K := K) (te_ne (b := false) (ed_var (i := 6) rfl (dp_ex (e14.trans e5) d1)) (ed_var (i := 7) rfl (dp_ex (e14.trans e5) d2)) a1.sh a2.sh (by rw [eqv_kd, decide_eq_true c12]; rfl))) (Bool.and_false _)
    · have hnil : ab = [] := by
        cases ab with
        | nil => rfl
        | cons d r =>
          obtain ⟨k, _, ak, b1, b2⟩ := habove d List.mem_cons_self
          exact (join_unset cu c12 b1 b2).elim
      subst hnil
      exact et_is (et_and (b := false) (et_d (K := K) (te_ne (b := false) (ed_var (i := 9) rfl (dp_ex e5 ka)) (ed_lst eda_nil (Nat.zero_le _)) sab (by decide +kernel) rfl)) fun z => Bool.noConfusion z) rfl
  · refine s_if (b := false) (et_is (kd_eq (K := K) (b := .unset) (ed_var (i := 8) rfl kj4) ed_str aj.sh unset_sh) (decide_eq_false cu)) (fun z => Bool.noConfusion z) (fun _ H5 e5 => ?_)
    have h5 := h4.ex e5
    have e15 := e14.trans e5
    obtain ⟨l1, l2, l3⟩ := join_least a1.inT a2.inT cu
    refine s_when (b := false) ?_ (fun z => Bool.noConfusion z) (fun _ H6 e6 => q _ _ H6 (e15.trans e6))
    have t1 := et_not (et_dB (K := K) (ed_tBel h5 (σ := stI A0 A1 A2 pr o4 L (some v1) (some v2) (some vj) (some va)) (j := 6) (k := 8) rfl rfl rfl (dp_ex e15 d1) (dp_ex e5 kj4) a1 aj))
    have t2 := et_not (et_dB (K := K) (ed_tBel h5 (σ := stI A0 A1 A2 pr o4 L (some v1) (some v2) (some vj) (some va)) (j := 7) (k := 8) rfl rfl rfl (dp_ex e15 d2) (dp_ex e5 kj4) a2 aj))
    have hq : ∀ k : Kd, liftK (fun k => PyData.bool (!below Tr (joinK Tr k1 k2) k)) .none k.d = .bool (!below Tr (joinK Tr k1 k2) k) := fun k => liftK_d _ _ k
    generalize liftK (fun k => PyData.bool (!below Tr (joinK Tr k1 k2) k)) .none = fq at hq
    have hmap : ((ab.filter fun _ => true).map fq) = (List.replicate ab.length false).map PyData.bool := by
      rw [List.filter_eq_self.mpr (fun _ _ => rfl)]
      clear ka flen
      induction ab with
      | nil => rfl
      | cons d r ih =>
        obtain ⟨k, rfl, _, b1, b2⟩ := habove d List.mem_cons_self
        rw [List.map_cons, hq, l3 k b1 b2, ih fun d hd => habove d (List.mem_cons_of_mem _ hd)]
        rfl
    have t3 : EvT (tB (tCB (rAny K) (tCons (tLc (iList K (tVar 9)) (gName 10) tYes (tNotV (tBel K 3 8 10)) [10]) tNil))) (stI A0 A1 A2 pr o4 L (some v1) (some v2) (some vj) (some va)) H5 false := by
      refine et_dB (K := K) ((ed_any (bs := List.replicate ab.length false) ((ed_lcL (K := K) (p := fun _ => true) (f := fq) (ed_var (i := 9) rfl (dp_ex e5 ka)) flen (fun _ => rfl) (fun _ _ _ _ _ _ => et_yes) (fun d hd _ => ?_) (fun d hd _ v H' e kv => ?_)).is (by rw [hmap]))).is ?_)
      · obtain ⟨k, rfl, _⟩ := habove d hd
        rw [hq]
        rfl
      · obtain ⟨k, rfl, ak, _⟩ := habove d hd
        rw [hq]
        exact ed_notV (ed_tBel (h5.ex e) rfl rfl rfl (dp_ex (e5.trans e) kj4) kv aj ak)
      · have : ∀ n, (List.replicate n false).any id = false := fun n => by induction n <;> simp_all [List.replicate]
        rw [this]
    exact et_is (et_or t1 fun _ => et_or t2 fun _ => t3) (by rw [l1, l2]; rfl)
end
end K01

set_option maxRecDepth 100000
set_option maxHeartbeats 8000000
/-! law_k01: the outer loop; the line; the wrong texts. -/
namespace K01
open PySem PySem.Spec PyProof.Rows L2 Evl Dat TL
def tW (K : PySem.W.Frag) : TE := tCall (SpD K (R_write 3)) [] E0 (tCons (tVar 6) tNil)
def t_outer (K : PySem.W.Frag) (C : Addr) : TS :=
  tSeq (tIfS (tAnd (tTest (tOp (rInT K true) (tVar 6) (tTup (tCons (tC (.str "null")) (tCons (tC (.str "unset")) tNil))))) (tAnd (tTest (tOp (rNeD K) (tOp (rIx K) (tVar 6) (tC (.int 0))) (tC (.str "fresh")))) (tOr (tTest (tOp rNe (tW K) (tW K))) (tTest (tOp (rNeD K) (tCallS (spReadT K C 3) (WE fun _ _ _ _ => False) (tCons (tW K) (tCons (tC (.int 1)) tNil))) (tVar 6)))))) tNo tNext)
  (tSeq (tIfS (tOr (tTest (tOp rNe (tCall (SpD K R_is_ref) [] E0 (tCons (tVar 6) tNil)) (tOp (rInT K true) (tVar 6) (tTup (tCons (tC (.str "int")) (tCons (tC (.str "unset")) tNil)))))) (tTest (tOp rNe (tCall (SpD K R_is_fresh) [] E0 (tCons (tVar 6) tNil)) (tOp (rEqD K) (tOp (rIx K) (tVar 6) (tC (.int 0))) (tC (.str "fresh")))))) tNo tNext)
    (tFor (iList K (tVar 5)) (gName 7) (t_inner K)))
theorem sh_nu : SeqAt.shaped (.tuple [Kd.null.d, Kd.unset.d]) = true := by decide +kernel
theorem sh_iu : SeqAt.shaped (.tuple [Kd.int.d, Kd.unset.d]) = true := by decide +kernel
section
variable {P : Program} {w : World} {K : PySem.W.Frag} {mg : Str → Option Value} {base : Heap} {C fI cc oA : Addr} {tL tD : Tok} {F : NdefX.NF} {fdI : FuncData} {σ : L2.St} {H H' : Hp} {v v1 v2 : V} {d : PyData} {ds es : List PyData} {ta tb tc te td ty tv : TE} {tr : TA} {t nm a pr L : Addr} {xs : List V} {ks : List Kd} {Tr : Tree} {k1 k2 k : Kd} {kvs : List (Key × V)} {E : XK} {D : Ends} {A0 A1 A2 : V} {o4 o7 o8 o9 : Option V}
theorem outer (h : Lp K Tr kvs pr L xs ks H) (d1 : Dp K H v1 k1.d) (g1 : GK k1)
    (q : ∀ o7 o8 o9 H', Ex H H' → D.nx (stI A0 A1 A2 pr o4 L (some v1) o7 o8 o9) H') : t_outer K C D (stI A0 A1 A2 pr o4 L (some v1) o7 o8 o9) H := by
  have a1 := h.ask g1
  have nu : ∀ {H1 : Hp}, Ex H H1 → EvT (tTest (tOp (rInT K true) (tVar 6) (tTup (tCons (tC (.str "null")) (tCons (tC (.str "unset")) tNil))))) (stI A0 A1 A2 pr o4 L (some v1) o7 o8 o9) H1 (!(decide (Kd.null = k1) || decide (Kd.unset = k1))) := fun e =>
    et_d (K := K) (ed_notin (a := .null) (b := .unset) (ed_var (i := 6) rfl (dp_ex e d1)) a1.sh sh_nu (eda_cons ed_str (eda_cons ed_str eda_nil)))
  have hf : ∀ {H1 : Hp}, Ex H H1 → EvT (tTest (tOp (rNeD K) (tOp (rIx K) (tVar 6) (tC (.int 0))) (tC (.str "fresh")))) (stI A0 A1 A2 pr o4 L (some v1) o7 o8 o9) H1 (!k1.isFresh) := fun e =>
    et_d (K := K) (te_ne (ed_hd0 (ed_var (i := 6) rfl (dp_ex e d1))) ed_str (hd0_sh k1) fresh_sh (by rw [Bool.not_not]; show (k1.hd0 == "fresh") = _; exact hd0_fresh k1))
  have tst : EvT (tAnd (tTest (tOp (rInT K true) (tVar 6) (tTup (tCons (tC (.str "null")) (tCons (tC (.str "unset")) tNil))))) (tAnd (tTest (tOp (rNeD K) (tOp (rIx K) (tVar 6) (tC (.int 0))) (tC (.str "fresh")))) (tOr (tTest (tOp rNe (tW K) (tW K))) (tTest (tOp (rNeD K) (tCallS (spReadT K C 3) (WE fun _ _ _ _ => False) (tCons (tW K) (tCons (tC (.int 1)) tNil))) (tVar 6)))))) (stI A0 A1 A2 pr o4 L (some v1) o7 o8 o9) H false := by
    cases g1 with
    | dr hd =>
      have hw : EvD K (tW K) (stI A0 A1 A2 pr o4 L (some v1) o7 o8 o9) H (.str (S k1.wr)) := ed_call (eda_cons (ed_var (i := 6) rfl d1) eda_nil) ⟨k1, rfl, (ok_dep 2 k1 hd.ok).1, by have := hd.len; have : Bd 2 = 70 := rfl; omega, (ok_dep 2 k1 hd.ok).2, rfl⟩
      have tc1 : EvT (tTest (tOp rNe (tW K) (tW K))) (stI A0 A1 A2 pr o4 L (some v1) o7 o8 o9) H false := et_d (K := K) ((ed_neS hw hw).is (by rw [decide_eq_true rfl]; rfl))
      have td1 : EvT (tTest (tOp (rNeD K) (tCallS (spReadT K C 3) (WE fun _ _ _ _ => False) (tCons (tW K) (tCons (tC (.int 1)) tNil))) (tVar 6))) (stI A0 A1 A2 pr o4 L (some v1) o7 o8 o9) H false := et_d (K := K) (te_ne (ed_read hd hw) (ed_var (i := 6) rfl d1) a1.sh a1.sh (by rw [eqv_kd]; simp))
      exact et_is (et_and (nu (Ex.refl H)) fun _ => et_and (hf (Ex.refl H)) fun _ => et_or tc1 fun _ => td1) (by simp)
    | null => exact et_is (et_and (b := false) (et_is (b := false) (nu (Ex.refl H)) (by decide)) fun z => Bool.noConfusion z) rfl
    | unset => exact et_is (et_and (b := false) (et_is (b := false) (nu (Ex.refl H)) (by decide)) fun z => Bool.noConfusion z) rfl
    | fresh i => exact et_is (et_and (nu (Ex.refl H)) fun _ => et_and (b := false) (et_is (b := false) (hf (Ex.refl H)) rfl) fun z => Bool.noConfusion z) (by simp)
  refine dq_ifF tst fun H1 e1 => ?_
  have h1 := h.ex e1
  have d1' := dp_ex e1 d1
  have t1 : EvT (tTest (tOp rNe (tCall (SpD K R_is_ref) [] E0 (tCons (tVar 6) tNil)) (tOp (rInT K true) (tVar 6) (tTup (tCons (tC (.str "int")) (tCons (tC (.str "unset")) tNil)))))) (stI A0 A1 A2 pr o4 L (some v1) o7 o8 o9) H1 false :=
    et_d (K := K) ((ed_neB (ed_call (R := R_is_ref) (eda_cons (ed_var (i := 6) rfl d1') eda_nil) ⟨k1, rfl, rfl⟩) (ed_notin (a := .int) (b := .unset) (ed_var (i := 6) rfl d1') a1.sh sh_iu (eda_cons ed_str (eda_cons ed_str eda_nil)))).is (by
      have e : (!(decide (Kd.int = k1) || decide (Kd.unset = k1))) = k1.isRef := by
        have hr := isRef_iff a1.nv
        rw [show decide (Kd.int = k1) = decide (k1 = .int) from decide_eq_decide.mpr ⟨Eq.symm, Eq.symm⟩, show decide (Kd.unset = k1) = decide (k1 = .unset) from decide_eq_decide.mpr ⟨Eq.symm, Eq.symm⟩, ← hr, Bool.not_not]
      rw [e, decide_eq_true rfl]
      rfl))
  have t2 : EvT (tTest (tOp rNe (tCall (SpD K R_is_fresh) [] E0 (tCons (tVar 6) tNil)) (tOp (rEqD K) (tOp (rIx K) (tVar 6) (tC (.int 0))) (tC (.str "fresh"))))) (stI A0 A1 A2 pr o4 L (some v1) o7 o8 o9) H1 false :=
    et_d (K := K) ((ed_neB (ed_call (R := R_is_fresh) (eda_cons (ed_var (i := 6) rfl d1') eda_nil) ⟨k1, rfl, rfl⟩) (te_eq (b := k1.isFresh) (ed_hd0 (ed_var (i := 6) rfl d1')) ed_str (hd0_sh k1) fresh_sh (by show (k1.hd0 == "fresh") = _; exact hd0_fresh k1))).is (by rw [decide_eq_true rfl]; rfl))
  refine dq_ifF (et_is (et_or t1 fun _ => t2) rfl) fun H2 e2 => ?_
  have h2 := h1.ex e2
  have e12 := e1.trans e2
  refine s_forLn (K := K) (a := L) (xs := xs) (ev_var (i := 5) rfl) (sq_of h2.l) (fun i σ' H' => ∃ o7 o8 o9, σ' = stI A0 A1 A2 pr o4 L (some v1) o7 o8 o9 ∧ Ex H H') (fun H3 e3 => ⟨_, _, _, rfl, e12.trans e3⟩) (fun i σ' H' _ ⟨_, _, _, _, ex⟩ => sq_of (ex _ _ h.l)) ?_ ?_
  · rintro i x σ' H' hx ⟨o7, o8, o9, rfl, ex⟩
    obtain ⟨d, hd, kd⟩ := dpa_get' (h.ex ex).vals hx
    rw [List.getElem?_map] at hd
    obtain ⟨k2, hk2, rfl⟩ : ∃ k2, ks[i]? = some k2 ∧ Kd.d k2 = d := by
      cases e : ks[i]? with
      | none => rw [e] at hd; cases hd
      | some z => rw [e] at hd; exact ⟨z, rfl, Option.some.inj hd⟩
    exact inner (h.ex ex) (dp_ex ex d1) kd g1 (h.gk _ (List.mem_of_getElem? hk2)) fun o8 o9 H4 e4 => ⟨_, _, _, rfl, ex.trans e4⟩
  · rintro σ' H' ⟨o7, o8, o9, rfl, ex⟩
    exact q _ _ _ _ ex
end
end K01

set_option maxRecDepth 100000
set_option maxHeartbeats 8000000
/-! law_k01: the line; the wrong texts. -/
namespace K01
open PySem PySem.Spec PyProof.Rows L2 Evl Dat TL
def t_wrongs (K : PySem.W.Frag) (C : Addr) : TS := fun D σ H => TB_law K C (wAs K (.ref C) 16 (TS_law C) (fun _ _ _ _ => False) D) D σ H
def tLen (K : PySem.W.Frag) (i : Nat) : TE := tCB (fun xs H Q => ∃ x n, xs = [x] ∧ LenV K x H n ∧ Q (.int n) H) (tCons (tVar i) tNil)
def t_end (K : PySem.W.Frag) (C : Addr) : TS :=
  tSeq (tAsg (tC (.int 0)) (gName 13)) (tSeq (tAsg (tLst (tCons (tC (.str "")) (tCons (tC (.str "void")) (tCons (tC (.str "[int")) (tCons (tC (.str "[void]")) (tCons (tC (.str "?int")) (tCons (tC (.str "?[A]")) (tCons (tC (.str "(int")) (tCons (tC (.str "(int,)int")) (tCons (tC (.str "(void)int")) (tCons (tC (.str "int]")) (tCons (tC (.str "<A")) (tCons (tC (.str "null")) (tCons (tC (.str "fresh")) (tCons (tC (.str "1a")) (tCons (tC (.str "A b")) tNil)))))))))))))))) (gName 14))
  (tSeq (tFor (iList K (tVar 14)) (gName 15) (t_wrongs K C)) (tRet (tOp rEq (tVar 13) (tLen K 14)))))
section
variable {P : Program} {w : World} {K : PySem.W.Frag} {mg : Str → Option Value} {base : Heap} {C fI cc oA : Addr} {tL tD : Tok} {F : NdefX.NF} {fdI : FuncData} {σ : L2.St} {H H' : Hp} {v v1 v2 : V} {d : PyData} {ds es : List PyData} {ta tb tc te td ty tv : TE} {tr : TA} {t nm a pr L : Addr} {xs : List V} {ks : List Kd} {Tr : Tree} {k1 k2 k : Kd} {kvs : List (Key × V)} {E : XK} {D : Ends}
theorem ev_xf {a0 dx : Addr} {i : Nat} {f : Str} {fs : List (Str × V)} (h : σ[i]? = some (some (.ref a0))) (hd : H dx = some (.xd fs)) (hl : fs.lookup f = some v) : Ev (tXf a0 (.ref C) (some dx) C f (tVar i)) σ H v := fun H1 e1 Q q =>
  ⟨.ref a0, h, rfl, rfl, dx, fs, v, rfl, e1 _ _ hd, hl, q H1 (Ex.refl _)⟩
def stE (s : List (Option V)) (n : Int) (pw : Addr) (o15 : Option V) : L2.St := s ++ [some (.int n), some (.ref pw), o15, none]
theorem wrongs_fit : ∀ w ∈ wrongs, (Str.ofString w).length ≤ 1000 ∧ (Str.ofString w).cps.toList.all (fun x => decide (x < 0x110000)) = true := by decide +kernel
theorem no_readT {z : Str} {row : Int} {Es : L2.St → XK} {Q : VK} (h : EvA tr σ H [.str z, .int row]) (f1 : z.length ≤ 1000) (f2 : okS (tl z)) (f3 : readType 3 (tl z) = some none) (bad : Bad C row H (Es σ)) : tCallS (spReadT K C 3) Es tr σ H Q :=
  h H (Ex.refl H) _ fun H1 e1 => ⟨z, row, none, rfl, f1, f2, by omega, f3, (fun k e => by cases e), fun _ => bad.mono e1⟩
theorem pure_end {s0 s1 s2 s3 s4 s5 s6 s7 s8 s9 s10 s11 s12 : Option V} (T : Txt P K mg C fI cc oA tL tD F fdI) (q : ∀ H', Ex H H' → D.rt (.bl true) H') :
    t_end K C D [s0, s1, s2, s3, s4, s5, s6, s7, s8, s9, s10, s11, s12, none, none, none, none] H := by
  refine q_asg ev_c fun H1 e1 => ?_
  refine q_asgL (xs := wrongs.map fun s => V.str (Str.ofString s)) (el_lst (ea_cons ev_c (ea_cons ev_c (ea_cons ev_c (ea_cons ev_c (ea_cons ev_c (ea_cons ev_c (ea_cons ev_c (ea_cons ev_c (ea_cons ev_c (ea_cons ev_c (ea_cons ev_c (ea_cons ev_c (ea_cons ev_c (ea_cons ev_c (ea_cons ev_c ea_nil))))))))))))))) (by show 15 ≤ 100000; omega)) fun pw H2 hpw e2 h2 => ?_
  have e12 := e1.trans e2
  refine q_forLn (K := K) (a := pw) (xs := wrongs.map fun s => V.str (Str.ofString s)) (ev_var (i := 14) rfl) (sq_of h2) (fun i σ' H' => ∃ o15, σ' = [s0, s1, s2, s3, s4, s5, s6, s7, s8, s9, s10, s11, s12, some (.int (i : Int)), some (.ref pw), o15, none] ∧ Ex H2 H') (fun H3 e3 => ⟨_, rfl, e3⟩) (fun i σ' H' _ ⟨_, _, ex⟩ => sq_of (ex _ _ h2)) ?_ ?_
  · rintro i x σ' H' hx ⟨o15, rfl, ex⟩
    rw [List.getElem?_map] at hx
    obtain ⟨z, hz, rfl⟩ : ∃ z, wrongs[i]? = some z ∧ V.str (Str.ofString z) = x := by
      cases e : wrongs[i]? with
      | none => rw [e] at hx; cases hx
      | some z => rw [e] at hx; exact ⟨z, rfl, Option.some.inj hx⟩
    have hm := List.mem_of_getElem? hz
    obtain ⟨f1, f2⟩ := wrongs_fit z hm
    show tCallS (spReadT K C 3) _ (tCons (tVar 15) (tCons (tC (.int 7)) tNil)) _ H' _
    refine no_readT (z := Str.ofString z) (row := 7) (ea_cons (ev_var (i := 15) rfl) (ea_cons ev_c ea_nil)) f1 (okS_cs _ f2) (wrongs_refused3 z hm) ?_
    intro H4 e4 dx hdx
    refine ⟨true, T.te, fun _ a0 _ => ?_, fun q => Bool.noConfusion q⟩
    have ex4 : Ex H2 (upd H4 dx (xrow 7 "type")) := (ex.trans e4).trans (Ex.new hdx)
    have hxd : upd H4 dx (xrow 7 "type") dx = some (.xd [(("word" : Str), .str "type"), (("row" : Str), .int 7)]) := upd_same
    refine s_asg (v := .int ((i : Int) + 1)) (ev_op (x := .int (i : Int)) (y := .int 1) (ev_var (i := 13) rfl) (ev_if (b := true) (et_is (et_and (a := true) (b := true) (et_test (ev_op (z := .bl true) (ev_xf (i := 16) rfl hxd (v := .int 7) rfl) ev_c (rv_eq rfl))) fun _ => et_test (ev_op (z := .bl true) (ev_xf (i := 16) rfl hxd (v := .str "type") rfl) ev_c (rv_eq rfl))) rfl) (fun _ => ev_c) (fun z => Bool.noConfusion z)) rv_I0) fun H5 e5 => ?_
    exact ⟨_, rfl, ex4.trans e5⟩
  · rintro σ' H' ⟨o15, rfl, ex⟩
    refine d_ret (K := K) (d := .bool true) ((ed_eqI (b := 15) (ed_var (i := 13) rfl (.int _)) ((ed_lenL (ds := wrongs.map fun s => PyData.str (Str.ofString s)) (ed_var (i := 14) rfl (.lst (sq_of (ex _ _ h2)) ?_))).is rfl)).is rfl) fun v H3 e3 kv => ?_
    · have : wrongs.map (fun s => V.str (Str.ofString s)) = (wrongs.map Str.ofString).map V.str := by rw [List.map_map]; rfl
      rw [this, show (wrongs.map fun s => PyData.str (Str.ofString s)) = (wrongs.map Str.ofString).map PyData.str by rw [List.map_map]; rfl]
      exact dpa_strs
    · rw [dp_bool kv]
      exact q H3 ((e12.trans ex).trans e3)
end
end K01

set_option maxRecDepth 100000
set_option maxHeartbeats 8000000
/-! law_k01: the line. -/
namespace K01
open PySem PySem.Spec PyProof.Rows L2 Evl Dat TL
def tKd : TE := tTup (tCons (tC (.str "func")) (tCons (tTup (tCons (tTup (tCons (tC (.str "class")) (tCons (tC (.str "A")) tNil))) (tCons (tTup (tCons (tC (.str "array")) (tCons (tTup (tCons (tC (.str "class")) (tCons (tC (.str "B")) tNil))) tNil))) tNil))) (tCons (tC (.str "int")) tNil)))
def tSorted (P : Program) (w : World) (K : PySem.W.Frag) : TE := tCB (SetTx.rSortedTx P w) (tCons (tCB (SetTx.rSetTx K P w) (tCons (tCall (spNames K 3) [] E0 (tCons tKd tNil)) tNil)) tNil)
def t_line (P : Program) (w : World) (K : PySem.W.Frag) (C : Addr) : TS :=
  tSeq (tPar 12 11 (tCons (tLst tNil) (tCons (tOp (rIx K) (tVar 2) (tCall (spTake K) [] E0 (tCons (tVar 1) (tCons (tC (.int 5)) tNil)))) tNil)))
  (tSeq (tWhile (tB (tNotN (tVar 11))) (tSeq (tDrop (tBM K "list" rAppend (tVar 12) (tCons (tVar 11) tNil))) (tAsg (tDGet (tVar 3) (tVar 11)) (gName 11))))
  (tSeq (tIfS (tOr (tTest (tOp (rNeD K) (tCall spLn [] E0 (tCons (tVar 3) (tCons (tOp (rIx K) (tVar 12) (tC (.int 0))) tNil))) (tVar 12))) (tTest (tOp (rNeD K) (tSorted P w K) (tLst (tCons (tC (.str "A")) (tCons (tC (.str "B")) tNil)))))) tNo tNext) (t_end K C)))
section
variable {P : Program} {w : World} {K : PySem.W.Frag} {mg : Str → Option Value} {base : Heap} {C fI cc oA : Addr} {tL tD : Tok} {F : NdefX.NF} {fdI : FuncData} {σ : L2.St} {H H' : Hp} {v v1 v2 : V} {d : PyData} {ds es : List PyData} {ta tb tc te td ty tv : TE} {tr : TA} {t nm a pr L c : Addr} {cs : List Int} {xs : List V} {ks : List Kd} {Tr : Tree} {k1 k2 k : Kd} {kvs : List (Key × V)} {E : XK} {D : Ends}
def exKd : Kd := .fn [.cls "A", .arr (.cls "B")] .int
theorem ed_sorted : EvD K (tSorted P w K) σ H (.list ([("A" : Str), "B"].map PyData.str)) := fun H1 e1 Q q =>
  el_names (n := 3) (k := exKd) (ed_tup (eda_cons ed_str (eda_cons (ed_tup (eda_cons (ed_tup (eda_cons ed_str (eda_cons ed_str eda_nil)) (by show 2 ≤ 1000; omega)) (eda_cons (ed_tup (eda_cons ed_str (eda_cons (ed_tup (eda_cons ed_str (eda_cons ed_str eda_nil)) (by show 2 ≤ 1000; omega)) eda_nil)) (by show 2 ≤ 1000; omega)) eda_nil)) (by show 2 ≤ 1000; omega)) (eda_cons ed_str eda_nil))) (by show 3 ≤ 1000; omega)) (by decide) (by show 2 ≤ 1000; omega) H1 e1 _ fun p1 H2 hp1 e2 h2 =>
    ⟨p1, ["A", "B"], rfl, sq_of h2, by show 2 ≤ 60; omega, by decide +kernel, fun a ha => ⟨a, ["B", "A"], rfl, upd_same, by decide +kernel, by show 2 < 64; omega, fun ys p2 hperm hs hp2 => by
      have ey := ab_sorted hperm hs
      subst ey
      exact q (.ref p2) _ ((e2.trans (Ex.new ha)).trans (Ex.new hp2)) (dp_newL upd_same dpa_strs)⟩⟩
theorem ln_head (Tr : Tree) (s : Str) : atI ((Tr.ln s).map PyData.str) 0 = some (.str s) := by
  unfold Tree.ln lineN
  exact at0
def tlOf (Tr : Tree) : Option Str → List Str
  | none => []
  | some s => Tr.ln s
theorem ln_cons {s : Str} (hs : s ∈ Tr.dom) : Tr.ln s = s :: tlOf Tr (Tr.par s) := by
  cases e : Tr.par s with
  | none => exact ln_root hs e
  | some p => exact ln_step hs e
theorem q_parLR {tz : TS} {i j : Nat} {xs : List V} (h1 : EvL ta σ H xs) (k : ∀ p H1, H p = none → Ex H H1 → H1 p = some (.lst xs) → tb σ H1 fun v H2 => ∃ u w, [V.ref p, v] = [u, w] ∧ tz D ((σ.set i (some u)).set j (some w)) H2) : tSeq (tPar i j (tCons ta (tCons tb tNil))) tz D σ H :=
  h1 H (Ex.refl H) _ fun p H1 hp e1 h => k p H1 hp e1 h
theorem pure_line {s0 s4 s5 s6 s7 s8 s9 s10 : Option V} (T : Txt P K mg C fI cc oA tL tD F fdI) (S : Sd K t nm c cs H) (hpr : H pr = some (.dK kvs)) (npt : pr ≠ t) (PA : PAt Tr kvs) (hdom : Tr.dom = dom6) (q : ∀ H', D.rt (.bl true) H') :
    t_line P w K C D [s0, some (.ref t), some (.ref nm), some (.ref pr), s4, s5, s6, s7, s8, s9, s10, none, none, none, none, none, none] H := by
  refine q_parLR (el_lst ea_nil (Nat.zero_le _)) fun p H1 hp e1 h1 => ⟨.ref nm, rfl, ?_⟩
  refine eb_take (S.ex e1) (m := 5) (ea_cons (ev_var (i := 1) rfl) (ea_cons ev_c ea_nil)) (by omega) (by omega) _ fun v H2 b2 S2 ⟨dn, hd, e⟩ => ?_
  subst e
  have hd5 : dn < nms.length := by show dn < 5; omega
  have hx : nms[dn]? = some nms[dn] := List.getElem?_eq_getElem hd5
  have hsd : nms[dn] ∈ Tr.dom := by rw [hdom]; exact List.mem_cons_of_mem _ (List.mem_of_getElem? hx)
  generalize nms[dn] = s at hx hsd
  refine .inl ⟨nm, _, (dn : Int), .str s, rfl, rfl, S2.nm, atI_nat (by rw [List.getElem?_map, hx]; rfl), ⟨_, _, rfl, ?_⟩⟩
  have npp : p ≠ t := fun e => by
    obtain ⟨_, _, _, _, Tt⟩ := S.tp
    rw [e, Tt.d] at hp
    cases hp
  have hp2 : H2 p = some (.lst []) := b2 _ _ npp h1
  have hpr2 : H2 pr = some (.dK kvs) := b2 _ _ npt (e1 _ _ hpr)
  have nprp : pr ≠ p := fun e => by rw [e, hp2] at hpr2; cases hpr2
  have lnl : ∀ s ∈ Tr.dom, (Tr.ln s).length ≤ 1001 := fun s hs => ln_len 1001 s (by have := PA.low s hs; omega) hs
  refine q_while (fun m σ' H' => ∃ (l : List Str) (no : Option Str), σ' = [s0, some (.ref t), some (.ref nm), some (.ref pr), s4, s5, s6, s7, s8, s9, s10, some (opV no), some (.ref p), none, none, none, none] ∧ m = (tlOf Tr no).length ∧ H' p = some (.lst (l.map V.str)) ∧ H' pr = some (.dK kvs) ∧ l ++ tlOf Tr no = Tr.ln s ∧ ∀ z, no = some z → z ∈ Tr.dom) _ ⟨[], some s, rfl, rfl, hp2, hpr2, rfl, fun z h => by cases h; exact hsd⟩ ?_
  rintro m σ' H' ⟨l, no, rfl, rfl, hl, hpr', hap, hno⟩
  cases no with
  | some z =>
    have hz := hno z rfl
    refine ⟨true, et_is (et_B (ev_notN (x := .str z) (ev_var (i := 11) rfl))) rfl, fun _ H3 e3 => ?_, fun h => Bool.noConfusion h⟩
    have hlen : l.length ≤ 1001 := by
      have := congrArg List.length hap
      rw [List.length_append] at this
      have := lnl s hsd
      omega
    refine ⟨fun σ2 H2 => ∃ m', m' < (tlOf Tr (some z)).length ∧ ∃ (l : List Str) (no : Option Str), σ2 = [s0, some (.ref t), some (.ref nm), some (.ref pr), s4, s5, s6, s7, s8, s9, s10, some (opV no), some (.ref p), none, none, none, none] ∧ m' = (tlOf Tr no).length ∧ H2 p = some (.lst (l.map V.str)) ∧ H2 pr = some (.dK kvs) ∧ l ++ tlOf Tr no = Tr.ln s ∧ ∀ z, no = some z → z ∈ Tr.dom, fun σ2 H2 h => h, ?_⟩
    refine q_app (K := K) (l := p) (e3 _ _ hl) (ev_var (i := 12) rfl) (ev_var (i := 11) rfl) (by rw [List.length_map]; omega) fun H4 e4 => ?_
    have hpr4 : upd H4 p (.lst (l.map V.str ++ [V.str z])) pr = some (.dK kvs) := by rw [upd_ne nprp]; exact e4 _ _ (e3 _ _ hpr')
    refine s_asg (ev_dgetA (k := .inr z) (ev_var (i := 3) rfl) (.inl hpr4) (ev_var (i := 11) rfl) (PA.get z hz)) fun H5 e5 => ⟨(tlOf Tr (Tr.par z)).length, ?_, l ++ [z], Tr.par z, rfl, rfl, ?_, e5 _ _ hpr4, ?_, fun y hy => Tr.closed z hz y hy⟩
    · show _ < (Tr.ln z).length
      rw [ln_cons hz]
      exact Nat.lt_succ_self _
    · rw [List.map_append]
      exact e5 _ _ upd_same
    · rw [← hap]
      show l ++ [z] ++ tlOf Tr (Tr.par z) = l ++ Tr.ln z
      rw [ln_cons hz]
      simp
  | none =>
    refine ⟨false, et_is (et_B (ev_notN (x := .non) (ev_var (i := 11) rfl))) rfl, fun h => Bool.noConfusion h, fun _ H3 e3 => ?_⟩
    have hll : l = Tr.ln s := by rw [← hap]; exact (List.append_nil _).symm
    subst hll
    have hl3 := e3 _ _ hl
    have hpr3 := e3 _ _ hpr'
    have kl : Dp K H3 (.ref p) (.list ((Tr.ln s).map PyData.str)) := dp_newL hl3 dpa_strs
    have strs_sh : ∀ ss : List Str, (∀ z ∈ ss, PyData.strOk z = true ∧ z.length ≤ 1000) → ss.length ≤ 1001 → SeqAt.shaped (.list (ss.map PyData.str)) = true := fun ss h1 h2 => sh_list (fun d hd => by
      obtain ⟨z, hz, rfl⟩ := List.mem_map.mp hd
      exact ⟨sh_str (h1 z hz).2 (h1 z hz).1, Nat.zero_le _⟩) (by rw [List.length_map]; omega)
    have hn : ∀ x ∈ dom6, PyData.strOk x = true ∧ x.length ≤ 1000 := by decide +kernel
    have lsh := strs_sh (Tr.ln s) (fun z hz => hn z (hdom ▸ ln_dom hsd hz)) (lnl s hsd)
    have ab_sh : SeqAt.shaped (.list ([("A" : Str), "B"].map PyData.str)) = true := by decide +kernel
    have t1 : EvT (tTest (tOp (rNeD K) (tCall spLn [] E0 (tCons (tVar 3) (tCons (tOp (rIx K) (tVar 12) (tC (.int 0))) tNil))) (tVar 12))) [s0, some (.ref t), some (.ref nm), some (.ref pr), s4, s5, s6, s7, s8, s9, s10, some (opV none), some (.ref p), none, none, none, none] H3 false :=
      et_d (K := K) (te_ne (ed_ln (Tr := Tr) (ea_cons (ev_var (i := 3) rfl) (ea_cons (ev_edS (K := K) (ed_ixL (ed_var (i := 12) rfl kl) ed_int (ln_head Tr s))) ea_nil)) (.inl hpr3) PA hsd) (ed_var (i := 12) rfl kl) lsh lsh (by show PyData.eqvAll _ _ = true; exact eqv_strs _))
    refine dq_ifF (et_is (et_or t1 fun _ => et_d (K := K) (te_ne (b := false) ed_sorted (ed_lst (ds := [("A" : Str), "B"].map PyData.str) (eda_cons ed_str (eda_cons ed_str eda_nil)) (by show 2 ≤ 1000; omega)) ab_sh ab_sh (by show PyData.eqvAll _ _ = true; exact eqv_strs _))) rfl) fun H4 e4 => ?_
    exact pure_end T fun H5 _ => q H5
end
end K01

set_option maxRecDepth 100000
set_option maxHeartbeats 8000000
/-! law_k01: the law's beginning. -/
namespace K01
open PySem PySem.Spec PyProof.Rows L2 Evl Dat TL
section
variable {P : Program} {w : World} {K : PySem.W.Frag} {mg : Str → Option Value} {base : Heap} {C fI cc oA : Addr} {tL tD : Tok} {F : NdefX.NF} {fdI : FuncData} {σ : L2.St} {H H' : Hp} {v v1 v2 : V} {d : PyData} {ds es : List PyData} {ta tb tc te td ty tv : TE} {tr : TA} {t nm a pr L c : Addr} {cs : List Int} {xs : List V} {ks : List Kd} {Tr : Tree} {k1 k2 k : Kd} {kvs : List (Key × V)} {E : XK} {D : Ends} {Q : VK}
theorem call_tape {ns : List Int} (h : EvA tr σ H [.ref a]) (hS : SqL K H a (ns.map V.int)) (hl : ns.length ≤ 63) (q : ∀ t c cs H2, H t = none → Ex H H2 → TapeAt K H2 t c cs → Q (.ref t) H2) : tCall (spTape K) [] E tr σ H Q :=
  h H (Ex.refl H) _ fun H1 e1 => ⟨a, ns, rfl, ex_l e1 hS, hl, fun t c cs H2 ht e2 hT => q t c cs H2 (fresh_back e1 ht) (e1.trans e2) hT⟩
theorem q_pairLK {tz : TS} {i j : Nat} {xs : List V} (h1 : EvL ta σ H xs) (h2 : EvK tb σ H kvs) (k : ∀ p r H1, H p = none → H r = none → Ex H H1 → H1 p = some (.lst xs) → H1 r = some (.dK kvs) → tz D ((σ.set i (some (.ref p))).set j (some (.ref r))) H1) :
    tSeq (tAsg (tTup (tCons ta (tCons tb tNil))) (gTup K 2 (gCons (gName i) (gCons (gName j) gNil)))) tz D σ H :=
  h1 H (Ex.refl H) _ fun p H1 hp e1 h => h2 H1 e1 _ fun r H2 hr e2 h' => ⟨sz_of (by show 2 ≤ 100000; omega), fun u hu =>
    ⟨u, _, rfl, st_of upd_same, rfl, _, _, rfl, _, _, rfl, rfl, k p r _ hp (fresh_back e1 hr) ((e1.trans e2).trans (Ex.new hu)) (by rw [upd_ne (ne_of_none (e2 _ _ h) hu)]; exact e2 _ _ h) (by rw [upd_ne (ne_of_none h' hu)]; exact h')⟩⟩
/-- parents[names[k]] = (['Object'] + names[:k])[_law_take(tape, k + 1)] -/
def t_par (K : PySem.W.Frag) : TS := sDPut (tVar 3) (tOp (rIx K) (tVar 2) (tVar 4)) (tOp (rIx K) (tOp rCat (tLst (tCons (tC (.str "Object")) tNil)) (tSl (rSlL K) (tVar 2) tNoPart (tPart (tVar 4)))) (tCall (spTake K) [] E0 (tCons (tVar 1) (tCons (tOp (rI0 fun i j => .int (i + j)) (tVar 4) (tC (.int 1))) tNil))))
theorem turn_par {ps : List Str} {s0 : Option V} {rest : L2.St} (S : Sd K t nm c cs H) (hpr : H pr = some (.dK (kvsOf ps))) (npt : pr ≠ t) (hl : ps.length < 5) (hg : goodP ps)
    (q : ∀ x H', goodP (ps ++ [x]) → H' pr = some (.dK (kvsOf (ps ++ [x]))) → Sd K t nm c cs H' → D.nx (s0 :: some (.ref t) :: some (.ref nm) :: some (.ref pr) :: some (.int (ps.length : Int)) :: rest) H') :
    t_par K D (s0 :: some (.ref t) :: some (.ref nm) :: some (.ref pr) :: some (.int (ps.length : Int)) :: rest) H := by
  refine (el_cat (xs := [V.str obj]) (ys := (nms.take ps.length).map V.str) (el_lst (ea_cons ev_c ea_nil) (by show 1 ≤ 100000; omega)) (cut_nms ps.length hl ▸ el_sl (ev_var (i := 2) rfl) eo_none (eo_some (ev_var (i := 4) rfl)) S.nm) (by rw [List.length_map, List.length_take]; show 1 + _ ≤ _; omega)) H (Ex.refl H) _ fun p H1 hp e1 h1 => ?_
  refine eb_take (S.ex e1) (m := (ps.length : Int) + 1) (ea_cons (ev_var (i := 1) rfl) (ea_cons (ev_edI (K := K) (ed_I0 (g := fun i j => i + j) (ed_var (i := 4) rfl (.int _)) ed_int)) ea_nil)) (by omega) (by omega) _ fun v H2 b2 S2 ⟨dn, hd, e⟩ => ?_
  subst e
  have npp : p ≠ t := fun e => by
    obtain ⟨_, _, _, _, Tt⟩ := S.tp
    rw [e, Tt.d] at hp
    cases hp
  have hp2 : H2 p = some (.lst ([V.str obj] ++ (nms.take ps.length).map V.str)) := b2 _ _ npp h1
  have hpr2 : H2 pr = some (.dK (kvsOf ps)) := b2 _ _ npt (e1 _ _ hpr)
  have hlen : (obj :: nms.take ps.length).length = ps.length + 1 := by rw [List.length_cons, List.length_take]; show min _ 5 + 1 = _; omega
  have hdl : dn < (obj :: nms.take ps.length).length := by rw [hlen]; omega
  have hx : (obj :: nms.take ps.length)[dn]? = some (obj :: nms.take ps.length)[dn] := List.getElem?_eq_getElem hdl
  have hmem := List.mem_of_getElem? hx
  generalize (obj :: nms.take ps.length)[dn] = x at hx hmem
  have hxv : ([V.str obj] ++ (nms.take ps.length).map V.str)[dn]? = some (.str x) := by
    show ((obj :: nms.take ps.length).map V.str)[dn]? = _
    rw [List.getElem?_map, hx]
    rfl
  refine .inl ⟨p, _, (dn : Int), .str x, rfl, rfl, sq_of hp2, atI_nat hxv, ?_⟩
  have hn5 : ps.length < nms.length := hl
  refine ⟨_, rfl, .ref nm, rfl, .int (ps.length : Int), rfl, .inl ⟨nm, _, (ps.length : Int), .str nms[ps.length], rfl, rfl, S2.nm, atI_nat (by rw [List.getElem?_map, List.getElem?_eq_getElem hn5]; rfl), ⟨pr, _, rfl, .k (k := .inr nms[ps.length]) hpr2 (by show _ < sizeLine; rw [sizeLine_eq]; unfold kvsOf; rw [List.length_cons, List.length_map, List.length_zip]; omega), ?_⟩⟩⟩
  rw [kvs_put hl]
  have b3 : Bt pr H2 (upd H2 pr (.dK (kvsOf (ps ++ [x])))) := fun b o nb hb => by rw [upd_ne nb]; exact hb
  have off : Off (H2 pr) := by rw [hpr2]; exact True.intro
  obtain ⟨i', l', s', x', T2⟩ := S2.tp
  refine q x _ (fun j y hy => ?_) upd_same ⟨⟨i', l', s', x', by rw [upd_ne (Ne.symm npt)]; exact T2.d, bt_l off b3 T2.c, T2.l0, T2.cs0⟩, bt_l off b3 S2.nm⟩
  by_cases hj : j < ps.length
  · rw [List.getElem?_append_left hj] at hy
    exact hg j y hy
  · have hj2 := (List.getElem?_eq_some_iff.mp hy).1
    rw [List.length_append] at hj2
    have ej : j = ps.length := by simp at hj2; omega
    subst ej
    rw [List.getElem?_append_right (Nat.le_refl _), Nat.sub_self] at hy
    cases hy
    exact hmem
/-- kinds = [_law_kind(tape, names, 2) for k in range(4)] + [..] -/
def t_kinds (K : PySem.W.Frag) : TE := tOp rCat (tLc (iRng1 (tCons (tC (.int 4)) tNil)) (gName 4) tYes (tCall (spKind K 3) [] E0 (tCons (tVar 1) (tCons (tVar 2) (tCons (tC (.int 2)) tNil)))) [4])
  (tLst (tCons (tC (.str "null")) (tCons (tC (.str "unset")) (tCons (tTup (tCons (tC (.str "fresh")) (tCons (tC (.str "A")) (tCons (tC (.int 3)) tNil)))) (tCons (tTup (tCons (tC (.str "fresh")) (tCons (tC (.str "A")) (tCons (tC (.int 4)) tNil)))) (tCons (tTup (tCons (tC (.str "class")) (tCons (tC (.str "A")) tNil))) (tCons (tTup (tCons (tC (.str "class")) (tCons (tC (.str "E")) tNil))) tNil)))))))
def more6 : List Kd := [.null, .unset, .fresh "A" 3, .fresh "A" 4, .cls "A", .cls "E"]
theorem kinds_run {s0 s3 s4 : Option V} {rest : L2.St} (S : Sd K t nm c cs H) (q : ∀ L xs (ks : List Kd) H', Bt t H H' → Sd K t nm c cs H' → H' L = some (.lst xs) → DpAll K H' xs (ks.map Kd.d) → (∀ k ∈ ks, GK k) → ks.length ≤ 100 → Q (.ref L) H') :
    t_kinds K (s0 :: some (.ref t) :: some (.ref nm) :: s3 :: s4 :: rest) H Q := by
  refine ⟨4, rfl, by omega, by omega, fun M hM => ?_⟩
  have tM : M ≠ t := fun e => by
    subst e
    obtain ⟨i, l, sd, x, Tt⟩ := S.tp
    rw [Tt.d] at hM
    cases hM
  refine lc_range (lo := 0) (n := 4) (fun i H' => Bt t H H' ∧ Sd K t nm c cs H' ∧ ∃ acc ks, H' M = some (.lst acc) ∧ DpAll K H' acc (Kd.dAll ks) ∧ ks.length = i ∧ ∀ k ∈ ks, Dr 2 k)
    ⟨Bt.ex (Ex.new hM), S.ex (Ex.new hM), [], [], upd_same, .nil, rfl, fun k hk => by cases hk⟩ ?_ ?_
  · rintro i H' hi ⟨bt, SS, acc, ks, hacc, hda, hkl, hks⟩
    show wipe ((wipe (s0 :: some (V.ref t) :: some (.ref nm) :: s3 :: s4 :: rest) [4]).set 4 (some (.int (0 + (i : Int))))) [4] = wipe (s0 :: some (V.ref t) :: some (.ref nm) :: s3 :: s4 :: rest) [4] ∧ _
    refine ⟨rfl, ?_⟩
    refine eb_kind (deep := 2) (σ := s0 :: some (.ref t) :: some (.ref nm) :: s3 :: some (.int (0 + (i : Int))) :: rest) SS (ea_cons (ev_var (i := 1) rfl) (ea_cons (ev_var (i := 2) rfl) (ea_cons ev_c ea_nil))) (by omega) _ fun v H7 b7 S7 ⟨k, hk, kv⟩ => ?_
    have h7 : H7 M = some (.lst acc) := b7 _ _ tM hacc
    have al : acc.length = i := by rw [dpa_len hda, dAll_map, List.length_map, hkl]
    have btU : Bt M H7 (upd H7 M (.lst (acc ++ [v]))) := fun b o nb hb => by rw [upd_ne nb]; exact hb
    have off : OffT (H7 M) := by rw [h7]; exact offT_lst
    have b8 : Bt t H (upd H7 M (.lst (acc ++ [v]))) := fun b o nb hb => by
      rw [upd_ne (ne_of_none hb hM)]
      exact b7 _ _ nb (bt _ _ nb hb)
    obtain ⟨i', l', s', x', T7⟩ := S7.tp
    have T8 : TapeAt K (upd H7 M (.lst (acc ++ [v]))) t c cs := ⟨i', l', s', x', by rw [upd_ne (Ne.symm tM)]; exact T7.d, by obtain ⟨_, _, _, _, T6⟩ := id S.tp; exact bt_l S.tp.off b8 T6.c, T7.l0, T7.cs0⟩
    refine ⟨acc, h7, sz_lt (by omega), b8, S.bt b8 T8, acc ++ [v], ks ++ [k], upd_same, ?_, by rw [List.length_append, hkl]; rfl, fun k' hk' => ?_⟩
    · rw [dAll_map, List.map_append, ← dAll_map]
      exact dpa_append (dpa_btT off btU (noLs_kd ks) (dpa_bt SS.tp.off b7 hda)) (.cons (dp_btT off btU (noL_kd k) kv) .nil)
    · rcases List.mem_append.mp hk' with h | h
      · exact hks k' h
      · have : k' = k := by simpa using h
        rw [this]
        exact hk
  · rintro H7 ⟨bt, S7, acc, ks, hacc, hda, hkl, hks⟩
    rw [dAll_map] at hda
    refine (enl_lst (K := K) (ds := more6.map Kd.d) (eda_cons ed_str (eda_cons ed_str (eda_cons (ed_tup (eda_cons ed_str (eda_cons ed_str (eda_cons ed_int eda_nil))) (by show 3 ≤ 1000; omega)) (eda_cons (ed_tup (eda_cons ed_str (eda_cons ed_str (eda_cons ed_int eda_nil))) (by show 3 ≤ 1000; omega)) (eda_cons (ed_tup (eda_cons ed_str (eda_cons ed_str eda_nil)) (by show 2 ≤ 1000; omega)) (eda_cons (ed_tup (eda_cons ed_str (eda_cons ed_str eda_nil)) (by show 2 ≤ 1000; omega)) eda_nil)))))) (by show 6 ≤ 1000; omega)) H7 (Ex.refl _) _ fun p2 ys H8 hp2 e8 h8 k8 => ?_
    have ks8 := dpa_ex e8 hda
    have l1 : acc.length = 4 := by rw [dpa_len hda, List.length_map, hkl]
    have l2 : ys.length = 6 := by rw [dpa_len k8]; rfl
    refine ⟨M, p2, acc, ys, rfl, rfl, e8 _ _ hacc, h8, sz_of (by omega), fun L hL => ?_⟩
    refine q L _ (ks ++ more6) _ (bt.trans (Bt.ex (e8.trans (Ex.new hL)))) (S7.ex (e8.trans (Ex.new hL))) upd_same ?_ (fun k hk => ?_) (by rw [List.length_append, hkl]; show 4 + 6 ≤ 100; omega)
    · rw [List.map_append]
      exact dpa_ex (Ex.new hL) (dpa_append ks8 k8)
    · rcases List.mem_append.mp hk with h | h
      · exact .dr (hks k h)
      · simp only [more6, List.mem_cons, List.not_mem_nil, or_false] at h
        rcases h with rfl | rfl | rfl | rfl | rfl | rfl
        · exact .null
        · exact .unset
        · exact .fresh 3
        · exact .fresh 4
        · exact .dr (Dr.clsOf 2 (by decide +kernel))
        · exact .dr (Dr.clsOf 2 (by decide +kernel))
theorem kvs_keys {ps : List Str} (hl : ps.length = 5) : (kvsOf ps).map (·.1) = dom6.map fun n => (.inr n : Key) := by
  match ps, hl with
  | [a, b, c, d, e], _ => rfl
end
end K01

set_option maxRecDepth 100000
set_option maxHeartbeats 8000000
/-! law_k01: law. -/
namespace K01
open PySem PySem.Spec PyProof.Rows L2 Evl Dat TL
section
variable {P : Program} {w : World} {K : PySem.W.Frag} {mg : Str → Option Value} {base : Heap} {C fI cc oA : Addr} {tL tD : Tok} {F : NdefX.NF} {fdI : FuncData} {f f1 f2 f3 f4 f5 f6 f7 f8 f9 f10 f11 f12 f13 f14 f15 : Addr} {fd fd1 fd2 fd3 fd4 fd5 fd6 fd7 fd8 fd9 fd10 fd11 fd12 fd13 fd14 fd15 : FuncData}
def spLaw (K : PySem.W.Frag) : Sp := fun vs H Q _ => ∃ (a : Addr) (ns : List Int), vs = [.ref a] ∧ SqL K H a (ns.map V.int) ∧ ns.length ≤ 63 ∧ ∀ H', Q (.bl true) H'
theorem ok_law (D_law : Def' K mg "law" s_law ["script"] f fd) (T : Txt P K mg C fI cc oA tL tD F fdI) (xfC : XfC K C)
    (D__law_tape : Def' K mg "_law_tape" s__law_tape ["script"] f1 fd1) (D__law_take : Def' K mg "_law_take" s__law_take ["tape", "many"] f2 fd2) (D__law_kind : Def' K mg "_law_kind" s__law_kind ["tape", "names", "deep"] f3 fd3)
    (D__law_text : Def' K mg "_law_text" s__law_text ["kind"] f4 fd4) (D__law_below : Def' K mg "_law_below" s__law_below ["parents", "one", "two"] f5 fd5) (D_write_type : Def' K mg "write_type" s_write_type ["kind"] f6 fd6)
    (D_read_type : Def' K mg "read_type" s_read_type ["text", "row"] f7 fd7) (D_type_at : Def' K mg "type_at" s_type_at ["text", "at", "row"] f8 fd8) (D_func_at : Def' K mg "func_at" s_func_at ["text", "at", "row"] f9 fd9)
    (D_is_name : Def' K mg "is_name" s_is_name ["word"] f10 fd10) (D_is_ref : Def' K mg "is_ref" s_is_ref ["kind"] f11 fd11) (D_is_fresh : Def' K mg "is_fresh" s_is_fresh ["kind"] f12 fd12) (D_is_below : Def' K mg "is_below" s_is_below ["parents", "first", "second"] f13 fd13)
    (D_line_of : Def' K mg "line_of" s_line_of ["parents", "name"] f14 fd14) (D_join : Def' K mg "join" s_join ["parents", "first", "second"] f15 fd15) {f16 : Addr} {fd16 : FuncData} (D_names_in : Def' K mg "names_in" s_names_in ["kind"] f16 fd16) :
    FnOk P w K mg base CX0 10 f fd ["script"] (spLaw K) := by
  have G__law_tape := ok__law_tape (w := w) (base := base) D__law_tape T
  have G__law_take := ok__law_take (w := w) (base := base) D__law_take T
  have G__law_kind := ok__law_kind (w := w) (base := base) D__law_kind D__law_take T 3
  have G__law_text := ok__law_text (w := w) (base := base) D__law_text T 3
  have G_write_type := ok_write_type (w := w) (base := base) D_write_type T 3
  have G_is_ref := ok_is_ref (w := w) (base := base) D_is_ref T
  have G_is_fresh := ok_is_fresh (w := w) (base := base) D_is_fresh T
  have G_names_in := ok_names_in (w := w) (base := base) D_names_in T 3
  have G_read_type := ok_read_type D_read_type D_type_at T 3 (ok_types (w := w) (base := base) D_type_at D_func_at D_is_name T 3).1
  have G__law_below : FnOk P w K mg base CX0 1 f5 fd5 ["parents", "one", "two"] (spBel K fun Tr a b => .bool (below Tr a b)) := fnEx fun Tr => ok__law_below D__law_below Tr
  have G_is_below : FnOk P w K mg base CX0 2 f13 fd13 ["parents", "first", "second"] (spBel K fun Tr a b => .bool (below Tr a b)) := fnEx fun Tr => ok_is_below D_is_below T D_is_ref D_is_fresh D_line_of Tr
  have G_join : FnOk P w K mg base CX0 2 f15 fd15 ["parents", "first", "second"] (spBel K fun Tr a b => (joinK Tr a b).d) := fnEx fun Tr => ok_join D_join T D_is_ref D_is_fresh D_line_of Tr
  have G_line_of : FnOk P w K mg base CX0 1 f14 fd14 ["parents", "name"] spLn := fnEx fun Tr => ok_line_of D_line_of Tr
  refine D_law.fn.ok sc_law (fun vs H Q E h => ?_) (fun cdv A outer s H vs Q E hr h => ?_)
  · obtain ⟨a, ns, rfl, _⟩ := h
    rfl
  · obtain ⟨a, ns, rfl, hS, hl, q⟩ := h
    refine ⟨_, (pss_cons (ps_set (i := 1) sc_law.nd rfl (by first | exact Or.inl rfl | exact Or.inr rfl) (pcall D__law_tape G__law_tape (hr.mono (by omega)) (pa_cons (pv 0) pa_nil)))
    (pss_cons (ps_asg (pe_tup (pa_cons (pe_lst (pa_cons pe_str (pa_cons pe_str (pa_cons pe_str (pa_cons pe_str (pa_cons pe_str pa_nil)))))) (pa_cons (pe_disp (pps_cons pe_str pe_non pps_nil) (by rfl) (by rfl) (fun z => by cases z) (by decide)) pa_nil))) (pg_tup rfl (pgs_cons (pg_name (i := 2) sc_law.nd rfl (by first | exact Or.inl rfl | exact Or.inr rfl)) (pgs_cons (pg_name (i := 3) sc_law.nd rfl (by first | exact Or.inl rfl | exact Or.inr rfl)) pgs_nil))))
    (pss_cons (ps_for PassesOwn.never rfl (pi_range1 (by rfl) T.z_range (pa_cons pe_int pa_nil)) (pg_name (i := 4) sc_law.nd rfl (by first | exact Or.inl rfl | exact Or.inr rfl)) (pss_one (ps_dput (hu_of hr) (pv 3) (pe_ix ix_seq (pv 2) (pv 4) (fun _ _ => rfl)) (pe_ix ix_seq (pe_op op_cat (pe_lst (pa_cons pe_str pa_nil)) (pe_slice sl_list (pv 2) po_none (po_some (pv 4)))) (pcall D__law_take G__law_take (hr.mono (by omega)) (pa_cons (pv 1) (pa_cons (pe_op op_add (pv 4) pe_int) pa_nil))) (fun _ _ => rfl)) rfl)))
    (pss_cons (ps_set (i := 5) sc_law.nd rfl (by first | exact Or.inl rfl | exact Or.inr rfl) (pe_op op_cat (pe_lc (own := [("k", 4)]) (g := gName 4) (by rfl) sc_law.nd (pi_range1 (by rfl) T.z_range (pa_cons pe_int pa_nil)) (blkOk_by (own := [("k", 4)]) (N := ["script", "tape", "names", "parents", "k", "kinds", "one", "two", "both", "above", "kind", "name", "line", "found", "wrongs", "text", "e"]) (sc := defScope s_law) (by decide +kernel)) (fun _ _ _ _ _ => pg_name (i := 4) sc_law.nd rfl (Or.inl rfl)) (fun _ _ _ _ _ => pts_nil) (fun _ _ _ _ _ => (pcall D__law_kind G__law_kind (hr.mono (by omega)) (pa_cons (pv 1) (pa_cons (pv 2) (pa_cons pe_int pa_nil)))))) (pe_lst (pa_cons pe_str (pa_cons pe_str (pa_cons (pe_tup (pa_cons pe_str (pa_cons pe_str (pa_cons pe_int pa_nil)))) (pa_cons (pe_tup (pa_cons pe_str (pa_cons pe_str (pa_cons pe_int pa_nil)))) (pa_cons (pe_tup (pa_cons pe_str (pa_cons pe_str pa_nil))) (pa_cons (pe_tup (pa_cons pe_str (pa_cons pe_str pa_nil))) pa_nil)))))))))
    (pss_cons (ps_for PassesOwn.never rfl (pi_list (pv 5)) (pg_name (i := 6) sc_law.nd rfl (by first | exact Or.inl rfl | exact Or.inr rfl)) (pss_cons (ps_if ((pw_and (pt_cmpR (op_notInT (un65 hr)) (pv 6) (pe_tup (pa_cons pe_str (pa_cons pe_str pa_nil))) (by rfl)) (pw_and (pt_cmpR (op_neD (un64 hr)) (pe_ix ix_seq (pv 6) pe_int (fun _ _ => rfl)) pe_str (nomark _)) (pw_and1 ((pw_or (pt_cmpR op_ne (pcall D_write_type G_write_type (hr.mono (by omega)) (pa_cons (pv 6) pa_nil)) (pcall D__law_text G__law_text (hr.mono (by omega)) (pa_cons (pv 6) pa_nil)) (nomark _)) (pw_or1 (pt_cmpR (op_neD (un64 hr)) (pcallX D_read_type G_read_type (hr.mono (by omega)) (fun σ => passAt takes0 σ) (pa_cons (pcall D__law_text G__law_text (hr.mono (by omega)) (pa_cons (pv 6) pa_nil)) (pa_cons pe_int pa_nil))) (pv 6) (nomark _))))).pt)))).pt (pss_one (ps_ret pe_bl)) pss_nil)
    (pss_cons (ps_if ((pw_or (pt_cmpR op_ne (pcall D_is_ref G_is_ref (hr.mono (by omega)) (pa_cons (pv 6) pa_nil)) (pe_cmpR (op_notInT (un65 hr)) (pv 6) (pe_tup (pa_cons pe_str (pa_cons pe_str pa_nil))) (by rfl)) (nomark _)) (pw_or1 (pt_cmpR op_ne (pcall D_is_fresh G_is_fresh (hr.mono (by omega)) (pa_cons (pv 6) pa_nil)) (pe_cmpR (op_eqD (un64 hr)) (pe_ix ix_seq (pv 6) pe_int (fun _ _ => rfl)) pe_str (nomark _)) (nomark _))))).pt (pss_one (ps_ret pe_bl)) pss_nil)
    (pss_one (ps_for PassesOwn.never rfl (pi_list (pv 5)) (pg_name (i := 7) sc_law.nd rfl (by first | exact Or.inl rfl | exact Or.inr rfl)) (pss_cons (ps_if (pt_cmpR op_ne (pcall D_is_below G_is_below (hr.mono (by omega)) (pa_cons (pv 3) (pa_cons (pv 6) (pa_cons (pv 7) pa_nil)))) (pcall D__law_below G__law_below (hr.mono (by omega)) (pa_cons (pv 3) (pa_cons (pv 6) (pa_cons (pv 7) pa_nil)))) (nomark _)) (pss_one (ps_ret pe_bl)) pss_nil)
    (pss_cons (ps_set (i := 8) sc_law.nd rfl (by first | exact Or.inl rfl | exact Or.inr rfl) (pcall D_join G_join (hr.mono (by omega)) (pa_cons (pv 3) (pa_cons (pv 6) (pa_cons (pv 7) pa_nil)))))
    (pss_cons (ps_if (pt_cmpR (op_neD (un64 hr)) (pv 8) (pcall D_join G_join (hr.mono (by omega)) (pa_cons (pv 3) (pa_cons (pv 7) (pa_cons (pv 6) pa_nil)))) (nomark _)) (pss_one (ps_ret pe_bl)) pss_nil)
    (pss_cons (ps_setLc (i := 9) (own := [("kind", 10)]) (g := gName 10) (by rfl) sc_law.nd rfl rfl (sw_true rfl rfl rfl (by decide +kernel)) (pi_list (pe_op op_cat (pv 5) (pe_lock (pe_lc (own := [("name", 11)]) (g := gName 11) (by rfl) sc_law.nd (pi_keys (pv 3)) (blkOk_by (own := [("name", 11)]) (N := ["script", "tape", "names", "parents", "k", "kinds", "one", "two", "both", "above", "kind", "name", "line", "found", "wrongs", "text", "e"]) (sc := defScope s_law) (by decide +kernel)) (fun _ _ _ _ _ => pg_name (i := 11) sc_law.nd rfl (Or.inl rfl)) (fun _ _ _ _ _ => pts_nil) (fun _ _ _ _ _ => (pe_tup (pa_cons pe_str (pa_cons (pv 11) pa_nil)))))))) (blkOk_by (own := [("kind", 10)]) (N := ["script", "tape", "names", "parents", "k", "kinds", "one", "two", "both", "above", "kind", "name", "line", "found", "wrongs", "text", "e"]) (sc := defScope s_law) (by decide +kernel)) (fun _ _ _ _ _ => pg_name (i := 10) sc_law.nd rfl (Or.inl rfl)) (fun _ _ _ _ _ => (pts_one ((pw_and (pt_val (pcall D__law_below G__law_below (hr.mono (by omega)) (pa_cons (pv 3) (pa_cons (pv 6) (pa_cons (pv 10) pa_nil))))) (pw_and1 (pt_val (pcall D__law_below G__law_below (hr.mono (by omega)) (pa_cons (pv 3) (pa_cons (pv 7) (pa_cons (pv 10) pa_nil)))))))).pt)) (fun _ _ _ _ _ => (pv 10)))
    (pss_one (ps_if (pt_cmpR (op_eqD (un64 hr)) (pv 8) pe_str (nomark _)) (pss_one (ps_if ((pw_and (pt_cmpR (op_neD (un64 hr)) (pv 9) (pe_lst pa_nil) (nomark _)) (pw_and1 (pt_cmpR (op_neD (un64 hr)) (pv 6) (pv 7) (nomark _))))).pt (pss_one (ps_ret pe_bl)) pss_nil)) (pss_one (ps_if ((pw_or (pt_not (pt_val (pcall D__law_below G__law_below (hr.mono (by omega)) (pa_cons (pv 3) (pa_cons (pv 6) (pa_cons (pv 8) pa_nil)))))) (pw_or (pt_not (pt_val (pcall D__law_below G__law_below (hr.mono (by omega)) (pa_cons (pv 3) (pa_cons (pv 7) (pa_cons (pv 8) pa_nil)))))) (pw_or1 (pt_val (pe_callB (cr_any rfl) (by rfl) T.z_any (by decide +kernel) (pa_cons (pe_lc (own := [("kind", 10)]) (g := gName 10) (by rfl) sc_law.nd (pi_list (pv 9)) (blkOk_by (own := [("kind", 10)]) (N := ["script", "tape", "names", "parents", "k", "kinds", "one", "two", "both", "above", "kind", "name", "line", "found", "wrongs", "text", "e"]) (sc := defScope s_law) (by decide +kernel)) (fun _ _ _ _ _ => pg_name (i := 10) sc_law.nd rfl (Or.inl rfl)) (fun _ _ _ _ _ => pts_nil) (fun _ _ _ _ _ => (pe_not (pcall D__law_below G__law_below (hr.mono (by omega)) (pa_cons (pv 3) (pa_cons (pv 8) (pa_cons (pv 10) pa_nil))))))) pa_nil))))))).pt (pss_one (ps_ret pe_bl)) pss_nil)))))))))))))
    (pss_cons (ps_par (i := 12) (j := 11) (by first | rfl | assumption) sc_law.nd rfl rfl (by decide) rfl rfl (pa_cons (pe_lst pa_nil) (pa_cons (pe_ix ix_seq (pv 2) (pcall D__law_take G__law_take (hr.mono (by omega)) (pa_cons (pv 1) (pa_cons pe_int pa_nil))) (fun _ _ => rfl)) pa_nil)) (by rfl))
    (pss_cons (ps_while PassesOwn.never (pt_cmp (pc_notN (pv 11))) (pss_cons (ps_expr (pe_bm PySem.F.plainAttrs_list PySem.F.slot_list_append PySem.F.type_list_append mt_append (pv 12) (pa_cons (pv 11) pa_nil)))
    (pss_one (ps_set (i := 11) sc_law.nd rfl (by first | exact Or.inl rfl | exact Or.inr rfl) (pe_dget (hu_of hr) (pv 3) (pv 11) (fun _ _ => rfl))))))
    (pss_cons (ps_if ((pw_or (pt_cmpR (op_neD (un64 hr)) (pcall D_line_of G_line_of (hr.mono (by omega)) (pa_cons (pv 3) (pa_cons (pe_ix ix_seq (pv 12) pe_int (fun _ _ => rfl)) pa_nil))) (pv 12) (nomark _)) (pw_or1 (pt_cmpR (op_neD (un64 hr)) (pe_callB (SetTx.cr_sortedTx (by rfl)) (by rfl) T.z_sorted (by decide +kernel) (pa_cons (pe_callTy (SetTx.cr_setTx (by rfl)) (by rfl) T.z_set (by decide +kernel) (pa_cons (pcall D_names_in G_names_in (hr.mono (by omega)) (pa_cons (pe_tup (pa_cons pe_str (pa_cons (pe_tup (pa_cons (pe_tup (pa_cons pe_str (pa_cons pe_str pa_nil))) (pa_cons (pe_tup (pa_cons pe_str (pa_cons (pe_tup (pa_cons pe_str (pa_cons pe_str pa_nil))) pa_nil))) pa_nil))) (pa_cons pe_str pa_nil)))) pa_nil)) pa_nil)) pa_nil)) (pe_lst (pa_cons pe_str (pa_cons pe_str pa_nil))) (nomark _))))).pt (pss_one (ps_ret pe_bl)) pss_nil)
    (pss_cons (ps_set (i := 13) sc_law.nd rfl (by first | exact Or.inl rfl | exact Or.inr rfl) pe_int)
    (pss_cons (ps_set (i := 14) sc_law.nd rfl (by first | exact Or.inl rfl | exact Or.inr rfl) (pe_lst (pa_cons pe_str (pa_cons pe_str (pa_cons pe_str (pa_cons pe_str (pa_cons pe_str (pa_cons pe_str (pa_cons pe_str (pa_cons pe_str (pa_cons pe_str (pa_cons pe_str (pa_cons pe_str (pa_cons pe_str (pa_cons pe_str (pa_cons pe_str (pa_cons pe_str pa_nil)))))))))))))))))
    (pss_cons (ps_for PassesOwn.never rfl (pi_list (pv 14)) (pg_name (i := 15) sc_law.nd rfl (by first | exact Or.inl rfl | exact Or.inr rfl)) (pss_one (ps_try_as (i := 16) (tb := TB_law K C) (ts := TS_law C) (Wout := fun _ _ _ _ => False) rfl rfl sc_law.nd rfl rfl ⟨rfl, by decide, Or.inl T.g_TextError⟩ takes0
    (fun W pn xe tk _ => (pss_one (ps_expr (pcallX D_read_type G_read_type (hr.mono (by omega)) (fun σ => passAt tk σ) (pa_cons (pv 15) (pa_cons pe_int pa_nil))))))
    (fun a oe cls d pn hz hf => (pss_one (ps_set (i := 13) sc_law.nd rfl (by first | exact Or.inl rfl | exact Or.inr rfl) (pe_op op_add (pv 13) (pe_ifExp ((pw_and (pt_cmpR op_eq (pe_xf xfC T.nRow hz hf (pv 16)) pe_int (nomark _)) (pw_and1 (pt_cmpR op_eq (pe_xf xfC T.nWord hz hf (pv 16)) pe_str (nomark _))))).pt pe_int pe_int))))))))
    (pss_one (ps_ret (pe_cmpR op_eq (pv 13) (pe_callB call_len (by rfl) T.z_len PySem.boot_len (pa_cons (pv 14) pa_nil)) (nomark _))))))))))))))), ?_⟩
    refine call_tape (ea_cons (ev_var (i := 0) rfl) ea_nil) hS hl fun t c cs H1 ht e1 hT => ?_
    refine q_pairLK (xs := nms.map V.str) (kvs := kvsOf []) (el_lst (ea_cons ev_c (ea_cons ev_c (ea_cons ev_c (ea_cons ev_c (ea_cons ev_c ea_nil))))) (by show 5 ≤ 100000; omega)) (ek_disp (show EvPs _ _ [(tC (.str "Object"), tC .non)] (kvsOf []) from ⟨ev_c, ev_c, True.intro⟩) (by show 1 ≤ 15; omega) (by show [(.inr obj : Key)].Nodup; decide +kernel)) fun nm pr H2 hnm hpr e2 h2n h2p => ?_
    have npt : pr ≠ t := fun e => by
      obtain ⟨_, _, _, _, Tt⟩ := hT
      rw [e, Tt.d] at hpr
      cases hpr
    have S2 : Sd K t nm c cs H2 := ⟨hT.ex e2, sq_of h2n⟩
    refine q_forR1 (n := 5) (ea_cons ev_c ea_nil) ⟨by omega, by omega⟩ (fun i σ' H' => ∃ (ps : List Str) (o4 : Option V), σ' = [some (.ref a), some (.ref t), some (.ref nm), some (.ref pr), o4, none, none, none, none, none, none, none, none, none, none, none, none] ∧ ps.length = i ∧ goodP ps ∧ H' pr = some (.dK (kvsOf ps)) ∧ Sd K t nm c cs H')
      (fun H3 e3 => ⟨[], none, rfl, rfl, fun j p h => by simp at h, e3 _ _ h2p, S2.ex e3⟩) ?_ ?_
    · rintro i σ' H' hi ⟨ps, o4, rfl, rfl, hg, hp, S⟩
      exact turn_par (s0 := some (.ref a)) (rest := [none, none, none, none, none, none, none, none, none, none, none, none]) S hp npt (by omega) hg fun x H4 g4 p4 S4 => ⟨ps ++ [x], _, rfl, by rw [List.length_append]; rfl, g4, p4, S4⟩
    rintro σ' H3 ⟨ps, o4, rfl, hpl, hg, hp3, S3⟩
    have hpl : ps.length = 5 := hpl
    refine kinds_run S3 fun L xs ks H4 b4 S4 hL kx gk hkl => ?_
    have hp4 := b4 _ _ npt hp3
    have lp : Lp K (treeOf ps hpl hg) (kvsOf ps) pr L xs ks H4 := ⟨hp4, pat_of ps hpl hg, rfl, kvs_keys hpl, hL, kx, gk, hkl⟩
    refine q_forLn (K := K) (a := L) (xs := xs) (ev_var (i := 5) rfl) (sq_of hL) (fun i σ' H' => ∃ o6 o7 o8 o9, σ' = stI (.ref a) (.ref t) (.ref nm) pr o4 L o6 o7 o8 o9 ∧ Ex H4 H') (fun H5 e5 => ⟨_, _, _, _, rfl, e5⟩) (fun i σ' H' _ ⟨_, _, _, _, _, ex⟩ => sq_of (ex _ _ hL)) ?_ ?_
    · rintro i x σ' H' hx ⟨o6, o7, o8, o9, rfl, ex⟩
      obtain ⟨d, hd, kd⟩ := dpa_get' (lp.ex ex).vals hx
      rw [List.getElem?_map] at hd
      obtain ⟨k1, hk1, rfl⟩ : ∃ k1, ks[i]? = some k1 ∧ Kd.d k1 = d := by
        cases e : ks[i]? with
        | none => rw [e] at hd; cases hd
        | some z => rw [e] at hd; exact ⟨z, rfl, Option.some.inj hd⟩
      exact K01.outer (lp.ex ex) kd (gk _ (List.mem_of_getElem? hk1)) fun o7 o8 o9 H5 e5 => ⟨_, _, _, _, rfl, ex.trans e5⟩
    rintro σ' H5 ⟨o6, o7, o8, o9, rfl, ex⟩
    exact pure_line (Tr := treeOf ps hpl hg) T (S4.ex ex) (ex _ _ hp4) npt (pat_of ps hpl hg) rfl q
end
end K01

set_option maxRecDepth 100000
set_option maxHeartbeats 8000000
/-! law_k01: what the top has written; the end. -/
namespace K01
open PySem PySem.Spec PyProof.Rows L2 Evl Dat TL
theorem exm_own {K : PySem.W.Frag} {S : Addr} (h1 : PySem.W.subIn K (.ref S) (.type "BaseException") = some true) (h2 : PySem.W.isClsIn K S = true) (h3 : PySem.W.typeIn K (.ref S) = some (.type "type")) (h4 : PySem.W.subIn K (.ref S) (.ref S) = some true) :
    PySem.W.exmOne K (.ref S) (.ref S) = some true := by
  have q1 : (PySem.W.subIn K (.ref S) (.type "BaseException") == some true) = true := by rw [h1]; rfl
  have q2 : ((PySem.W.clsIn K S).isSome && PySem.W.typeIn K (.ref S) == some (.type "type")) = true := by
    rw [show (PySem.W.clsIn K S).isSome = true from h2, h3]; rfl
  show (if (PySem.W.subIn K (.ref S) (.type "BaseException") == some true) = true then (if ((PySem.W.clsIn K S).isSome && PySem.W.typeIn K (.ref S) == some (.type "type")) = true then PySem.W.subIn K (.ref S) (.ref S) else none) else none) = some true
  rw [if_pos q1, if_pos q2]
  exact h4
theorem all_mk {w : World} {K : PySem.W.Frag} {h : Heap} {mg : Str → Option Value} {fa C fI cc cda oA f1 f2 f3 f4 f5 f6 f7 f8 f9 f10 f11 f12 f13 f14 f15 f16 f17 : Addr} (X : K.In h) (G : h.Ns mainGlobals mg) (hfa : mg "law" = some (.ref fa))
    {nm q : Str} {N : Addr} {bs bm : List Value} {sn : List Str} {sub : List Value} {ab : Bool} {col : Option Bool} {dd : Option Addr} {m0 m1 m2 m3 m5 : Option Value}
    {odI anI cdd ced odO od1 od2 od3 od4 od5 od6 od7 od8 od9 od10 od11 od12 od13 od14 od15 od16 od17 an1 an2 an3 an4 an5 an6 an7 an8 an9 an10 an11 an12 an13 an14 an15 an16 an17 : Option Addr} {slI ccs ces slO sl1 sl2 sl3 sl4 sl5 sl6 sl7 sl8 sl9 sl10 sl11 sl12 sl13 sl14 sl15 sl16 sl17 : Array (Option Value)} {ocI dcI pmI ctI ccl ceo oc1 kV1 dc1 pm1 cd1 ct1 oc2 kV2 dc2 pm2 cd2 ct2 oc3 kV3 dc3 pm3 cd3 ct3 oc4 kV4 dc4 pm4 cd4 ct4 oc5 kV5 dc5 pm5 cd5 ct5 oc6 kV6 dc6 pm6 cd6 ct6 oc7 kV7 dc7 pm7 cd7 ct7 oc8 kV8 dc8 pm8 cd8 ct8 oc9 kV9 dc9 pm9 cd9 ct9 oc10 kV10 dc10 pm10 cd10 ct10 oc11 kV11 dc11 pm11 cd11 ct11 oc12 kV12 dc12 pm12 cd12 ct12 oc13 kV13 dc13 pm13 cd13 ct13 oc14 kV14 dc14 pm14 cd14 ct14 oc15 kV15 dc15 pm15 cd15 ct15 oc16 kV16 dc16 pm16 cd16 ct16 oc17 kV17 dc17 pm17 cd17 ct17 : Value} {vsC itsO : Array Value} {sL sD file : Str} {tL tD tf : Tok} {nO : Nat}
    (aC : PySem.W.nsIn K mainGlobals "TextError" = some (some (.ref C)))
    (xL : K.lookup C = some (excClassObj nm q C N bs bm true sn sub ab col dd m0 m1 m2 m3 m5 "ValueError.__new__"))
    (bmOk : PySem.HandSPX.refsVE bm = true)
    (sa : PySem.W.findIn K (.ref C) "__setattr__" = some (some (.builtin "object.__setattr__")))
    (ga : PySem.W.findIn K (.ref C) "__getattribute__" = some (some (.builtin "BaseException.__getattribute__")))
    (gg : PySem.W.findIn K (.ref C) "__getattr__" = some none)
    (nR : PySem.W.findIn K (.ref C) "row" = some none)
    (nW : PySem.W.findIn K (.ref C) "word" = some none)
    (iI : PySem.W.findIn K (.ref C) "__init__" = some (some (.ref fI)))
    (tI : PySem.W.typeIn K (.ref fI) = some (.type "function"))
    (lI : K.lookup fI = some ⟨ocI, odI, .func (PySem.W.fnX "__init__" "TextError.__init__" (defArgs s_TextError___init__) (defBody s_TextError___init__) (defScope s_TextError___init__) [(("__class__" : Str), cc)] .none .none dcI pmI anI (.ref cda) ctI), slI⟩)
    (cI : PySem.W.codeIn K (.ref cda) "TextError.__init__" = true)
    (lCo : K.lookup cda = some ⟨ccl, cdd, .fields vsC, ccs⟩)
    (vC : vsC[2]? = some (.str file tf))
    (fC : ((PySem.Challenge.rw_verifiedruns_k01_kinds_of_values.prog.main.file : Str) == file) = true)
    (lCe : K.lookup cc = some ⟨ceo, ced, .cell (some (.ref C)), ces⟩)
    (an : PySem.W.nsIn K PySem.cStatics "thirdparty.any" = some none)
    (al : PySem.W.ks_superIn K C C "__init__" = some (some (.builtin "ValueError.__init__")))
    (sV : PySem.W.subIn K (.ref C) (.type "ValueError") = some true)
    (mC : PySem.W.mroIn K C (.ref C) = some true)
    (kC : PySem.W.keepIn K (.ref C) = true)
    (eC : PySem.W.subIn K (.ref C) (.type "BaseException") = some true)
    (tC : PySem.W.typeIn K (.ref C) = some (.type "type"))
    (hC : PySem.W.hasDictIn K C = true)
    (isC : PySem.W.isClsIn K C = true)
    (sC : PySem.W.subIn K (.ref C) (.ref C) = some true)
    (aLe : PySem.W.nsIn K mainGlobals "LETTERS" = some (some (.str sL tL)))
    (eLe : sL = LET)
    (aDi : PySem.W.nsIn K mainGlobals "DIGITS" = some (some (.str sD tD)))
    (eDi : sD = DIG)
    (aOb : PySem.W.nsIn K mainGlobals "OBJECT" = some (some (.ref oA)))
    (lOb : K.lookup oA = some ⟨.type "tuple", odO, .seq itsO nO, slO⟩)
    (vOb : Vals [V.str "class", V.str "Object"] itsO.toList)
    (zOb : itsO.size ≤ sizeLine)
    (z_isinstance : PySem.W.nsIn K mainGlobals "isinstance" = some none)
    (z_str : PySem.W.nsIn K mainGlobals "str" = some none)
    (z_len : PySem.W.nsIn K mainGlobals "len" = some none)
    (z_all : PySem.W.nsIn K mainGlobals "all" = some none)
    (z_any : PySem.W.nsIn K mainGlobals "any" = some none)
    (z_abs : PySem.W.nsIn K mainGlobals "abs" = some none)
    (z_int : PySem.W.nsIn K mainGlobals "int" = some none)
    (z_tuple : PySem.W.nsIn K mainGlobals "tuple" = some none)
    (z_range : PySem.W.nsIn K mainGlobals "range" = some none)
    (z_sorted : PySem.W.nsIn K mainGlobals "sorted" = some none)
    (z_set : PySem.W.nsIn K mainGlobals "set" = some none)
    (z_super : PySem.W.nsIn K mainGlobals "super" = some none)
    (a1 : PySem.W.nsIn K mainGlobals "is_name" = some (some (.ref f1)))
    (l1 : K.lookup f1 = some ⟨oc1, od1, .func (PySem.W.fnOf "is_name" "is_name" (defArgs s_is_name) (defBody s_is_name) (defScope s_is_name) .none kV1 dc1 pm1 an1 cd1 ct1), sl1⟩)
    (c1 : PySem.W.codeIn K cd1 "is_name" = true)
    (k1 : PySem.W.keepIn K (.ref f1) = true)
    (a2 : PySem.W.nsIn K mainGlobals "write_type" = some (some (.ref f2)))
    (l2 : K.lookup f2 = some ⟨oc2, od2, .func (PySem.W.fnOf "write_type" "write_type" (defArgs s_write_type) (defBody s_write_type) (defScope s_write_type) .none kV2 dc2 pm2 an2 cd2 ct2), sl2⟩)
    (c2 : PySem.W.codeIn K cd2 "write_type" = true)
    (k2 : PySem.W.keepIn K (.ref f2) = true)
    (a3 : PySem.W.nsIn K mainGlobals "read_type" = some (some (.ref f3)))
    (l3 : K.lookup f3 = some ⟨oc3, od3, .func (PySem.W.fnOf "read_type" "read_type" (defArgs s_read_type) (defBody s_read_type) (defScope s_read_type) .none kV3 dc3 pm3 an3 cd3 ct3), sl3⟩)
    (c3 : PySem.W.codeIn K cd3 "read_type" = true)
    (k3 : PySem.W.keepIn K (.ref f3) = true)
    (a4 : PySem.W.nsIn K mainGlobals "type_at" = some (some (.ref f4)))
    (l4 : K.lookup f4 = some ⟨oc4, od4, .func (PySem.W.fnOf "type_at" "type_at" (defArgs s_type_at) (defBody s_type_at) (defScope s_type_at) .none kV4 dc4 pm4 an4 cd4 ct4), sl4⟩)
    (c4 : PySem.W.codeIn K cd4 "type_at" = true)
    (k4 : PySem.W.keepIn K (.ref f4) = true)
    (a5 : PySem.W.nsIn K mainGlobals "func_at" = some (some (.ref f5)))
    (l5 : K.lookup f5 = some ⟨oc5, od5, .func (PySem.W.fnOf "func_at" "func_at" (defArgs s_func_at) (defBody s_func_at) (defScope s_func_at) .none kV5 dc5 pm5 an5 cd5 ct5), sl5⟩)
    (c5 : PySem.W.codeIn K cd5 "func_at" = true)
    (k5 : PySem.W.keepIn K (.ref f5) = true)
    (a6 : PySem.W.nsIn K mainGlobals "is_ref" = some (some (.ref f6)))
    (l6 : K.lookup f6 = some ⟨oc6, od6, .func (PySem.W.fnOf "is_ref" "is_ref" (defArgs s_is_ref) (defBody s_is_ref) (defScope s_is_ref) .none kV6 dc6 pm6 an6 cd6 ct6), sl6⟩)
    (c6 : PySem.W.codeIn K cd6 "is_ref" = true)
    (k6 : PySem.W.keepIn K (.ref f6) = true)
    (a7 : PySem.W.nsIn K mainGlobals "is_fresh" = some (some (.ref f7)))
    (l7 : K.lookup f7 = some ⟨oc7, od7, .func (PySem.W.fnOf "is_fresh" "is_fresh" (defArgs s_is_fresh) (defBody s_is_fresh) (defScope s_is_fresh) .none kV7 dc7 pm7 an7 cd7 ct7), sl7⟩)
    (c7 : PySem.W.codeIn K cd7 "is_fresh" = true)
    (k7 : PySem.W.keepIn K (.ref f7) = true)
    (a8 : PySem.W.nsIn K mainGlobals "is_below" = some (some (.ref f8)))
    (l8 : K.lookup f8 = some ⟨oc8, od8, .func (PySem.W.fnOf "is_below" "is_below" (defArgs s_is_below) (defBody s_is_below) (defScope s_is_below) .none kV8 dc8 pm8 an8 cd8 ct8), sl8⟩)
    (c8 : PySem.W.codeIn K cd8 "is_below" = true)
    (k8 : PySem.W.keepIn K (.ref f8) = true)
    (a9 : PySem.W.nsIn K mainGlobals "line_of" = some (some (.ref f9)))
    (l9 : K.lookup f9 = some ⟨oc9, od9, .func (PySem.W.fnOf "line_of" "line_of" (defArgs s_line_of) (defBody s_line_of) (defScope s_line_of) .none kV9 dc9 pm9 an9 cd9 ct9), sl9⟩)
    (c9 : PySem.W.codeIn K cd9 "line_of" = true)
    (k9 : PySem.W.keepIn K (.ref f9) = true)
    (a10 : PySem.W.nsIn K mainGlobals "join" = some (some (.ref f10)))
    (l10 : K.lookup f10 = some ⟨oc10, od10, .func (PySem.W.fnOf "join" "join" (defArgs s_join) (defBody s_join) (defScope s_join) .none kV10 dc10 pm10 an10 cd10 ct10), sl10⟩)
    (c10 : PySem.W.codeIn K cd10 "join" = true)
    (k10 : PySem.W.keepIn K (.ref f10) = true)
    (a11 : PySem.W.nsIn K mainGlobals "names_in" = some (some (.ref f11)))
    (l11 : K.lookup f11 = some ⟨oc11, od11, .func (PySem.W.fnOf "names_in" "names_in" (defArgs s_names_in) (defBody s_names_in) (defScope s_names_in) .none kV11 dc11 pm11 an11 cd11 ct11), sl11⟩)
    (c11 : PySem.W.codeIn K cd11 "names_in" = true)
    (k11 : PySem.W.keepIn K (.ref f11) = true)
    (a12 : PySem.W.nsIn K mainGlobals "_law_tape" = some (some (.ref f12)))
    (l12 : K.lookup f12 = some ⟨oc12, od12, .func (PySem.W.fnOf "_law_tape" "_law_tape" (defArgs s__law_tape) (defBody s__law_tape) (defScope s__law_tape) .none kV12 dc12 pm12 an12 cd12 ct12), sl12⟩)
    (c12 : PySem.W.codeIn K cd12 "_law_tape" = true)
    (k12 : PySem.W.keepIn K (.ref f12) = true)
    (a13 : PySem.W.nsIn K mainGlobals "_law_take" = some (some (.ref f13)))
    (l13 : K.lookup f13 = some ⟨oc13, od13, .func (PySem.W.fnOf "_law_take" "_law_take" (defArgs s__law_take) (defBody s__law_take) (defScope s__law_take) .none kV13 dc13 pm13 an13 cd13 ct13), sl13⟩)
    (c13 : PySem.W.codeIn K cd13 "_law_take" = true)
    (k13 : PySem.W.keepIn K (.ref f13) = true)
    (a14 : PySem.W.nsIn K mainGlobals "_law_kind" = some (some (.ref f14)))
    (l14 : K.lookup f14 = some ⟨oc14, od14, .func (PySem.W.fnOf "_law_kind" "_law_kind" (defArgs s__law_kind) (defBody s__law_kind) (defScope s__law_kind) .none kV14 dc14 pm14 an14 cd14 ct14), sl14⟩)
    (c14 : PySem.W.codeIn K cd14 "_law_kind" = true)
    (k14 : PySem.W.keepIn K (.ref f14) = true)
    (a15 : PySem.W.nsIn K mainGlobals "_law_text" = some (some (.ref f15)))
    (l15 : K.lookup f15 = some ⟨oc15, od15, .func (PySem.W.fnOf "_law_text" "_law_text" (defArgs s__law_text) (defBody s__law_text) (defScope s__law_text) .none kV15 dc15 pm15 an15 cd15 ct15), sl15⟩)
    (c15 : PySem.W.codeIn K cd15 "_law_text" = true)
    (k15 : PySem.W.keepIn K (.ref f15) = true)
    (a16 : PySem.W.nsIn K mainGlobals "_law_below" = some (some (.ref f16)))
    (l16 : K.lookup f16 = some ⟨oc16, od16, .func (PySem.W.fnOf "_law_below" "_law_below" (defArgs s__law_below) (defBody s__law_below) (defScope s__law_below) .none kV16 dc16 pm16 an16 cd16 ct16), sl16⟩)
    (c16 : PySem.W.codeIn K cd16 "_law_below" = true)
    (k16 : PySem.W.keepIn K (.ref f16) = true)
    (a17 : PySem.W.nsIn K mainGlobals "law" = some (some (.ref f17)))
    (l17 : K.lookup f17 = some ⟨oc17, od17, .func (PySem.W.fnOf "law" "law" (defArgs s_law) (defBody s_law) (defScope s_law) .none kV17 dc17 pm17 an17 cd17 ct17), sl17⟩)
    (c17 : PySem.W.codeIn K cd17 "law" = true)
    (k17 : PySem.W.keepIn K (.ref f17) = true) :
    ∃ fd : FuncData, (∀ (s : Shared) (u : Value), BindsTo s fd ⟨[u], []⟩ [("script", u)]) ∧ ∀ base : Heap, K.In base → base.Ns mainGlobals mg → FnOk PySem.Challenge.rw_verifiedruns_k01_kinds_of_values.prog w K mg base CX0 10 fa fd ["script"] (spLaw K) := by
  have e := hfa.symm.trans (PySem.W.mg_of X G a17)
  cases e
  subst eLe eDi
  have F : NdefX.NF := NdefX.NF.of s_TextError___init__ "__init__" "TextError.__init__" [(("__class__" : Str), cc)] cda
  have oex : OexC K C := ⟨⟨nm, q, N, bs, bm, sn, sub, ab, col, dd, m0, m1, m2, m3, m5, xL, bmOk⟩, sa, eC, tC, kC⟩
  have T : Txt PySem.Challenge.rw_verifiedruns_k01_kinds_of_values.prog K mg C fI cc oA tL tD (NdefX.NF.of s_TextError___init__ "__init__" "TextError.__init__" [(("__class__" : Str), cc)] cda) (PySem.W.fnX "__init__" "TextError.__init__" (defArgs s_TextError___init__) (defBody s_TextError___init__) (defScope s_TextError___init__) [(("__class__" : Str), cc)] .none .none dcI pmI anI (.ref cda) ctI) :=
    { g_LETTERS := PySem.W.mg_of X G aLe, g_DIGITS := PySem.W.mg_of X G aDi, g_OBJECT := PySem.W.mg_of X G aOb
      obA := fun H => .inr ⟨_, _, _, lOb, rfl, rfl, zOb, vOb⟩
      g_TextError := PySem.W.mg_of X G aC
      isi := fun d => match d with
        | .none => kit_ty (show kitB "NoneType" "str" = some false by decide +kernel)
        | .bool _ => kit_ty (show kitB "bool" "str" = some false by decide +kernel)
        | .int _ => kit_ty (show kitB "int" "str" = some false by decide +kernel)
        | .str _ => kit_ty (show kitB "str" "str" = some true by decide +kernel)
        | .list _ => kit_ty (show kitB "list" "str" = some false by decide +kernel)
        | .tuple _ => kit_ty (show kitB "tuple" "str" = some false by decide +kernel)
        | .dict _ => kit_ty (show kitB "dict" "str" = some false by decide +kernel)
      z_isinstance := PySem.W.mg_none_of X G z_isinstance
      z_str := PySem.W.mg_none_of X G z_str
      z_len := PySem.W.mg_none_of X G z_len
      z_all := PySem.W.mg_none_of X G z_all
      z_any := PySem.W.mg_none_of X G z_any
      z_abs := PySem.W.mg_none_of X G z_abs
      z_int := PySem.W.mg_none_of X G z_int
      z_tuple := PySem.W.mg_none_of X G z_tuple
      z_range := PySem.W.mg_none_of X G z_range
      z_sorted := PySem.W.mg_none_of X G z_sorted
      z_set := PySem.W.mg_none_of X G z_set
      sup := { T := oex, lk := ⟨_, _, _, _, _, _, _, lI⟩, cl := rfl, c := rfl, code := ⟨_, _, _, _, _, _, lCo, vC, fC⟩, cell := ⟨_, _, _, lCe⟩, sup := PySem.W.mg_none_of X G z_super, top := (by rfl), any := an, along := al, subV := sV, subC := mC }
      iI := iI, tI := tI, te := exm_own eC isC tC sC, nRow := nR, nWord := nW, hF := rfl
      bI := .all fun us hl => match us, hl with | [_, _, _], _ => rfl
      hfI := ⟨_, _, _, _, _, _, _, rfl, lI⟩, cdI := cI }
  have F1 := fun_mk (st := s_is_name) l1 c1 k1
  have D1 : Def' K mg "is_name" s_is_name ["word"] _ _ := ⟨F1, PySem.W.mg_of X G a1, F1.binds (ps := ["word"]) fun _ _ _ _ _ _ us hl => match us, hl with | [_], _ => rfl⟩
  have F2 := fun_mk (st := s_write_type) l2 c2 k2
  have D2 : Def' K mg "write_type" s_write_type ["kind"] _ _ := ⟨F2, PySem.W.mg_of X G a2, F2.binds (ps := ["kind"]) fun _ _ _ _ _ _ us hl => match us, hl with | [_], _ => rfl⟩
  have F3 := fun_mk (st := s_read_type) l3 c3 k3
  have D3 : Def' K mg "read_type" s_read_type ["text", "row"] _ _ := ⟨F3, PySem.W.mg_of X G a3, F3.binds (ps := ["text", "row"]) fun _ _ _ _ _ _ us hl => match us, hl with | [_, _], _ => rfl⟩
  have F4 := fun_mk (st := s_type_at) l4 c4 k4
  have D4 : Def' K mg "type_at" s_type_at ["text", "at", "row"] _ _ := ⟨F4, PySem.W.mg_of X G a4, F4.binds (ps := ["text", "at", "row"]) fun _ _ _ _ _ _ us hl => match us, hl with | [_, _, _], _ => rfl⟩
  have F5 := fun_mk (st := s_func_at) l5 c5 k5
  have D5 : Def' K mg "func_at" s_func_at ["text", "at", "row"] _ _ := ⟨F5, PySem.W.mg_of X G a5, F5.binds (ps := ["text", "at", "row"]) fun _ _ _ _ _ _ us hl => match us, hl with | [_, _, _], _ => rfl⟩
  have F6 := fun_mk (st := s_is_ref) l6 c6 k6
  have D6 : Def' K mg "is_ref" s_is_ref ["kind"] _ _ := ⟨F6, PySem.W.mg_of X G a6, F6.binds (ps := ["kind"]) fun _ _ _ _ _ _ us hl => match us, hl with | [_], _ => rfl⟩
  have F7 := fun_mk (st := s_is_fresh) l7 c7 k7
  have D7 : Def' K mg "is_fresh" s_is_fresh ["kind"] _ _ := ⟨F7, PySem.W.mg_of X G a7, F7.binds (ps := ["kind"]) fun _ _ _ _ _ _ us hl => match us, hl with | [_], _ => rfl⟩
  have F8 := fun_mk (st := s_is_below) l8 c8 k8
  have D8 : Def' K mg "is_below" s_is_below ["parents", "first", "second"] _ _ := ⟨F8, PySem.W.mg_of X G a8, F8.binds (ps := ["parents", "first", "second"]) fun _ _ _ _ _ _ us hl => match us, hl with | [_, _, _], _ => rfl⟩
  have F9 := fun_mk (st := s_line_of) l9 c9 k9
  have D9 : Def' K mg "line_of" s_line_of ["parents", "name"] _ _ := ⟨F9, PySem.W.mg_of X G a9, F9.binds (ps := ["parents", "name"]) fun _ _ _ _ _ _ us hl => match us, hl with | [_, _], _ => rfl⟩
  have F10 := fun_mk (st := s_join) l10 c10 k10
  have D10 : Def' K mg "join" s_join ["parents", "first", "second"] _ _ := ⟨F10, PySem.W.mg_of X G a10, F10.binds (ps := ["parents", "first", "second"]) fun _ _ _ _ _ _ us hl => match us, hl with | [_, _, _], _ => rfl⟩
  have F11 := fun_mk (st := s_names_in) l11 c11 k11
  have D11 : Def' K mg "names_in" s_names_in ["kind"] _ _ := ⟨F11, PySem.W.mg_of X G a11, F11.binds (ps := ["kind"]) fun _ _ _ _ _ _ us hl => match us, hl with | [_], _ => rfl⟩
  have F12 := fun_mk (st := s__law_tape) l12 c12 k12
  have D12 : Def' K mg "_law_tape" s__law_tape ["script"] _ _ := ⟨F12, PySem.W.mg_of X G a12, F12.binds (ps := ["script"]) fun _ _ _ _ _ _ us hl => match us, hl with | [_], _ => rfl⟩
  have F13 := fun_mk (st := s__law_take) l13 c13 k13
  have D13 : Def' K mg "_law_take" s__law_take ["tape", "many"] _ _ := ⟨F13, PySem.W.mg_of X G a13, F13.binds (ps := ["tape", "many"]) fun _ _ _ _ _ _ us hl => match us, hl with | [_, _], _ => rfl⟩
  have F14 := fun_mk (st := s__law_kind) l14 c14 k14
  have D14 : Def' K mg "_law_kind" s__law_kind ["tape", "names", "deep"] _ _ := ⟨F14, PySem.W.mg_of X G a14, F14.binds (ps := ["tape", "names", "deep"]) fun _ _ _ _ _ _ us hl => match us, hl with | [_, _, _], _ => rfl⟩
  have F15 := fun_mk (st := s__law_text) l15 c15 k15
  have D15 : Def' K mg "_law_text" s__law_text ["kind"] _ _ := ⟨F15, PySem.W.mg_of X G a15, F15.binds (ps := ["kind"]) fun _ _ _ _ _ _ us hl => match us, hl with | [_], _ => rfl⟩
  have F16 := fun_mk (st := s__law_below) l16 c16 k16
  have D16 : Def' K mg "_law_below" s__law_below ["parents", "one", "two"] _ _ := ⟨F16, PySem.W.mg_of X G a16, F16.binds (ps := ["parents", "one", "two"]) fun _ _ _ _ _ _ us hl => match us, hl with | [_, _, _], _ => rfl⟩
  have F17 := fun_mk (st := s_law) l17 c17 k17
  have D17 : Def' K mg "law" s_law ["script"] _ _ := ⟨F17, PySem.W.mg_of X G a17, F17.binds (ps := ["script"]) fun _ _ _ _ _ _ us hl => match us, hl with | [_], _ => rfl⟩
  exact ⟨PySem.W.fnOf "law" "law" (defArgs s_law) (defBody s_law) (defScope s_law) .none kV17 dc17 pm17 an17 cd17 ct17, fun s u => .of_eq rfl, fun base _ _ => ok_law D17 T ⟨ga, gg, eC, hC⟩ D12 D13 D14 D15 D16 D2 D3 D4 D5 D1 D6 D7 D8 D9 D10 D11⟩
theorem walk {q : Program} {loose : List Str} {XP : (Str → Option Value) → Heap → Prop} {YP : World → Heap → Prop} {d : DefRec} {K : Params → PySem.W.Frag} (hdf : d.params.defaults = [])
    (hY : ∀ (w : World) (h : Heap), YP w h → (K w.params).In h)
    (F : ∀ (w : World) (mg : Str → Option Value) (fa : Addr) (h : Heap), (K w.params).In h → h.Ns mainGlobals mg → mg d.name = some (.ref fa) →
      ∃ fd : FuncData, (∀ (s : Shared) (u : Value), BindsTo s fd ⟨[u], []⟩ [("script", u)]) ∧ ∀ base : Heap, (K w.params).In base → base.Ns mainGlobals mg → FnOk PySem.Challenge.rw_verifiedruns_k01_kinds_of_values.prog w (K w.params) mg base CX0 10 fa fd ["script"] (spLaw (K w.params))) :
    PySem.W.WalkO q loose XP YP PySem.Challenge.rw_verifiedruns_k01_kinds_of_values.row.toRowW d [] (fun f vs => PySem.call f vs) :=
  L2.walk_of (l := PySem.Challenge.rw_verifiedruns_k01_kinds_of_values) (n := 63) (k := 10) (x := "script") (CX := fun _ => CX0) (sp := fun w => spLaw (K w.params)) rfl (by decide) hdf ⟨rfl, by decide, by decide⟩ hY F (fun _ _ a ns hl _ hS => ⟨a, ns, rfl, hS, hl, fun _ => rfl⟩) fun _ _ _ _ _ z => z
end K01
open PySem PySem.W PyProof.Rows
set_option maxRecDepth 100000 in
set_option maxHeartbeats 0 in
theorem PySem.Challenge.cw_verifiedruns_k01_kinds_of_values_holds : PySem.Challenge.rw_verifiedruns_k01_kinds_of_values.Holds := by
  w_on; o_law; k_head; (case hw => w_witness2)
  k_fill
  refine K01.walk rfl (fun w h Y => PySem.W.kIn_of Y) ?F
  case F =>
    intro w mg fa h KX G hmg
    refine' K01.all_mk KX G hmg ?aC ?xL ?bmOk ?sa ?ga ?gg ?nR ?nW ?iI ?tI ?lI ?cI ?lCo ?vC ?fC ?lCe ?an ?al ?sV ?mC ?kC ?eC ?tC ?hC ?isC ?sC ?aLe ?eLe ?aDi ?eDi ?aOb ?lOb ?vOb ?zOb ?z_isinstance ?z_str ?z_len ?z_all ?z_any ?z_abs ?z_int ?z_tuple ?z_range ?z_sorted ?z_set ?z_super ?a1 ?l1 ?c1 ?k1 ?a2 ?l2 ?c2 ?k2 ?a3 ?l3 ?c3 ?k3 ?a4 ?l4 ?c4 ?k4 ?a5 ?l5 ?c5 ?k5 ?a6 ?l6 ?c6 ?k6 ?a7 ?l7 ?c7 ?k7 ?a8 ?l8 ?c8 ?k8 ?a9 ?l9 ?c9 ?k9 ?a10 ?l10 ?c10 ?k10 ?a11 ?l11 ?c11 ?k11 ?a12 ?l12 ?c12 ?k12 ?a13 ?l13 ?c13 ?k13 ?a14 ?l14 ?c14 ?k14 ?a15 ?l15 ?c15 ?k15 ?a16 ?l16 ?c16 ?k16 ?a17 ?l17 ?c17 ?k17
    (case aC => k_is)
    (case xL => first | k_is | k_exc)
    (case bmOk => first | decide +kernel | k_is)
    (case sa => k_is)
    (case ga => k_is)
    (case gg => k_is)
    (case nR => k_is)
    (case nW => k_is)
    (case iI => k_is)
    (case tI => k_is)
    (case lI => k_is)
    (case cI => k_is)
    (case lCo => k_is)
    (case vC => first | rfl | k_is)
    (case fC => first | rfl | decide +kernel)
    (case lCe => k_is)
    (case an => k_is)
    (case al => first | ks_is | k_is | kernel_rfl)
    (case sV => k_is)
    (case mC => first | k_is | rfl | kernel_rfl)
    (case kC => k_is)
    (case eC => k_is)
    (case tC => k_is)
    (case hC => k_is)
    (case isC => k_is)
    (case sC => first | rfl | k_is)
    (case aLe => k_is)
    (case eLe => first | rfl | decide +kernel)
    (case aDi => k_is)
    (case eDi => first | rfl | decide +kernel)
    (case aOb => k_is)
    (case lOb => k_is)
    (case vOb => exact .cons ⟨_, rfl⟩ (.cons ⟨_, rfl⟩ .nil))
    (case zOb => show 2 ≤ sizeLine; decide)
    (case z_isinstance => k_is)
    (case z_str => k_is)
    (case z_len => k_is)
    (case z_all => k_is)
    (case z_any => k_is)
    (case z_abs => k_is)
    (case z_int => k_is)
    (case z_tuple => k_is)
    (case z_range => k_is)
    (case z_sorted => k_is)
    (case z_set => k_is)
    (case z_super => k_is)
    (case a1 => k_is)
    (case l1 => k_is)
    (case c1 => k_is)
    (case k1 => k_is)
    (case a2 => k_is)
    (case l2 => k_is)
    (case c2 => k_is)
    (case k2 => k_is)
    (case a3 => k_is)
    (case l3 => k_is)
    (case c3 => k_is)
    (case k3 => k_is)
    (case a4 => k_is)
    (case l4 => k_is)
    (case c4 => k_is)
    (case k4 => k_is)
    (case a5 => k_is)
    (case l5 => k_is)
    (case c5 => k_is)
    (case k5 => k_is)
    (case a6 => k_is)
    (case l6 => k_is)
    (case c6 => k_is)
    (case k6 => k_is)
    (case a7 => k_is)
    (case l7 => k_is)
    (case c7 => k_is)
    (case k7 => k_is)
    (case a8 => k_is)
    (case l8 => k_is)
    (case c8 => k_is)
    (case k8 => k_is)
    (case a9 => k_is)
    (case l9 => k_is)
    (case c9 => k_is)
    (case k9 => k_is)
    (case a10 => k_is)
    (case l10 => k_is)
    (case c10 => k_is)
    (case k10 => k_is)
    (case a11 => k_is)
    (case l11 => k_is)
    (case c11 => k_is)
    (case k11 => k_is)
    (case a12 => k_is)
    (case l12 => k_is)
    (case c12 => k_is)
    (case k12 => k_is)
    (case a13 => k_is)
    (case l13 => k_is)
    (case c13 => k_is)
    (case k13 => k_is)
    (case a14 => k_is)
    (case l14 => k_is)
    (case c14 => k_is)
    (case k14 => k_is)
    (case a15 => k_is)
    (case l15 => k_is)
    (case c15 => k_is)
    (case k15 => k_is)
    (case a16 => k_is)
    (case l16 => k_is)
    (case c16 => k_is)
    (case k16 => k_is)
    (case a17 => k_is)
    (case l17 => k_is)
    (case c17 => k_is)
    (case k17 => k_is)
#print axioms PySem.Challenge.cw_verifiedruns_k01_kinds_of_values_holds
