import PyProof.Rows.All
import Wide.All
import OpenK.AllK
import Wide.FinOn
import HandS.ForExc
import HandS.Nested
import HandS.ExcInit
import KE.KSuper
import KE.KExcSuper
import HandS.ExcField
import HandS.ExcIs
import HandS.IsInst
import HandS.ExcOwn
import KE.KExcIs
import HandS.Comp
import HandS.Iter
import HandS.Text
import HandS.Walk
import HandS.TupAny
import HandS.TryMany
import HandS.Deep
import HandS.TupLe
import HandS.More
import HandS.Dict
import HandS.Small
import HandS.WordsExc
import PySem.Challenge.RW_wholewalks_k00_errors_and_their_fields
set_option Elab.async false
set_option linter.all false
set_option maxRecDepth 100000
set_option maxHeartbeats 4000000
/-! X0: an own class of errors whose __init__ says super().__init__(part); self.part = part, over classes without one. -/
namespace Z9
open PySem PySem.Spec PyProof.Rows L2 PySem.W NdefX

abbrev bmVE : List Value := [.type "ValueError", .type "Exception", .type "BaseException", .type "object"]
/-- what is known of such a class -/
structure SupF (P : Program) (K : Frag) (mg : Str → Option Value) (C fI : Addr) (F : NF) (doc pm ctv : Value) (slf part fld : Str) : Prop where
  fn : ∃ oc od sl, K.lookup fI = some ⟨oc, od, .func (F.fd doc pm ctv), sl⟩
  cl : ∃ cell oc od sl, F.cl = [(("__class__" : Str), cell)] ∧ K.lookup cell = some ⟨oc, od, .cell (some (.ref C)), sl⟩
  code : codeIn K (.ref F.c) F.qual = true
  file : ∃ oc vs file tf, K.lookup F.c = some oc ∧ oc.data = .fields vs ∧ vs[2]? = some (.str file tf) ∧ (P.main.file == file) = true
  nosup : (P.main.scope.names.lookup ("super" : Str)).isSome = false
  mgs : mg "super" = none
  oex : OexC K C
  sub : subIn K (.ref C) (.ref C) = some true
  sve : subIn K (.ref C) (.type "ValueError") = some true
  sup : ks_superIn K C C "__init__" = some (some (.builtin "ValueError.__init__"))
  opq : nsIn K cStatics "thirdparty.any" = some none
  exi : excInitIn K C bmVE "ValueError.__new__" = true
  fdf : findIn K (.ref C) fld = some none
  scp : NScope [slf, part, "__class__"] [slf, part] ["__class__"] F.scope
  ssu : F.scope.names.lookup ("super" : Str) = some NameKind.globalImplicit
  par : ∃ ar, (F.params.posonlyargs ++ F.params.args).head? = some ar ∧ ar.arg = slf
  nm1 : (slf == ("__debug__" : Str)) = false ∧ (slf == ("__classdict__" : Str)) = false
  nm2 : (part == ("__debug__" : Str)) = false ∧ (part == ("__classdict__" : Str)) = false
  body : ∃ p0 p1 p2 p3 p4 p5 p6 p7 p8 p9, (p2.endLine == p4.line) = true ∧ F.body = [.Expr (.Call (.Attribute (.Call (.Name "super" p0) [] [] p1) "__init__" p2) [.Name part p3] [] p4) p5, .Assign [.Attribute (.Name slf p6) fld p7] (.Name part p8) p9]

/-- the promise: the field is kept -/
def spI (C : Addr) (fld : Str) : Sp := fun vs H Q _ => ∃ (a : Addr) (v : V), vs = [.ref a, v] ∧ H a = some (exo a C none) ∧ ∀ d, H d = none → d ≠ a → Q .non (upd (upd H d (exd d [(fld, v)])) a (exo a C (some d)))

theorem ns_keep {h h' : Heap} {a : Addr} {m : Str → Option Value} (k : ∀ b o, h.get? b = some o → h'.get? b = some o) (n : h.Ns a m) : h'.Ns a m := by
  obtain ⟨o, es, ep, e, r⟩ := n
  exact ⟨o, es, ep, k _ _ e, r⟩
theorem ns_uniq {h : Heap} {a : Addr} {m m' : Str → Option Value} (n : h.Ns a m) (n' : h.Ns a m') : m = m' := by
  obtain ⟨o, es, ep, e, d, _, f⟩ := n
  obtain ⟨o', es', ep', e', d', _, f'⟩ := n'
  rw [e] at e'
  cases e'
  rw [d] at d'
  cases d'
  funext x
  rw [← f x, ← f' x]
theorem ns_there {h : Heap} {a : Addr} {m : Str → Option Value} (n : h.Ns a m) : ∃ o, h.get? a = some o := by
  obtain ⟨o, _, _, e, _⟩ := n
  exact ⟨o, e⟩
theorem get_lt {h : Heap} {b : Addr} {o : Obj} (e : h.get? b = some o) : b < h.objs.size := by
  refine Classical.byContradiction fun n => ?_
  unfold Heap.get? at e
  rw [Array.getElem?_eq_none (show h.objs.size ≤ b from Nat.le_of_not_lt n)] at e
  cases e
/-- all objects but some -/
noncomputable def others (base h : Heap) (ex : List Addr) : List (Addr × Obj) := (List.range h.objs.size).filterMap fun b => match h.get? b with
  | some o => if (base.get? b).isNone && !(ex.contains b) then some (b, o) else none
  | none => none
theorem others_mem {base h : Heap} {ex : List Addr} {p : Addr × Obj} : p ∈ others base h ex ↔ h.get? p.1 = some p.2 ∧ base.get? p.1 = none ∧ p.1 ∉ ex := by
  unfold others
  rw [List.mem_filterMap]
  constructor
  · rintro ⟨b, _, e⟩
    cases k : h.get? b with
    | none => rw [k] at e; cases e
    | some o =>
      rw [k] at e
      simp only at e
      split at e
      · rename_i c
        cases e
        simp only [Bool.and_eq_true, Option.isNone_iff_eq_none, Bool.not_eq_true'] at c
        refine ⟨k, c.1, fun m => ?_⟩
        have := List.contains_iff_mem.mpr m
        rw [c.2] at this
        cases this
      · cases e
  · rintro ⟨e, n, m⟩
    refine ⟨p.1, List.mem_range.mpr (get_lt e), ?_⟩
    rw [e]
    simp only
    rw [if_pos]
    simp only [Bool.and_eq_true, Option.isNone_iff_eq_none, Bool.not_eq_true']
    refine ⟨n, ?_⟩
    cases c : ex.contains p.1 with
    | false => rfl
    | true => exact absurd (List.contains_iff_mem.mp c) m

section
variable {P : Program} {w : World} {K : Frag} {mg : Str → Option Value} {base : Heap} {C fI : Addr} {F : NF} {doc pm ctv : Value} {slf part fld : Str}
theorem frs_there {base : Heap} {h : Heap} : ∀ {outer : List PySem.Env}, h.FunFrames base outer → ∀ b ∈ frs outer, ∃ o, h.get? b = some o
  | [], _, b, m => by cases m
  | e :: outer, f, b, m => by
    unfold Heap.FunFrames at f
    obtain ⟨_, ⟨L, o, e1, _, e2, _⟩, f'⟩ := f
    unfold frs at m
    rw [List.filterMap_cons, e1] at m
    rcases List.mem_cons.mp m with rfl | m
    · exact ⟨o, e2⟩
    · exact frs_there f' b m
theorem frs_base {base : Heap} {h : Heap} : ∀ {outer : List PySem.Env}, h.FunFrames base outer → ∀ b ∈ frs outer, base.get? b = none
  | [], _, b, m => by cases m
  | e :: outer, f, b, m => by
    unfold Heap.FunFrames at f
    obtain ⟨_, ⟨L, o, e1, e0, e2, _⟩, f'⟩ := f
    unfold frs at m
    rw [List.filterMap_cons, e1] at m
    rcases List.mem_cons.mp m with rfl | m
    · exact e0
    · exact frs_base f' b m
theorem inv_keep {X : Cx} {pins : List (Addr × Obj)} {σ : L2.St} {H : Hp} {s : Shared} {h' : Heap} {g' : Array GenState} {t' : Nat} {d' : Drawn} {a : Addr} (I : L2.Inv X pins σ H s) (ha : H a = some (exo a C none))
    (k : ∀ b o, b ≠ X.env.locals → b ≠ a → s.heap.get? b = some o → h'.get? b = some o) (hx : ∃ t1, h'.get? a = some ⟨.ref C, none, .fields #[.ref t1, .none, .none, .none, .bool false, .none], #[]⟩)
    (n : ∀ m, s.heap.Ns X.env.locals m → h'.Ns X.env.locals m) (bare : AllBare g') : L2.Inv X pins σ H { heap := h', gens := g', drawn := d', toks := t', os := s.os } := by
  have ne : ∀ b, H b = none → b ≠ a := fun b e z => by rw [z, ha] at e; cases e
  have nl : ∀ b x, H b = some x → b ≠ X.env.locals := fun b x e z => by rw [z, I.free] at e; cases e
  obtain ⟨t1, hx⟩ := hx
  refine I.step (ch := []) (fun b m => by cases m) (fun b o h1 _ _ h2 h3 => k b o h1 (ne b h3) h2) (fun b o h1 _ _ h2 h3 => ⟨o.slots, k b o h1 (ne b h3) h2⟩) (fun _ _ _ _ e => e) (fun b o _ e => ?_) (fun _ _ e => e) (fun _ _ _ e => e) (fun _ _ e => ⟨#[], by simpa using e⟩) n (fun b x e => ?_) bare
  · by_cases z : b = X.env.locals
    · obtain ⟨m, hm, _⟩ := I.loc
      rw [z]
      exact ns_there (n m hm)
    · by_cases y : b = a
      · rw [y]
        exact ⟨_, hx⟩
      · exact ⟨o, k b o z y e⟩
  · by_cases y : b = a
    · rw [y] at e ⊢
      rw [ha] at e
      cases e
      exact exo_ok hx
    · refine ObjOk.stay (I.hok b x e) (fun b' u hb e' => ?_) (fun _ e => e) (fun _ _ e => e)
      rcases hb with rfl | hb
      · exact k _ _ (nl _ _ e) y e'
      · refine k _ _ (nl _ _ hb) (fun z => ?_) e'
        rw [z, ha] at hb
        exact exo_own (Option.some.inj hb)
theorem super_eval {env : PySem.Env} {part : Str} {p0 p1 p2 p3 p4 : Pos} (hp : (p2.endLine == p4.line) = true) : eval (.Call (.Attribute (.Call (.Name "super" p0) [] [] p1) "__init__" p2) [.Name part p3] [] p4) env = (do
    let ov ← attributeBase (.Call (.Name "super" p0) [] [] p1) "__init__" env (eval (.Call (.Name "super" p0) [] [] p1) env)
    standAt p2.atName
    let x ← holding [ov] (getMethod ov "__init__" (do
      let d ← importBound (.Call (.Name "super" p0) [] [] p1) env
      pure (d.getD true)))
    match x with
    | (f, first) => callWith p4 f first (backTo p4 (starEach [.Name part p3] env)) []) := by
  have h1 : methodCallForm ([Expr.Name part p3].length + ([] : List Keyword).length) (backTo p4 (starEach [.Name part p3] env)) (backToKw p4 (keywordEach [] env)) = true := rfl
  have h2 : methodCallPos true (.Call (.Name "super" p0) [] [] p1) env p2 p4 = pure p4 := by
    unfold methodCallPos
    rw [hp]
    rfl
  show (do
      let ov ← attributeBase (.Call (.Name "super" p0) [] [] p1) "__init__" env (eval (.Call (.Name "super" p0) [] [] p1) env)
      standAt p2.atName
      methodCall (.Call (.Name "super" p0) [] [] p1) "__init__" p2 p4 env ov ([Expr.Name part p3].length + ([] : List Keyword).length) (backTo p4 (starEach [.Name part p3] env)) (backToKw p4 (keywordEach [] env))) = _
  unfold methodCall
  rw [h1, h2]
  rfl
theorem init_ok (T : SupF P K mg C fI F doc pm ctv slf part fld) : FnOk P w K mg base (L2.CX P w) 1 fI (F.fd doc pm ctv) [slf, part] (spI C fld) := by
  refine ⟨fun vs H Q E ⟨a, v, e, _⟩ => by rw [e]; rfl, fun A outer s H args us vs Q E hr e0 hb hv sp => ?_⟩
  obtain ⟨a, v, rfl, ha, hq⟩ := sp
  obtain ⟨u, hvu, rfl⟩ : ∃ u, RelV v u ∧ us = [.ref a, u] := by
    cases hv with
    | cons r t =>
      cases t with
      | cons r2 t2 =>
        cases t2
        cases r
        exact ⟨_, r2, rfl⟩
  have kin : K.In s.heap := fun b o e => (e0.bs b o (e0.mod.kin b o e)).1
  obtain ⟨oc, od, sl, hfn⟩ := T.fn
  obtain ⟨cell, oc2, od2, sl2, hcl, hcell⟩ := T.cl
  obtain ⟨oc3, vs3, file, tf, hco, hcd, hcf, hcm⟩ := T.file
  obtain ⟨p0, p1, p2, p3, p4, p5, p6, p7, p8, p9, hpp, hbody⟩ := T.body
  obtain ⟨ar, har, har2⟩ := T.par
  have bsk : ∀ b o, base.get? b = some o → s.heap.get? b = some o := fun b o e => (e0.bs b o e).1
  have lim : s.heap.NoLimit := by
    obtain ⟨mc, n, e⟩ := e0.mod.nolimit
    exact ⟨mc, ns_keep bsk n, e⟩
  refine ks_codeAny_call_defAt (fd := F.fd doc pm ctv) (body := F.body) (by have := hr.dp; omega) (kin _ _ hfn) rfl lim (codeRec_of kin T.code) rfl hb T.scp.nocell (fun x m => ?_) (fun h₀ ns keep => ?_) T.scp.co T.scp.gen T.scp.kind
  · have : x.1 ∈ [slf, part] := by
      rcases List.mem_cons.mp m with rfl | m
      · exact List.mem_cons_self
      · rcases List.mem_cons.mp m with rfl | m
        · exact List.mem_cons_of_mem _ List.mem_cons_self
        · cases m
    exact T.scp.par _ this
  have hcn : ∀ b o, base.get? b = some o → H b = none := fun b o e => (e0.bs b o e).2
  have cellB : s.heap.IsCell cell (some (.ref C)) := ⟨_, kin _ _ hcell, rfl⟩
  have hcs : CellsAt F.cl ["__class__"] [some (V.ref C)] s.heap H := by
    rw [hcl]
    refine ⟨rfl, fun y c e => ?_, fun x y c e1 e2 => ?_, fun i y e => ?_⟩
    · rw [List.lookup_cons] at e
      split at e
      · cases e
        exact ⟨hcn _ _ (e0.mod.kin _ _ hcell), _, cellB⟩
      · cases e
    · rw [List.lookup_cons] at e1 e2
      split at e1
      · split at e2
        · rename_i z1 z2
          exact (beq_iff_eq.mp (by assumption)).trans (beq_iff_eq.mp (by assumption)).symm
        · cases e2
      · cases e1
    · cases i with
      | zero =>
        cases e
        refine ⟨cell, by rw [List.lookup_cons, beq_self_eq_true], fun v e => ?_⟩
        cases e
        exact ⟨_, rfl, cellB⟩
      | succ i => simp at e
  have I0 := inv_startN (CX := L2.CX P w) (mg := mg) (E := E) (F := F) (f := fI) (ws := [some (.ref C)]) (h₁ := h₀) (tk := s.toks + ([slf, part].zip [Value.ref a, u]).length) T.scp hr.hd e0 (vs := [.ref a, v]) rfl (us := [.ref a, u]) hv hcs ns keep
  let X := ncx (L2.CX P w) P w K mg base [slf, part, "__class__"] F fI A outer s H E
  have hX : X = ncx (L2.CX P w) P w K mg base [slf, part, "__class__"] F fI A outer s H E := rfl
  have kin0 : K.In h₀ := fun b o e => keep _ _ (kin b o e)
  obtain ⟨t1, hexo⟩ := exo_at e0.hok ha
  have hex0 := keep _ _ hexo
  obtain ⟨nmC, q, N, bs, bm, sn, sub, ab, col, dd, k0, k1, k2, k3, k5, hC, hrv⟩ := T.oex.cls
  have bsk0 : ∀ b o, base.get? b = some o → h₀.get? b = some o := fun b o e => keep _ _ (bsk b o e)
  obtain ⟨mb, nmb, emb⟩ := e0.mod.blt
  have nd := T.scp.nd
  have hsp : ¬ slf = part := fun z => by
    rw [z] at nd
    simp at nd
  rw [hbody]
  -- super().__init__(part)
  refine ks_wpAt_execs_cons (ks_wpAt_Expr_any (ks_wpAt_MethodCall ?_ (super_eval hpp)) (by
    show (F.scope.kind == ScopeKind.module && _) = false
    rw [T.scp.kind]
    rfl))
  have kfree : (callEnv (F.fd doc pm ctv) s.heap.objs.size fI).kindOf "__class__" = some NameKind.free := T.scp.frk _ List.mem_cons_self
  refine ks_wpAt_super_base (of := _) (oc := oc3) (fd := F.fd doc pm ctv) T.ssu kfree rfl rfl (kin0 _ _ hfn) rfl har rfl (kin0 _ _ hco) hcd hcf hcm T.nosup ?_
  have kk : (callEnv (F.fd doc pm ctv) s.heap.objs.size fI).scope.kind = ScopeKind.function := T.scp.kind
  refine ks_loadName_global kk T.ssu (Calls.loadGlobal_builtin (mg := mg) (mb := mb) (ns_keep bsk0 e0.mod.glob) T.mgs (ns_keep bsk0 nmb) (v := .type "super") (by rw [emb _ (by decide)]; rfl) ⟨rfl, ?_⟩)
  refine wpAny_loadName_free (c := cell) (v := .ref C) kk kfree (by
    show F.cl.lookup _ = _
    rw [hcl]
    rfl) ⟨_, kin0 _ _ hcell, rfl⟩ ?_
  have klo : (callEnv (F.fd doc pm ctv) s.heap.objs.size fI).kindOf slf = some NameKind.local := T.scp.par _ List.mem_cons_self
  rw [har2]
  refine wpAny_loadName_local (v := .ref a) kk klo ns (by
    show List.lookup slf [(part, u), (slf, Value.ref a)] = _
    rw [List.lookup_cons, beq_eq_false_iff_ne.mpr hsp, List.lookup_cons, beq_self_eq_true]) ?_
  refine ks_wpAny_isType_cls (kin0 _ _ hC) rfl ⟨rfl, ?_⟩
  refine ks_wpAny_call_super (kin0 _ _ hC) rfl hex0 rfl (fun c z => by cases z) (looks_subIn kin0 T.sub) (fun h1 so1 kp1 => ?_)
  have aL : a ≠ s.heap.objs.size := fun z => absurd (get_lt hexo) (by rw [z]; exact Nat.lt_irrefl _)
  have Lh : s.heap.objs.size < h₀.objs.size := by
    obtain ⟨o, e⟩ := ns_there ns
    exact get_lt e
  have bsk1 : ∀ b o, base.get? b = some o → h1.get? b = some o := fun b o e => kp1 _ _ (bsk0 b o e)
  have ba : base.get? a = none := by
    cases k : base.get? a with
    | none => rfl
    | some o =>
      rw [hcn _ _ k] at ha
      cases ha
  have bso : base.get? h₀.objs.size = none := by
    cases k : base.get? h₀.objs.size with
    | none => rfl
    | some o => exact absurd (get_lt (bsk0 _ _ k)) (Nat.lt_irrefl _)
  have aso : a ≠ h₀.objs.size := fun z => absurd (get_lt hex0) (by rw [z]; exact Nat.lt_irrefl _)
  have hex1 := kp1 _ _ hex0
  have fr1 : Fr base s.heap.objs.size h1 _ := ⟨ns_keep kp1 ns, bsk1, e0.bsz⟩
  have nw1 : News base s.heap.objs.size h1 ((h₀.objs.size, ks_superObj C a C) :: (a, excObj C t1 none .none) :: others base h1 [s.heap.objs.size, h₀.objs.size, a]) := by
    intro p m
    rcases List.mem_cons.mp m with rfl | m
    · exact ⟨so1, by show h₀.objs.size ≠ _; omega, bso⟩
    · rcases List.mem_cons.mp m with rfl | m
      · exact ⟨hex1, aL, ba⟩
      · have := others_mem.mp m
        exact ⟨this.1, fun z => this.2.2 (by rw [z]; exact List.mem_cons_self), this.2.1⟩
  show wpAny _ _ (getMethod (.ref h₀.objs.size) "__init__" _) _ _ _
  refine kxs_method (odx := none) kxs_ValueError fr1 e0.mod.kin nw1 List.mem_cons_self (W.InstAt.mk hex1 rfl rfl trivial) T.opq T.sup T.sve rfl (fun q h2 fr2 nw2 lq => ?_)
  have hex2 : h2.get? a = some (excObj C t1 none .none) := (nw2 _ (List.mem_cons_of_mem _ (List.mem_cons_of_mem _ List.mem_cons_self))).1
  have hq2 := nw2 _ List.mem_cons_self
  have k2 : ∀ b o, b ≠ s.heap.objs.size → b ≠ a → h₀.get? b = some o → h2.get? b = some o := fun b o z y e => by
    cases k : base.get? b with
    | some o' =>
      have := bsk0 _ _ k
      rw [e] at this
      cases this
      exact fr2.keep _ _ k
    | none =>
      have hs : b ≠ h₀.objs.size := fun x => absurd (get_lt e) (by rw [x]; exact Nat.lt_irrefl _)
      exact (nw2 (b, o) (List.mem_cons_of_mem _ (List.mem_cons_of_mem _ (List.mem_cons_of_mem _ (others_mem.mpr ⟨kp1 _ _ e, k, fun m => by simp only [List.mem_cons, List.not_mem_nil, or_false] at m; exact m.elim z fun m => m.elim hs y⟩))))).1
  have I2 := inv_keep (h' := h2) (g' := s.gens) (t' := s.toks + ([slf, part].zip [Value.ref a, u]).length + 1) (d' := s.drawn) I0 ha k2 ⟨t1, hex2⟩ (fun m n => by
    have : m = _ := ns_uniq n ns
    rw [this]
    exact fr2.ns) e0.bare
  have hqs : s.heap.objs.size < q := by
    have : h₀.objs.size < q := lq (h₀.objs.size, ks_superObj C a C) List.mem_cons_self
    exact Nat.lt_trans Lh this
  have hqg : s.heap.get? q = none := by
    cases k : s.heap.get? q with
    | none => rfl
    | some o => exact absurd (get_lt k) (Nat.not_lt_of_gt hqs)
  have hqn : H q = none := e0.hok.gone hqg
  have hqf : q ∉ frs outer := fun m => by
    obtain ⟨o, e⟩ := frs_there e0.funs q m
    rw [hqg] at e
    cases e
  have I3 : L2.Inv X [(q, kxs_mw "ValueError.__init__" a)] _ H _ := { I2 with
    pin := fun p m => by
      have m : p ∈ [(q, kxs_mw "ValueError.__init__" a)] := m
      rw [List.mem_singleton.mp m]
      exact ⟨hq2.1, hqn, hq2.2.1, hqf, fun v z => by cases z⟩ }
  show wpAny _ _ (callWith p4 (.ref q) [] _ []) _ _ _
  refine kxs_callWith1 nw2 List.mem_cons_self ?_
  have PAx : PA X [.Name part p3] _ := pa_cons (pv (X := X) (pos := p3) 1 rfl (.inl (T.scp.par _ (List.mem_cons_of_mem _ List.mem_cons_self))) T.nm2.1 T.nm2.2) pa_nil
  refine wpAny_mono (PAx.run p4 _ _ _ H (fun vs H' => vs = [v] ∧ H' = H) I3 ⟨v, rfl, rfl, rfl⟩) (fun us4 s4 ⟨vs4, H4, I4, r4, e4, e5⟩ => ?_) (fun _ _ e => e)
  subst e4 e5
  have hl4 : us4.length ≤ sizeLine := by
    cases r4 with
    | cons _ t =>
      cases t
      exact Nat.le_trans (by decide : 1 ≤ 1000) (by decide +kernel)
  have pq := I4.pin (q, kxs_mw "ValueError.__init__" a) (List.mem_append_right _ List.mem_cons_self)
  refine ⟨pq.1, ?_⟩
  obtain ⟨m4, ns4, _⟩ := I4.loc
  have bsk4 : ∀ b o, base.get? b = some o → s4.heap.get? b = some o := fun b o e => I4.base.keep b o (bsk b o e) (hcn b o e) (fun m => by
    rw [frs_base e0.funs b m] at e
    cases e) (fun m : b ∈ ([] : List Addr) => by cases m)
  obtain ⟨t4, hex4⟩ := exo_at I4.hok ha
  have qa : q ≠ a := fun z => by rw [z, ha] at hqn; cases hqn
  have qL : q ≠ s.heap.objs.size := hq2.2.1
  have bq : base.get? q = none := by
    cases k : base.get? q with
    | none => rfl
    | some o =>
      rw [bsk _ _ k] at hqg
      cases hqg
  have nw4 : News base s.heap.objs.size s4.heap ((q, kxs_mw "ValueError.__init__" a) :: (a, excObj C t4 none .none) :: others base s4.heap [s.heap.objs.size, q, a]) := by
    intro p m
    rcases List.mem_cons.mp m with rfl | m
    · exact ⟨pq.1, qL, bq⟩
    · rcases List.mem_cons.mp m with rfl | m
      · exact ⟨hex4, aL, ba⟩
      · have := others_mem.mp m
        exact ⟨this.1, fun z => this.2.2 (by rw [z]; exact List.mem_cons_self), this.2.1⟩
  refine kxs_call (m := m4) ⟨ns4, bsk4, e0.bsz⟩ e0.mod.kin nw4 PySem.F.excBase_ValueError T.exi List.mem_cons_self (UpdF.tail qa (UpdF.head fun p m => ?_)) hl4 (fun t5 h5 fr5 nw5 lt5 => ?_)
  · have := others_mem.mp m
    exact fun z => this.2.2 (by rw [z]; simp)
  have hex5 := (nw5 _ (List.mem_cons_of_mem _ (List.mem_cons_of_mem _ List.mem_cons_self))).1
  have k5 : ∀ b o, b ≠ s.heap.objs.size → b ≠ a → s4.heap.get? b = some o → h5.get? b = some o := fun b o z y e => by
    cases k : base.get? b with
    | some o' =>
      have := bsk4 _ _ k
      rw [e] at this
      cases this
      exact fr5.keep _ _ k
    | none =>
      by_cases hs : b = q
      · subst hs
        rw [pq.1] at e
        cases e
        exact (nw5 _ (List.mem_cons_of_mem _ List.mem_cons_self)).1
      · exact (nw5 (b, o) (List.mem_cons_of_mem _ (List.mem_cons_of_mem _ (List.mem_cons_of_mem _ (others_mem.mpr ⟨e, k, fun m => by simp only [List.mem_cons, List.not_mem_nil, or_false] at m; exact m.elim z fun m => m.elim hs y⟩))))).1
  have I5 := inv_keep (h' := h5) (g' := s4.gens) (t' := s4.toks) (d' := s4.drawn) I4 ha k5 ⟨t5, hex5⟩ (fun m n => by
    have : m = _ := ns_uniq n ns4
    rw [this]
    exact fr5.ns) I4.bare
  -- self.part = part
  have PS2 : PSs X [.Assign [.Attribute (.Name slf p6) fld p7] (.Name part p8) p9] _ := pss_one (ps_ost (pv (X := X) (pos := p6) 0 rfl (.inl (T.scp.par _ List.mem_cons_self)) T.nm1.1 T.nm1.2) (pv (X := X) (pos := p8) 1 rfl (.inl (T.scp.par _ (List.mem_cons_of_mem _ List.mem_cons_self))) T.nm2.1 T.nm2.2))
  have R2 := PS2.run _ _ _ H4 { nx := fun _ H' => Q .non H', rt := Q } I5 ⟨v, rfl, .ref a, rfl, a, C, rfl, T.oex, T.fdf, .inl ⟨ha, hq⟩⟩
  refine fun Γ p hc hA => (wpAny_mono R2 (fun f s' e => ?_) (fun _ _ e => e)) Γ p hA
  clear R2 PS2 I5 I4 I3 I2 k5 nw5 fr5 k2 nw2 fr2 nw4
  cases f with
  | next =>
    obtain ⟨σ', H', I, q⟩ := e
    exact ⟨.non, H', I.os, I.bare, I.base, I.hok, rfl, q⟩
  | ret u' =>
    obtain ⟨v', σ', H', I, r, q⟩ := e
    exact ⟨v', H', I.os, I.bare, I.base, I.hok, r, q⟩
  | brk => exact e.elim fun _ e => e.elim fun _ e => e.2.elim
  | cont => exact e.elim fun _ e => e.elim fun _ e => e.2.elim
end
end Z9

set_option Elab.async false
set_option linter.all false
set_option maxRecDepth 100000
set_option maxHeartbeats 4000000
/-! X1: errors held as values: made, their kind asked, their field read. -/
namespace Z9
open PySem PySem.Spec PyProof.Rows L2 PySem.W

/-- an error's object, as it is held -/
def exw (a : Addr) (cls : Value) (d : Option Addr) : HO := .ext fun h => ∃ oe vs, h.get? a = some oe ∧ Zc cls d oe ∧ oe.data = .fields vs
theorem exw_at {P : Program} {w : World} {H : Hp} {h : Heap} {a : Addr} {cls : Value} {d : Option Addr} (ok : HOk P w H h) (e : H a = some (exw a cls d)) : ∃ oe vs, h.get? a = some oe ∧ Zc cls d oe ∧ oe.data = .fields vs := (ok a _ e).1
theorem exw_ok {P : Program} {w : World} {H : Hp} {h : Heap} {a : Addr} {cls : Value} {d : Option Addr} {oe : Obj} {vs : Array Value} (e : h.get? a = some oe) (z : Zc cls d oe) (f : oe.data = .fields vs) : ObjOk P w H h a (exw a cls d) :=
  ⟨⟨oe, vs, e, z, f⟩, ⟨oe, e⟩, fun h1 h2 ⟨oe, vs, e, z, f⟩ k => ⟨oe, vs, k _ e, z, f⟩⟩
theorem exw_own {a x : Addr} {cls : Value} {d : Option Addr} : exw a cls d ≠ HO.own x := fun z => by cases z
theorem exw_tup {a : Addr} {cls : Value} {d : Option Addr} {xs : List V} : exw a cls d ≠ HO.tup xs := fun z => by cases z
/-- a new object is tracked -/
theorem inv_more {X : Cx} {pins : List (Addr × Obj)} {σ : L2.St} {H : Hp} {s s' : Shared} {a : Addr} {x : HO} (I : L2.Inv X pins σ H s) (k : ∀ b o, s.heap.get? b = some o → s'.heap.get? b = some o) (na : s.heap.get? a = none) (ha : H a = none)
    (ok : ObjOk X.prog X.w (upd H a x) s'.heap a x) (os : s'.os = s.os) (bare : AllBare s'.gens) : L2.Inv X pins σ (upd H a x) s' := by
  obtain ⟨h', g', d', t', os'⟩ := s'
  simp only at os
  subst os
  have ne : ∀ b o, s.heap.get? b = some o → b ≠ a := fun b o e z => by rw [z, na] at e; cases e
  refine I.step (ch := []) (fun b m => by cases m) (fun b o _ _ _ h2 _ => k b o h2) (fun b o _ _ _ h2 _ => ⟨o.slots, k b o h2⟩) (fun b o _ e1 e2 => by rw [upd_ne (ne b o e1)]; exact e2) (fun b o _ e => ⟨o, k b o e⟩)
    (fun b xs e => ?_) (fun b o u e => ?_) (fun b ps e => ⟨#[], ?_⟩) (fun m n => ns_keep k n) (fun b y e => ?_) bare
  · rw [upd_ne (fun z => by rw [z, ha] at e; cases e)]; exact e
  · rw [upd_ne (fun z => by rw [z, ha] at e; cases e)]; exact e
  · rw [upd_ne (fun z => by rw [z, ha] at e; cases e)]; simpa using e
  · by_cases z : b = a
    · subst z
      rw [upd_same] at e
      cases e
      exact ok
    · rw [upd_ne z] at e
      exact ObjOk.stay (I.hok b y e) (fun b' u _ e' => k _ _ e') (fun b' e' => by rw [upd_ne (fun z => by rw [z, ha] at e'; cases e')]; exact e') (fun b' xs e' => by rw [upd_ne (fun z => by rw [z, ha] at e'; cases e')]; exact e')
/-- an error that is made and held -/
theorem pe_of_pmk {X : Cx} {e : Expr} {t : L2.St → Hp → XK → Prop} (h : PMk X e t) : PE X e fun σ H Q => t σ H fun cls d H' => ∀ a, H' a = none → Q (.ref a) (upd H' a (exw a cls d)) := by
  refine ⟨fun pins s σ H Q I q => wpAny_mono (h pins s σ H _ I q) (fun u s' e => ?_) (fun _ _ e => e)⟩
  obtain ⟨a, oe, vs, sI, H', cls, d, rfl, I', k, n, g, z, f, _, ha, os, bare, _, q'⟩ := e
  exact ⟨.ref a, _, inv_more I' k n ha (exw_ok g z f) os bare, rfl, q' a ha⟩

theorem pmk_own0 {X : Cx} {C : Addr} {bmB : List Value} {B newId initId : String} {x : Str} {p pos : Pos} (F : ExcBaseFacts B newId initId bmB) (q : PySem.W.excIn X.K C bmB newId = true) (gC : X.mg x = some (.ref C))
    (kC : PySem.W.keepIn X.K (.ref C) = true) (r : Raises X (.ref C)) (hg : Gl X x) (hdb : (x == ("__debug__" : Str)) = false) : PMk X (.Call (.Name x p) [] [] pos) (fun _ H Q => Q (.ref C) none H) := by
  intro pins s σ H Q I h
  refine wpAny_Call_Name_kw (ld_glob I hg gC ?_ hdb)
  refine PySem.W.callWith_K0 I.kIn kC ?_
  show wpAny _ _ (call (.ref C) []) _ _ _
  obtain ⟨bm, N, nm, qn, bs, hdct, sn, sub, ab, col, dd, k0, k1, k2, k3, k5, mN, hC, hN, hni, T⟩ := exc_obj I.kIn q
  refine wpAny_call_exc_subT F T hC hN hni (fun h' e hm => ?_) (by show 0 ≤ sizeLine; exact Nat.zero_le _)
  exact mk_of I hm r h (I.hok.gone hm.new)

/-- an error's own dict is there -/
def dictAt (H : Hp) : Option Addr → List (Str × V) → Prop
  | none, fs => fs = []
  | some d, fs => H d = some (.xd fs)
theorem inst_at {X : Cx} {pins : List (Addr × Obj)} {σ : L2.St} {H : Hp} {s : Shared} {a C : Addr} {d : Option Addr} {fs : List (Str × V)} (I : L2.Inv X pins σ H s) (ha : H a = some (exw a (.ref C) d)) (hd : dictAt H d fs) :
    ∃ oe od, W.InstAt s.heap a oe C od ∧ (∀ dd, d = some dd → ∃ o, od = some o ∧ s.heap.get? dd = some o) := by
  obtain ⟨oe, vs, e, ⟨z1, z2⟩, f⟩ := exw_at I.hok ha
  have hn : notCls oe = true := by unfold notCls; rw [f]
  cases d with
  | none => exact ⟨oe, none, ⟨e, z1, hn, by rw [z2]; trivial⟩, fun _ z => by cases z⟩
  | some dd =>
    obtain ⟨mA, n, _⟩ := I.hok dd _ hd
    obtain ⟨o, eo⟩ : ∃ o, s.heap.get? dd = some o := by
      obtain ⟨o, _, _, eo, _⟩ := n
      exact ⟨o, eo⟩
    exact ⟨oe, some o, ⟨e, z1, hn, by rw [z2]; exact eo⟩, fun _ z => by cases z; exact ⟨o, rfl, eo⟩⟩
structure EcK (K : PySem.W.Frag) (C : Addr) : Prop where
  cl : (clsIn K C).isSome = true
  ec : ExcC K C
/-- isinstance of an error that is held -/
def rIsw (K : PySem.W.Frag) : List V → Hp → VK → Prop := fun xs H Q => ∃ (a C : Addr) (d : Option Addr) (fs : List (Str × V)) (c : V) (cv : Value) (b : Bool), xs = [.ref a, c] ∧ H a = some (exw a (.ref C) d) ∧ dictAt H d fs ∧ EcK K C ∧ ClsV c cv ∧ kitOne K (.ref C) cv = some b ∧ Q (.bl b) H
theorem call_isw {X : Cx} : CallR X (.builtin "isinstance") (rIsw X.K) := by
  intro pins s σ H vs us Q I rs hh
  obtain ⟨a, C, d, fs, c, cv, b, rfl, ha, hd, ec, hc, hk, q⟩ := hh
  obtain ⟨oe, od, ia, _⟩ := inst_at I ha hd
  have K1 := kitx_exc (od := od) (x := a) (ox := oe) ec.cl ec.ec.hg ec.ec.hk ec.ec.hs ec.ec.ha ec.ec.hn ec.ec.ht ec.ec.hm
  obtain ⟨u, rfl, hu⟩ : ∃ u, us = [.ref a, u] ∧ RelV c u := by
    cases rs with
    | cons r t =>
      cases t with
      | cons r2 t2 =>
        cases t2
        cases r
        exact ⟨_, rfl, r2⟩
  have : u = cv := hc.eq hu
  subst this
  refine kia_one K1 I.kIn ia hk (fun z => by cases z) (fun tk => ?_)
  exact ⟨.bl b, H, { I with }, rfl, q⟩
/-- the field of an error that is held -/
def tXw (K : PySem.W.Frag) (n : Str) (te : TE) : TE := fun σ H Q => te σ H fun x H1 => ∃ (a C d : Addr) (fs : List (Str × V)) (v : V), x = .ref a ∧ H1 a = some (exw a (.ref C) (some d)) ∧ H1 d = some (.xd fs) ∧ XfC K C ∧ findIn K (.ref C) n = some none ∧ fs.lookup n = some v ∧ Q v H1
theorem pe_xw {X : Cx} {e : Expr} {te : TE} {n : Str} {pos : Pos} (he : PE X e te) (hb : attributeBase e n X.env (eval e X.env) = eval e X.env) : PE X (.Attribute e n pos) (tXw X.K n te) := by
  refine ⟨fun pins s σ H Q I q => attr_of hb (wpAny_mono (he.run pins s σ H _ I q) (fun u s' e => ?_) (fun _ _ e => e))⟩
  obtain ⟨v0, H', I', r, a, C, d, fs, v, rfl, ha, hd, xf, fi, fl, q'⟩ := e
  cases r
  obtain ⟨oe, od, ia, hod⟩ := inst_at I' ha (d := some d) hd
  obtain ⟨o, rfl, eo⟩ := hod d rfl
  obtain ⟨mA, n1, hrel⟩ := I'.hok d _ hd
  obtain ⟨o', eo', hl⟩ := lookIn_ns n1
  rw [eo] at eo'
  cases eo'
  have hr := hrel n
  rw [fl] at hr
  obtain ⟨w, hw, rw'⟩ : ∃ w, mA n = some w ∧ RelV v w := by
    cases k : mA n with
    | none => rw [k] at hr; exact hr.elim
    | some w => rw [k] at hr; exact ⟨w, rfl, hr⟩
  have fo := findObj_own xf.hdC fi rfl (od := o) (v := w) (by rw [hl, hw])
  refine HandSPX.exc_get I'.kIn ia xf.ga xf.gg xf.exC fo (handed_of rw') ?_
  exact ⟨v, H', { I' with }, rw', q'⟩
end Z9

set_option Elab.async false
set_option linter.all false
/-! E0: the values, the language of forms, and what a form gives. Plain Lean. -/
namespace Z9
open PySem

/-- a value as data; ref: a place of the changing heap -/
inductive D where
  | non | bl (b : Bool) | int (i : Int) | str (s : List Nat)
  | tup (xs : List D) | lst (xs : List D)
  | ins (c : Str) (ns : List Str) (ds : List D) | exc (c : Str) (ns : List Str) (ds : List D)
  | ref (i : Nat)
  | scr (ns : List Int)
  | dic (ks : List (List Nat)) (vs : List D)
  deriving Inhabited

/-- the changing lists and instances -/
abbrev Hh := List D

inductive Res (α : Type) where
  | ok (a : α) | exc (c : Nat) (xs : List D) (h : Hh) | no
def Res.bind {α β : Type} (r : Res α) (f : α → Res β) : Res β := match r with
  | .ok a => f a
  | .exc c xs h => .exc c xs h
  | .no => .no
@[simp] theorem Res.bind_ok {α β : Type} (a : α) (f : α → Res β) : (Res.ok a).bind f = f a := rfl
@[simp] theorem Res.bind_exc {α β : Type} (c xs h) (f : α → Res β) : (Res.exc c xs h : Res α).bind f = .exc c xs h := rfl
@[simp] theorem Res.bind_no {α β : Type} (f : α → Res β) : (Res.no : Res α).bind f = .no := rfl

/-- built-in kinds for isinstance -/
inductive Ty where
  | int | bool | str | list | tuple | dict
  deriving DecidableEq
/-- built-in functions -/
inductive BF where
  | len | abs | int | sum | all | any
  deriving DecidableEq
/-- methods of built-in values -/
inductive BM where
  | join | pop | append
  deriving DecidableEq

mutual
inductive Ex where
  | var (i : Nat) | con (d : D) | glob (k : Nat) | dic0 | dicc (s : List Nat) (i : Int)
  | fld (a : Ex) (n : Str) | isc (a : Ex) (k : Nat) | mkx (k : Nat) (es : Exs)
  | tup (es : Exs) | lst (es : Exs) | newl (es : Exs)
  | bin (o : Operator) (a b : Ex) | neg (a : Ex)
  | cmp (o : CmpOp) (a b : Ex) | cmp2 (o p : CmpOp) (a b c : Ex)
  | isn (a : Ex) | notn (a : Ex)
  | and (es : Exs) | or (es : Exs) | not (a : Ex)
  | ife (c a b : Ex)
  | ix (a i : Ex) | sl (a : Ex) (lo hi : Ox)
  | isi (a : Ex) (t : Ty)
  | bcall (f : BF) (es : Exs) | bmeth (m : BM) (a : Ex) (es : Exs)
  | call (k : Nat) (es : Exs)
  | lc (new : Bool) (elt : Ex) (t : Tg) (it : It) (ifs : Exs) (own : List Nat)
inductive Exs where
  | nil | cons (e : Ex) (es : Exs)
inductive Ox where
  | none | some (e : Ex)
inductive It where
  | seq (e : Ex) | range (e : Ex) | range2 (a b : Ex) | enum (e : Ex) | zip (a b : Ex)
inductive Tg where
  | var (i : Nat) | tup (ts : Tgs)
inductive Tgs where
  | nil | cons (t : Tg) (ts : Tgs)
end

mutual
inductive Sm where
  | set (i : Nat) (e : Ex) | asg (t : Tg) (e : Ex) | par (i j : Nat) (es : Exs) | seti (o i e : Ex)
  | aug (i : Nat) (o : Operator) (e : Ex)
  | expr (e : Ex) | ret (e : Ex) | retn
  | iff (c : Ex) (a b : Sms)
  | forr (t : Tg) (it : It) (b : Sms) | whil (c : Ex) (b : Sms)
  | brk | cont | pass
  | rais (k : Nat) (es : Exs) | rai1 (k : Nat) (e : Ex)
  | tryy (b : Sms) (hs : Hds)
inductive Sms where
  | nil | cons (s : Sm) (ss : Sms)
inductive Hds where
  | nil | cons (k : Nat) (b : Sms) (hs : Hds)
end

/-! ### operations on data -/
def okN (n : Nat) : Bool := decide (n ≤ 16777216)
/-- int operations and the sizes that the model is asked for -/
def cMul (i j : Int) : Bool := (decide (-(2 ^ 64) < i) && decide (i < 2 ^ 64)) || (decide (-(2 ^ 64) < j) && decide (j < 2 ^ 64))
def ofB {α : Type} (b : Bool) (a : α) : Res α := if b then .ok a else .no
@[simp] theorem ofB_true {α : Type} (a : α) : ofB true a = .ok a := rfl
@[simp] theorem ofB_false {α : Type} (a : α) : ofB false a = .no := rfl
def ixN (n : Nat) (i : Int) : Option Nat := if 0 ≤ i then (if i < n then some i.toNat else none) else if -(n : Int) ≤ i then some (i + n).toNat else none
def binD (o : Operator) (x y : D) : Res D := match o, x, y with
  | .Add, .int i, .int j => .ok (.int (i + j))
  | .Sub, .int i, .int j => .ok (.int (i - j))
  | .Mult, .int i, .int j => ofB (cMul i j) (.int (i * j))
  | .Mod, .int i, .int j => ofB (decide (0 < j)) (.int (i % j))
  | .FloorDiv, .int i, .int j => ofB (decide (0 < j) && decide (j < 1073741824)) (.int (i / j))
  | .Pow, .int i, .int j => ofB (decide (0 ≤ j) && decide (j ≤ 1000000) && decide (i.natAbs < 2 ^ 64)) (.int (i ^ j.toNat))
  | .LShift, .int i, .int j => ofB (decide (0 ≤ j) && decide (j ≤ 1000000) && decide (i.natAbs < 2 ^ 64)) (.int (i * 2 ^ j.toNat))
  | .Add, .str x, .str y => ofB (okN (x.length + y.length)) (.str (x ++ y))
  | .Mult, .str x, .int j => ofB (decide (0 ≤ j) && decide (j < 1099511627776) && okN (x.length * j.toNat)) (.str (List.replicate j.toNat x).flatten)
  | .Add, .lst x, .lst y => ofB (okN (x.length + y.length)) (.lst (x ++ y))
  | .Add, .tup x, .tup y => ofB (okN (x.length + y.length)) (.tup (x ++ y))
  | _, _, _ => .no

/-- += -/
def augD (x y : D) : Res D := match x, y with
  | .int i, .int j => .ok (.int (i + j))
  | .str x, .str y => ofB (okN (x.length + y.length)) (.str (x ++ y))
  | _, _ => .no
mutual
/-- == of data (True is 1) -/
def eqD : D → D → Bool
  | .non, .non => true
  | .bl a, .bl b => a == b
  | .bl a, .int b => decide ((if a then 1 else 0) = b)
  | .int a, .bl b => decide (a = if b then 1 else 0)
  | .int a, .int b => decide (a = b)
  | .str a, .str b => decide (a = b)
  | .tup a, .tup b => eqDs a b
  | .lst a, .lst b => eqDs a b
  | _, _ => false
def eqDs : List D → List D → Bool
  | [], [] => true
  | a :: as, b :: bs => eqD a b && eqDs as bs
  | _, _ => false
end
mutual
/-- nesting, for data that == is asked of: none for a thing that it is not -/
def depD : D → Option Nat
  | .non | .bl _ | .int _ | .str _ => some 0
  | .tup xs | .lst xs => (depDs xs).map (· + 1)
  | _ => none
def depDs : List D → Option Nat
  | [] => some 0
  | x :: xs => match depD x, depDs xs with
    | some a, some b => some (max a b)
    | _, _ => none
end
/-- == may be asked -/
def canEq (d : D) : Bool := match depD d with
  | some n => decide (n ≤ 60)
  | none => false
def atomD : D → Bool
  | .non | .bl _ | .int _ | .str _ => true
  | _ => false
def ints? : List D → Option (List Int)
  | [] => some []
  | .int i :: r => (ints? r).map (i :: ·)
  | _ => none
def hasD (x : D) (ys : List D) : Bool := ys.any fun y => eqD y x
def cmpD (o : CmpOp) (x y : D) : Res D := match o, x, y with
  | .Lt, .int i, .int j => .ok (.bl (decide (i < j)))
  | .LtE, .int i, .int j => .ok (.bl (decide (i ≤ j)))
  | .Gt, .int i, .int j => .ok (.bl (decide (j < i)))
  | .GtE, .int i, .int j => .ok (.bl (decide (j ≤ i)))
  | .Eq, .dic ks vs, .dic ls ws => match ints? vs, ints? ws with
    | some is, some js => ofB (decide (ks = ls) && decide (is = js) && decide ks.Nodup) (.bl true)
    | _, _ => .no
  | .Eq, x, y => ofB (canEq x && canEq y) (.bl (eqD x y))
  | .NotEq, x, y => ofB (canEq x && canEq y) (.bl (!eqD x y))
  | .In, .str x, .str y => match x with
    | [c] => .ok (.bl (decide (c ∈ y)))
    | _ => .no
  | .NotIn, .str x, .str y => match x with
    | [c] => .ok (.bl (!decide (c ∈ y)))
    | _ => .no
  | .In, x, .lst ys => ofB (canEq x && canEq (.lst ys)) (.bl (hasD x ys))
  | .NotIn, x, .lst ys => ofB (canEq x && canEq (.lst ys)) (.bl (!hasD x ys))
  | .In, x, .tup ys => ofB (canEq x && canEq (.tup ys)) (.bl (hasD x ys))
  | .NotIn, x, .tup ys => ofB (canEq x && canEq (.tup ys)) (.bl (!hasD x ys))
  | .Is, .bl a, .bl b => .ok (.bl (decide (a = b)))
  | .IsNot, .bl a, .bl b => .ok (.bl (!decide (a = b)))
  | _, _, _ => .no
/-- the item at i, counted from the end if below 0 -/
def atD {α : Type} (xs : List α) (i : Int) : Option α := (ixN xs.length i).bind fun j => xs[j]?
def ofO {α : Type} (o : Option α) : Res α := match o with
  | some a => .ok a
  | none => .no
@[simp] theorem ofO_some {α : Type} (a : α) : ofO (some a) = .ok a := rfl
@[simp] theorem ofO_none {α : Type} : ofO (none : Option α) = .no := rfl
/-- what stands at a place, for a list that is read -/
def lookD (h : Hh) (x : D) : D := match x with
  | .ref i => match h[i]? with
    | some d => d
    | none => .ref i
  | x => x
def ixD (h : Hh) (x y : D) : Res D := match lookD h x, y with
  | .lst xs, .int i => ofO (atD xs i)
  | .tup xs, .int i => ofO (atD xs i)
  | .str s, .int i => ofO ((atD s i).map fun c => .str [c])
  | _, _ => .no
def clampD (n d : Nat) : Option Int → Nat
  | none => d
  | some v => if v < 0 then (v + (n : Int)).toNat else min v.toNat n
def cutD {α : Type} (xs : List α) (lo hi : Option Int) : List α := (xs.drop (clampD xs.length 0 lo)).take (clampD xs.length xs.length hi - clampD xs.length 0 lo)
def slD (h : Hh) (x : D) (lo hi : Option Int) : Res D := match lookD h x with
  | .lst xs => .ok (.lst (cutD xs lo hi))
  | .tup xs => .ok (.tup (cutD xs lo hi))
  | .str s => .ok (.str (cutD s lo hi))
  | .scr s => .ok (.lst ((cutD s lo hi).map D.int))
  | _ => .no
/-- the kind of a value -/
inductive Tk where
  | non | bl | int | str | tup | lst | dic
  deriving DecidableEq
def tkD : D → Option Tk
  | .non => some .non | .bl _ => some .bl | .int _ => some .int | .str _ => some .str | .tup _ => some .tup | .lst _ => some .lst | .dic _ _ => some .dic
  | _ => none
def subT : Tk → Ty → Bool
  | .bl, .bool | .bl, .int | .int, .int | .str, .str | .tup, .tuple | .lst, .list | .dic, .dict => true
  | _, _ => false
def isiD (h : Hh) (x : D) (t : Ty) : Res D := (ofO (tkD (lookD h x))).bind fun k => .ok (.bl (subT k t))
def bools? : List D → Option (List Bool)
  | [] => some []
  | .bl i :: r => (bools? r).map (i :: ·)
  | _ => none
def strs? : List D → Option (List (List Nat))
  | [] => some []
  | .str i :: r => (strs? r).map (i :: ·)
  | _ => none
def bLen (xs : List D) (h : Hh) : Res D := match xs with
  | [x] => match lookD h x with
    | .lst xs => .ok (.int xs.length)
    | .tup xs => .ok (.int xs.length)
    | .str s => .ok (.int s.length)
    | _ => .no
  | _ => .no
def bAbs (xs : List D) : Res D := match xs with
  | [.int i] => .ok (.int i.natAbs)
  | _ => .no
def bInt (xs : List D) : Res D := match xs with
  | [.int i] => .ok (.int i)
  | _ => .no
def bSum (xs : List D) : Res D := match xs with
  | [.lst xs] => (ofO (ints? xs)).bind fun is => .ok (.int is.sum)
  | _ => .no
def bAll (xs : List D) : Res D := match xs with
  | [.lst xs] => (ofO (bools? xs)).bind fun bs => .ok (.bl (bs.all id))
  | _ => .no
def bAny (xs : List D) : Res D := match xs with
  | [.lst xs] => (ofO (bools? xs)).bind fun bs => .ok (.bl (bs.any id))
  | _ => .no
def bcallD (f : BF) (xs : List D) (h : Hh) : Res D := match f with
  | .len => bLen xs h
  | .abs => bAbs xs
  | .int => bInt xs
  | .sum => bSum xs
  | .all => bAll xs
  | .any => bAny xs
def joinS (sep : List Nat) : List (List Nat) → List Nat
  | [] => []
  | [x] => x
  | x :: y :: r => x ++ (sep ++ joinS sep (y :: r))
def mJoin (x : D) (xs : List D) (h : Hh) : Res (D × Hh) := match x, xs with
  | .str sep, [.lst ys] => (ofO (strs? ys)).bind fun ss => ofB (okN ((ss.map List.length).sum + ss.length * sep.length)) (.str (joinS sep ss), h)
  | _, _ => .no
def mAppend (x : D) (xs : List D) (h : Hh) : Res (D × Hh) := match x, xs with
  | .ref i, [y] => match h[i]? with
    | some (.lst ys) => ofB (okN (ys.length + 1)) (.non, h.set i (.lst (ys ++ [y])))
    | _ => .no
  | _, _ => .no
def mPop (x : D) (xs : List D) (h : Hh) : Res (D × Hh) := match x, xs with
  | .ref i, [.int j] => match h[i]? with
    | some (.lst ys) => if j = 0 then match ys with
        | y :: r => .ok (y, h.set i (.lst r))
        | [] => .no
      else .no
    | _ => .no
  | .ref i, [] => match h[i]? with
    | some (.lst ys) => match ys.getLast? with
        | some y => .ok (y, h.set i (.lst ys.dropLast))
        | none => .no
    | _ => .no
  | _, _ => .no
/-- the receiver's kind -/
def recvD : BM → D → Bool
  | .join, .str _ => true
  | .append, .ref _ => true
  | .pop, .ref _ => true
  | _, _ => false
def bmethD (m : BM) (x : D) (xs : List D) (h : Hh) : Res (D × Hh) := match m with
  | .join => mJoin x xs h
  | .append => mAppend x xs h
  | .pop => mPop x xs h
def setiD (o i v : D) (h : Hh) : Res Hh := match o, i with
  | .ref r, .int j => match h[r]? with
    | some (.lst ys) => if 0 ≤ j ∧ j < ys.length then .ok (h.set r (.lst (ys.set j.toNat v))) else .no
    | _ => .no
  | _, _ => .no

/-! ### what a form gives -/
abbrev Env := List (Option D)
/-- the named things: what a def gives, what a constant is, whether the error class c is one of k -/
structure Gam where
  fn : Nat → Option (Nat × (List D → Hh → Res (D × Hh)))
  con : Nat → Option D
  sub : Nat → Nat → Option Bool
  exk : Nat → Bool
  cls : Nat → Bool
  /-- a class of errors that is made: its name, and the field that its __init__ keeps -/
  mkc : Nat → Option (Str × Option Str)
  /-- whether a thing of the class of this name is of class k -/
  esub : Str → Nat → Option Bool
  /-- a field that may be read -/
  efl : Str → Str → Bool
/-- the classes of the clauses are known -/
def hsOk (G : Gam) : Hds → Bool
  | .nil => true
  | .cons k _ hs => G.cls k && hsOk G hs

def getV (r : Env) (i : Nat) : Res D := match r[i]? with
  | some (some d) => .ok d
  | _ => .no
def wipeE (r : Env) : List Nat → Env
  | [] => r
  | v :: vs => (wipeE r vs).set v none
def boolD (d : D) : Res Bool := match d with
  | .bl b => .ok b
  | _ => .no
@[simp] theorem boolD_bl (b : Bool) : boolD (.bl b) = .ok b := rfl

mutual
def setT : Tg → D → Env → Res Env
  | .var i, d, r => .ok (r.set i (some d))
  | .tup ts, d, r => match d with
    | .tup xs => setTs ts xs r
    | .lst xs => setTs ts xs r
    | _ => .no
def setTs : Tgs → List D → Env → Res Env
  | .nil, [], r => .ok r
  | .cons t ts, x :: xs, r => (setT t x r).bind fun r' => setTs ts xs r'
  | _, _, _ => .no
end

/-- a field -/
def fldD (G : Gam) (x : D) (n : Str) : Res D := match x with
  | .exc c ns ds => if G.efl c n then ofO ((ns.zip ds).lookup n) else .no
  | _ => .no
/-- isinstance against a class of errors -/
def iscD (G : Gam) (x : D) (k : Nat) : Res D := match x with
  | .exc c _ _ => (ofO (G.esub c k)).bind fun b => .ok (.bl b)
  | _ => .no
/-- an error that is made -/
def mkxD (m : Str × Option Str) (xs : List D) : Res D := match m, xs with
  | (c, none), [] => .ok (.exc c [] [])
  | (c, some f), [x] => .ok (.exc c [f] [x])
  | _, _ => .no
def mkSh : Option Str → Exs → Bool
  | none, .nil => true
  | some _, .cons _ .nil => true
  | _, _ => false
/-- the turns of a comprehension -/
def lcD (f : D → Hh → Res (Option D × Hh)) : List D → List D → Hh → Res (List D × Hh)
  | [], acc, h => .ok (acc, h)
  | x :: xs, acc, h => match f x h with
    | .ok (some y, h') => if acc.length < 16777216 then lcD f xs (acc ++ [y]) h' else .no
    | .ok (none, h') => lcD f xs acc h'
    | _ => .no

mutual
def evE (G : Gam) : Ex → Env → Hh → Res (D × Hh)
  | .var i, r, h => (getV r i).bind fun d => .ok (d, h)
  | .con d, _, h => .ok (d, h)
  | .glob k, _, h => (ofO (G.con k)).bind fun d => .ok (d, h)
  | .tup es, r, h => (evEs G es r h).bind fun p => ofB (okN p.1.length) (.tup p.1, p.2)
  | .lst es, r, h => (evEs G es r h).bind fun p => ofB (okN p.1.length) (.lst p.1, p.2)
  | .newl es, r, h => (evEs G es r h).bind fun p => ofB (okN p.1.length) (.ref p.2.length, p.2 ++ [.lst p.1])
  | .bin o a b, r, h => (evE G a r h).bind fun p => (evE G b r p.2).bind fun q => (binD o p.1 q.1).bind fun d => .ok (d, q.2)
  | .neg a, r, h => (evE G a r h).bind fun p => match p.1 with
    | .int i => .ok (.int (-i), p.2)
    | _ => .no
  | .cmp o a b, r, h => (evE G a r h).bind fun p => (evE G b r p.2).bind fun q => (cmpD o p.1 q.1).bind fun d => .ok (d, q.2)
  | .cmp2 o o2 a b c, r, h => (evE G a r h).bind fun p => (evE G b r p.2).bind fun q => (cmpD o p.1 q.1).bind fun d => (boolD d).bind fun t =>
      if t then (evE G c r q.2).bind fun w => (cmpD o2 q.1 w.1).bind fun e => .ok (e, w.2) else .ok (.bl false, q.2)
  | .isn a, r, h => (evE G a r h).bind fun p => match p.1 with
    | .non => .ok (.bl true, p.2)
    | _ => .ok (.bl false, p.2)
  | .notn a, r, h => (evE G a r h).bind fun p => match p.1 with
    | .non => .ok (.bl false, p.2)
    | _ => .ok (.bl true, p.2)
  | .and es, r, h => evA G true es r h
  | .or es, r, h => evA G false es r h
  | .dic0, _, h => .ok (.dic [] [], h)
  | .dicc s i, _, h => .ok (.dic [s] [.int i], h)
  | .fld a n, r, h => (evE G a r h).bind fun p => (fldD G p.1 n).bind fun d => .ok (d, p.2)
  | .isc a k, r, h => (evE G a r h).bind fun p => (iscD G p.1 k).bind fun d => .ok (d, p.2)
  | .mkx k es, r, h => match G.mkc k with
    | some m => if mkSh m.2 es then (evEs G es r h).bind fun p => (mkxD m p.1).bind fun d => .ok (d, p.2) else .no
    | none => .no
  | .not a, r, h => (evE G a r h).bind fun p => (boolD p.1).bind fun t => .ok (.bl (!t), p.2)
  | .ife c a b, r, h => (evE G c r h).bind fun p => (boolD p.1).bind fun t => if t then evE G a r p.2 else evE G b r p.2
  | .ix a i, r, h => (evE G a r h).bind fun p => (evE G i r p.2).bind fun q => (ixD q.2 p.1 q.1).bind fun d => .ok (d, q.2)
  | .sl a lo hi, r, h => (evE G a r h).bind fun p => (evO G lo r p.2).bind fun q => (evO G hi r q.2).bind fun w => (slD w.2 p.1 q.1 w.1).bind fun d => .ok (d, w.2)
  | .isi a t, r, h => (evE G a r h).bind fun p => (isiD p.2 p.1 t).bind fun d => .ok (d, p.2)
  | .bcall f es, r, h => (evEs G es r h).bind fun p => (bcallD f p.1 p.2).bind fun d => .ok (d, p.2)
  | .bmeth m a es, r, h => (evE G a r h).bind fun p => if recvD m p.1 then (evEs G es r p.2).bind fun q => bmethD m p.1 q.1 q.2 else .no
  | .call k es, r, h => match G.fn k with
    | some g => (evEs G es r h).bind fun p => if p.1.length = g.1 then g.2 p.1 p.2 else .no
    | none => .no
  | .lc new elt t it ifs own, r, h => (evI G it r h).bind fun p =>
      (lcD (fun x h1 => (setT t x (wipeE r own)).bind fun r1 => (evTs G ifs r1 h1).bind fun b => if b.1 then (evE G elt r1 b.2).bind fun y => .ok (some y.1, y.2) else .ok (none, b.2)) p.1 [] p.2).bind fun q =>
        if new then .ok (.ref q.2.length, q.2 ++ [.lst q.1]) else .ok (.lst q.1, q.2)
def evEs (G : Gam) : Exs → Env → Hh → Res (List D × Hh)
  | .nil, _, h => .ok ([], h)
  | .cons e es, r, h => (evE G e r h).bind fun p => (evEs G es r p.2).bind fun q => .ok (p.1 :: q.1, q.2)
/-- and (true), or (false) of truth values, from the left -/
def evA (G : Gam) (k : Bool) : Exs → Env → Hh → Res (D × Hh)
  | .nil, _, _ => .no
  | .cons e es, r, h => (evE G e r h).bind fun p => (boolD p.1).bind fun t => match es with
    | .nil => .ok (.bl t, p.2)
    | es => if t = k then evA G k es r p.2 else .ok (.bl t, p.2)
/-- all tests hold, from the left -/
def evTs (G : Gam) : Exs → Env → Hh → Res (Bool × Hh)
  | .nil, _, h => .ok (true, h)
  | .cons e es, r, h => (evE G e r h).bind fun p => (boolD p.1).bind fun t => if t then evTs G es r p.2 else .ok (false, p.2)
def evO (G : Gam) : Ox → Env → Hh → Res (Option Int × Hh)
  | .none, _, h => .ok (none, h)
  | .some e, r, h => (evE G e r h).bind fun p => match p.1 with
    | .int i => .ok (some i, p.2)
    | _ => .no
/-- what a loop goes through -/
def evI (G : Gam) : It → Env → Hh → Res (List D × Hh)
  | .seq e, r, h => (evE G e r h).bind fun p => match p.1 with
    | .lst xs => .ok (xs, p.2)
    | .tup xs => .ok (xs, p.2)
    | .str s => .ok (s.map fun c => .str [c], p.2)
    | _ => .no
  | .range e, r, h => (evE G e r h).bind fun p => match p.1 with
    | .int n => ofB (decide (-1099511627776 < n) && decide (n < 1099511627776)) ((List.range n.toNat).map fun (i : Nat) => .int (0 + (i : Int)), p.2)
    | _ => .no
  | .range2 a b, r, h => (evE G a r h).bind fun p => (evE G b r p.2).bind fun q => match p.1, q.1 with
    | .int m, .int n => ofB (decide (-1099511627776 < m) && decide (m < 1099511627776) && decide (-1099511627776 < n) && decide (n < 1099511627776)) ((List.range (n - m).toNat).map fun (i : Nat) => .int (m + (i : Int)), q.2)
    | _, _ => .no
  | .enum e, r, h => (evE G e r h).bind fun p => match p.1 with
    | .lst xs => .ok (xs.zipIdx.map fun y => .tup [.int y.2, y.1], p.2)
    | .tup xs => .ok (xs.zipIdx.map fun y => .tup [.int y.2, y.1], p.2)
    | _ => .no
  | .zip a b, r, h => (evE G a r h).bind fun p => (evE G b r p.2).bind fun q => match p.1, q.1 with
    | .lst xs, .lst ys => .ok ((xs.zip ys).map fun y => .tup [y.1, y.2], q.2)
    | _, _ => .no
end

inductive Out where
  | nx (r : Env) (h : Hh) | rt (d : D) (h : Hh) | bk (r : Env) (h : Hh) | ct (r : Env) (h : Hh) | ex (c : Nat) (xs : List D) (r : Env) (h : Hh)
/-- an expression within a statement: what it raises leaves the statement at these places -/
def Res.bs {a : Type} (x : Res a) (r : Env) (f : a → Res Out) : Res Out := match x with
  | .ok a => f a
  | .exc c xs h => .ok (.ex c xs r h)
  | .no => .no
@[simp] theorem Res.bs_ok {a : Type} (x : a) (r : Env) (f : a → Res Out) : (Res.ok x).bs r f = f x := rfl
@[simp] theorem Res.bs_exc {a : Type} (c xs h) (r : Env) (f : a → Res Out) : (Res.exc c xs h : Res a).bs r f = .ok (.ex c xs r h) := rfl
@[simp] theorem Res.bs_no {a : Type} (r : Env) (f : a → Res Out) : (Res.no : Res a).bs r f = .no := rfl

/-- the turns of a for -/
def forD (f : D → Env → Hh → Res Out) : List D → Env → Hh → Res Out
  | [], r, h => .ok (.nx r h)
  | x :: xs, r, h => match f x r h with
    | .ok (.nx r' h') => forD f xs r' h'
    | .ok (.ct r' h') => forD f xs r' h'
    | .ok (.bk r' h') => .ok (.nx r' h')
    | o => o
/-- n turns of a while at most -/
def whileN (c : Env → Hh → Res (Bool × Hh)) (f : Env → Hh → Res Out) : Nat → Env → Hh → Res Out
  | 0, _, _ => .no
  | n + 1, r, h => (c r h).bs r fun b => if b.1 then match f r b.2 with
      | .ok (.nx r' h') => whileN c f n r' h'
      | .ok (.ct r' h') => whileN c f n r' h'
      | .ok (.bk r' h') => .ok (.nx r' h')
      | o => o
    else .ok (.nx r b.2)
open Classical in
/-- a while, whatever the number of its turns -/
noncomputable def whileD (c : Env → Hh → Res (Bool × Hh)) (f : Env → Hh → Res Out) (r : Env) (h : Hh) : Res Out :=
  if e : ∃ n, whileN c f n r h ≠ .no then whileN c f (Classical.choose e) r h else .no

/-- two names at once -/
def parD (i j : Nat) (r : Env) (h : Hh) : List D → Res Out
  | [x, y] => .ok (.nx ((r.set i (some x)).set j (some y)) h)
  | _ => .no
mutual
noncomputable def evS (G : Gam) : Sm → Env → Hh → Res Out
  | .set i e, r, h => (evE G e r h).bs r fun p => .ok (.nx (r.set i (some p.1)) p.2)
  | .asg t e, r, h => (evE G e r h).bs r fun p => (setT t p.1 r).bs r fun r' => .ok (.nx r' p.2)
  | .par i j es, r, h => (evEs G es r h).bs r fun p => parD i j r p.2 p.1
  | .seti o i e, r, h => (evE G e r h).bs r fun p => (evE G o r p.2).bs r fun q => (evE G i r q.2).bs r fun w => (setiD q.1 w.1 p.1 w.2).bs r fun h' => .ok (.nx r h')
  | .aug i o e, r, h => (getV r i).bs r fun d => (evE G e r h).bs r fun p => (augD d p.1).bs r fun y => .ok (.nx (r.set i (some y)) p.2)
  | .expr e, r, h => (evE G e r h).bs r fun p => .ok (.nx r p.2)
  | .ret e, r, h => (evE G e r h).bs r fun p => .ok (.rt p.1 p.2)
  | .retn, _, h => .ok (.rt .non h)
  | .iff c a b, r, h => (evE G c r h).bs r fun p => (boolD p.1).bs r fun t => if t then evSs G a r p.2 else evSs G b r p.2
  | .forr t it b, r, h => (evI G it r h).bs r fun p => forD (fun x r1 h1 => (setT t x r1).bs r1 fun r2 => evSs G b r2 h1) p.1 r p.2
  | .whil c b, r, h => whileD (fun r1 h1 => (evE G c r1 h1).bind fun p => (boolD p.1).bind fun t => .ok (t, p.2)) (fun r1 h1 => evSs G b r1 h1) r h
  | .brk, r, h => .ok (.bk r h)
  | .cont, r, h => .ok (.ct r h)
  | .pass, r, h => .ok (.nx r h)
  | .rais k es, r, h => if G.exk k then (evEs G es r h).bs r fun p => .ok (.ex k p.1 r p.2) else .no
  | .rai1 k e, r, h => match G.mkc k with
    | some (_, some _) => (evE G e r h).bs r fun p => .ok (.ex k [p.1] r p.2)
    | _ => .no
  | .tryy b hs, r, h => if hsOk G hs then match evSs G b r h with
      | .ok (.ex c xs r' h') => evH G hs c xs r' h'
      | o => o
    else .no
noncomputable def evSs (G : Gam) : Sms → Env → Hh → Res Out
  | .nil, r, h => .ok (.nx r h)
  | .cons s ss, r, h => (evS G s r h).bind fun o => match o with
    | .nx r' h' => evSs G ss r' h'
    | o => .ok o
noncomputable def evH (G : Gam) : Hds → Nat → List D → Env → Hh → Res Out
  | .nil, c, xs, r, h => .ok (.ex c xs r h)
  | .cons k b hs, c, xs, r, h => match G.sub c k with
    | some true => evSs G b r h
    | some false => evH G hs c xs r h
    | none => .no
end
/-- a body run with its arguments: n places -/
noncomputable def runD (G : Gam) (n : Nat) (b : Sms) (xs : List D) (h : Hh) : Res (D × Hh) :=
  match evSs G b (xs.map some ++ List.replicate (n - xs.length) none) h with
  | .ok (.nx _ h') => .ok (.non, h')
  | .ok (.rt d h') => .ok (d, h')
  | .ok (.ex c xs _ h') => .exc c xs h'
  | _ => .no
end Z9

set_option Elab.async false
set_option linter.all false
set_option maxRecDepth 100000
/-! E1: how data stands for values over the abstract heap. -/
namespace Z9
open PySem L2

/-- a list of the module, or one that stays -/
def SqF (K : PySem.W.Frag) (L : Addr → Prop) (f : List Addr) (H : Hp) (a : Addr) (xs : List V) : Prop :=
  (Rd H a (.lst xs) ∧ ¬ L a ∧ a ∉ f) ∨
    ∃ (o : Obj) (its : Array Value) (n : Nat), K.lookup a = some o ∧ o.cls = .type "list" ∧ o.dict = none ∧ o.data = .seq its n ∧ its.size ≤ sizeLine ∧ Vals xs its.toList
theorem SqF.sq {K : PySem.W.Frag} {L : Addr → Prop} {f : List Addr} {H : Hp} {a : Addr} {xs : List V} (h : SqF K L f H a xs) : SqL K H a xs := h.elim (fun x => .inl x.1) .inr
/-- the name of the class that stands there -/
def clsNm (K : PySem.W.Frag) (C : Addr) : Option Str := (PySem.W.clsIn K C).map fun cd => cd.name
def kS (s : List Nat) : Key := .inr ⟨s.toArray⟩
/-- where the own dict of an error is, and what it holds -/
def ExD (L : Addr → Prop) (f : List Addr) (H : Hp) (dd : Option Addr) (fs : List (Str × V)) : Prop := (dd = none ∧ fs = []) ∨ ∃ d, dd = some d ∧ H d = some (.xd fs) ∧ ¬ L d ∧ d ∉ f
section
variable (K : PySem.W.Frag) (L : Addr → Prop) (f : List Addr) (H : Hp)
mutual
/-- the value v stands for the data; L: places that others may change; f: the changing places, by number -/
inductive Rep : V → D → Prop
  | non : Rep .non .non
  | bl (b : Bool) : Rep (.bl b) (.bl b)
  | int (i : Int) : Rep (.int i) (.int i)
  | str (s : List Nat) : PySem.PyData.strOk ⟨s.toArray⟩ = true → s.length ≤ sizeLine → Rep (.str ⟨s.toArray⟩) (.str s)
  | tup {a : Addr} {vs : List V} {ds : List D} : SqT K H a vs → RepL vs ds → Rep (.ref a) (.tup ds)
  | lst {a : Addr} {vs : List V} {ds : List D} : H a = some (.lst vs) → ¬ L a → a ∉ f → RepL vs ds → Rep (.ref a) (.lst ds)
  | ref {a : Addr} {i : Nat} : f[i]? = some a → Rep (.ref a) (.ref i)
  | dic {a : Addr} {ks : List (List Nat)} {vs : List V} {ds : List D} : H a = some (.dK ((ks.map kS).zip vs)) → ks.length = vs.length → ¬ L a → a ∉ f → RepL vs ds → Rep (.ref a) (.dic ks ds)
  | exc {a C : Addr} {dd : Option Addr} {c : Str} {ns : List Str} {vs : List V} {ds : List D} : H a = some (exw a (.ref C) dd) → clsNm K C = some c → ¬ L a → a ∉ f → ns.length = vs.length → ExD L f H dd (ns.zip vs) → RepL vs ds → Rep (.ref a) (.exc c ns ds)
  | scr {a : Addr} {ns : List Int} : SqF K L f H a (ns.map V.int) → Rep (.ref a) (.scr ns)
inductive RepL : List V → List D → Prop
  | nil : RepL [] []
  | cons {v : V} {vs : List V} {d : D} {ds : List D} : Rep v d → RepL vs ds → RepL (v :: vs) (d :: ds)
end
end

section
variable {K : PySem.W.Frag} {L : Addr → Prop} {f : List Addr} {H : Hp}
theorem RepL.length : ∀ {vs : List V} {ds : List D}, RepL K L f H vs ds → vs.length = ds.length
  | _, _, .nil => rfl
  | _, _, .cons _ t => by simp [RepL.length t]
theorem RepL.append : ∀ {vs ws : List V} {ds es : List D}, RepL K L f H vs ds → RepL K L f H ws es → RepL K L f H (vs ++ ws) (ds ++ es)
  | _, _, _, _, .nil, h => h
  | _, _, _, _, .cons r t, h => .cons r (RepL.append t h)
theorem RepL.get : ∀ {vs : List V} {ds : List D} {i : Nat} {d : D}, RepL K L f H vs ds → ds[i]? = some d → ∃ v, vs[i]? = some v ∧ Rep K L f H v d
  | _, _, _, _, .nil, e => by simp at e
  | _, _, 0, _, .cons r _, e => by simp at e; subst e; exact ⟨_, rfl, r⟩
  | _, _, i + 1, d, .cons _ t, e => by
    obtain ⟨v, h1, h2⟩ := RepL.get (i := i) (d := d) t (by simpa using e)
    exact ⟨v, by simpa using h1, h2⟩
theorem RepL.getV : ∀ {vs : List V} {ds : List D} {i : Nat} {v : V}, RepL K L f H vs ds → vs[i]? = some v → ∃ d, ds[i]? = some d ∧ Rep K L f H v d
  | _, _, _, _, .nil, e => by simp at e
  | _, _, 0, _, .cons r _, e => by simp at e; subst e; exact ⟨_, rfl, r⟩
  | _, _, i + 1, d, .cons _ t, e => by
    obtain ⟨v, h1, h2⟩ := RepL.getV (i := i) (v := d) t (by simpa using e)
    exact ⟨v, by simpa using h1, h2⟩
theorem RepL.take : ∀ {vs : List V} {ds : List D} (n : Nat), RepL K L f H vs ds → RepL K L f H (vs.take n) (ds.take n)
  | _, _, 0, _ => by simpa using .nil
  | _, _, _ + 1, .nil => by simpa using .nil
  | _, _, n + 1, .cons r t => .cons r (RepL.take n t)
theorem RepL.drop : ∀ {vs : List V} {ds : List D} (n : Nat), RepL K L f H vs ds → RepL K L f H (vs.drop n) (ds.drop n)
  | _, _, 0, h => h
  | _, _, _ + 1, .nil => by simpa using .nil
  | _, _, n + 1, .cons r t => RepL.drop n t
theorem RepL.set {v : V} {d : D} (r : Rep K L f H v d) : ∀ {vs : List V} {ds : List D} (i : Nat), RepL K L f H vs ds → RepL K L f H (vs.set i v) (ds.set i d)
  | _, _, _, .nil => .nil
  | _, _, 0, .cons _ t => .cons r t
  | _, _, i + 1, .cons q t => .cons q (RepL.set r i t)
theorem RepL.ints : ∀ (ns : List Int), RepL K L f H (ns.map V.int) (ns.map D.int)
  | [] => .nil
  | n :: ns => .cons (.int n) (RepL.ints ns)
theorem RepL.split : ∀ {vs : List V} {ds es : List D}, RepL K L f H vs (ds ++ es) → ∃ us ws, vs = us ++ ws ∧ RepL K L f H us ds ∧ RepL K L f H ws es
  | vs, [], es, h => ⟨[], vs, rfl, .nil, h⟩
  | _, d :: ds, es, .cons r t => by
    obtain ⟨us, ws, e, a, b⟩ := RepL.split (ds := ds) t
    exact ⟨_ :: us, ws, by rw [e]; rfl, .cons r a, b⟩
end

/-- the state's changing objects -/
structure SRel (K : PySem.W.Frag) (L : Addr → Prop) (f : List Addr) (h : Hh) (H : Hp) : Prop where
  len : f.length = h.length
  nd : f.Nodup
  out : ∀ a, L a → H a ≠ none
  dis : ∀ a ∈ f, ¬ L a
  obj : ∀ (i : Nat) (d : D), h[i]? = some d → ∃ (a : Addr) (ds : List D) (vs : List V), f[i]? = some a ∧ d = D.lst ds ∧ H a = some (.lst vs) ∧ RepL K L f H vs ds

/-- what may have become of the state -/
structure Le (f : List Addr) (H : Hp) (f' : List Addr) (H' : Hp) : Prop where
  pre : ∃ g, f' = f ++ g ∧ ∀ a ∈ g, H a = none
  keep : ∀ a o, H a = some o → a ∉ f → H' a = some o

section
variable {K : PySem.W.Frag} {L : Addr → Prop} {f f' f2 : List Addr} {h h' : Hh} {H H' H2 : Hp}
theorem Le.refl : Le f H f H := ⟨⟨[], by simp, by simp⟩, fun _ _ e _ => e⟩
theorem SRel.at (S : SRel K L f h H) {a : Addr} (ha : a ∈ f) : ∃ vs, H a = some (.lst vs) := by
  obtain ⟨i, hi, e⟩ := List.getElem_of_mem ha
  have hi' : i < h.length := by rw [← S.len]; exact hi
  obtain ⟨b, ds, vs, e1, _, e2, _⟩ := S.obj i h[i] (by simp [hi'])
  have : b = a := by
    rw [List.getElem?_eq_getElem hi, e] at e1
    exact (Option.some.inj e1).symm
  subst this
  exact ⟨vs, e2⟩
theorem Le.none {L0 L1 : Addr → Prop} (l : Le f H f' H') (S : SRel K L0 f h H) (S' : SRel K L1 f' h' H') {a : Addr} (e : H' a = .none) : H a = .none := by
  cases q : H a with
  | none => rfl
  | some o =>
    exfalso
    by_cases hm : a ∈ f
    · obtain ⟨g, e1, _⟩ := l.pre
      obtain ⟨vs, e2⟩ := S'.at (a := a) (by rw [e1]; exact List.mem_append_left _ hm)
      rw [e] at e2
      cases e2
    · rw [l.keep a o q hm] at e
      cases e
theorem Le.trans {L0 L1 : Addr → Prop} (S : SRel K L0 f h H) (S' : SRel K L1 f' h' H') (l : Le f H f' H') (m : Le f' H' f2 H2) : Le f H f2 H2 := by
  obtain ⟨g, e1, n1⟩ := id l.pre
  obtain ⟨k, e2, n2⟩ := id m.pre
  refine ⟨⟨g ++ k, by rw [e2, e1, List.append_assoc], fun a ha => ?_⟩, fun a o e hn => ?_⟩
  · rcases List.mem_append.mp ha with h1 | h1
    · exact n1 a h1
    · exact l.none S S' (n2 a h1)
  · have hn' : a ∉ f' := by
      rw [e1]
      intro hm
      rcases List.mem_append.mp hm with h1 | h1
      · exact hn h1
      · rw [n1 a h1] at e
        cases e
    exact m.keep a o (l.keep a o e hn) hn'
theorem ExD.mono {dd : Option Addr} {fs : List (Str × V)} (x : ExD L f H dd fs) (l : Le f H f' H') : ExD L f' H' dd fs := x.imp id fun ⟨d, e1, e, nl, nf⟩ => ⟨d, e1, l.keep _ _ e nf, nl, (by
      obtain ⟨g, e1, n1⟩ := l.pre
      rw [e1]
      intro hm
      rcases List.mem_append.mp hm with h1 | h1
      · exact nf h1
      · rw [n1 _ h1] at e
        cases e)⟩
mutual
theorem Rep.mono {L0 : Addr → Prop} (S : SRel K L0 f h H) (l : Le f H f' H') : ∀ {v : V} {d : D}, Rep K L f H v d → Rep K L f' H' v d
  | _, _, .non => .non
  | _, _, .bl b => .bl b
  | _, _, .int i => .int i
  | _, _, .str s a b => .str s a b
  | _, _, .tup (a := a) (vs := vs) hs r => .tup (by
      rcases hs with (e | ⟨o, e⟩) | k
      · refine .inl (.inl (l.keep _ _ e fun hm => ?_))
        obtain ⟨ws, e2⟩ := S.at hm
        rw [e] at e2
        cases e2
      · refine .inl (.inr ⟨o, l.keep _ _ e fun hm => ?_⟩)
        obtain ⟨ws, e2⟩ := S.at hm
        rw [e] at e2
        cases e2
      · exact .inr k) (RepL.mono S l r)
  | _, _, .lst e nl nf r => .lst (l.keep _ _ e nf) nl (by
      obtain ⟨g, e1, n1⟩ := l.pre
      rw [e1]
      intro hm
      rcases List.mem_append.mp hm with h1 | h1
      · exact nf h1
      · rw [n1 _ h1] at e
        cases e) (RepL.mono S l r)
  | _, _, .dic e z nl nf r => .dic (l.keep _ _ e nf) z nl (by
      obtain ⟨g, e1, n1⟩ := l.pre
      rw [e1]
      intro hm
      rcases List.mem_append.mp hm with h1 | h1
      · exact nf h1
      · rw [n1 _ h1] at e
        cases e) (RepL.mono S l r)
  | _, _, .exc e c nl nf z x r => .exc (l.keep _ _ e nf) c nl (by
      obtain ⟨g, e1, n1⟩ := l.pre
      rw [e1]
      intro hm
      rcases List.mem_append.mp hm with h1 | h1
      · exact nf h1
      · rw [n1 _ h1] at e
        cases e) z (x.mono l) (RepL.mono S l r)
  | _, _, .ref (i := i) e => .ref (by
      obtain ⟨g, e1, _⟩ := l.pre
      rw [e1]
      have hi : i < f.length := (List.getElem?_eq_some_iff.mp e).1
      rw [List.getElem?_append_left hi]
      exact e)
  | _, _, .scr (a := a) (ns := ns) hs => .scr (by
      rcases hs with ⟨e, nl, nf⟩ | k
      · have e' : Rd H' a (.lst (ns.map V.int)) := by
          rcases e with e | ⟨o, e⟩
          · exact .inl (l.keep _ _ e nf)
          · exact .inr ⟨o, l.keep _ _ e nf⟩
        refine .inl ⟨e', nl, ?_⟩
        obtain ⟨g, e1, n1⟩ := l.pre
        rw [e1]
        intro hm
        rcases List.mem_append.mp hm with h1 | h1
        · exact nf h1
        · rcases e with e | ⟨o, e⟩
          · rw [n1 _ h1] at e
            cases e
          · rw [n1 _ h1] at e
            cases e
      · exact .inr k)
theorem RepL.mono {L0 : Addr → Prop} (S : SRel K L0 f h H) (l : Le f H f' H') : ∀ {vs : List V} {ds : List D}, RepL K L f H vs ds → RepL K L f' H' vs ds
  | _, _, .nil => .nil
  | _, _, .cons r t => .cons (Rep.mono S l r) (RepL.mono S l t)
end
/-- a new object that stays -/
theorem SRel.alloc {p : Addr} {o : HO} (S : SRel K L f h H) (hp : H p = .none) : Le f H f (upd H p o) ∧ SRel K L f h (upd H p o) ∧ ¬ L p ∧ p ∉ f := by
  have hl : ¬ L p := fun x => S.out p x hp
  have hf : p ∉ f := fun x => by
    obtain ⟨vs, e⟩ := S.at x
    rw [hp] at e
    cases e
  have l : Le f H f (upd H p o) := ⟨⟨[], by simp, by simp⟩, fun a u e _ => by
    rw [upd_ne (fun z => by rw [z, hp] at e; cases e)]
    exact e⟩
  refine ⟨l, ⟨S.len, S.nd, fun a x => ?_, S.dis, fun i d e => ?_⟩, hl, hf⟩
  · by_cases z : a = p
    · subst z
      rw [upd_same]
      exact fun y => nomatch y
    · rw [upd_ne z]
      exact S.out a x
  · obtain ⟨a, ds, vs, e1, e2, e3, r⟩ := S.obj i d e
    refine ⟨a, ds, vs, e1, e2, ?_, RepL.mono S l r⟩
    rw [upd_ne (fun z => by rw [z, hp] at e3; cases e3)]
    exact e3
/-- more places that others may change: new ones -/
structure Lw (L : Addr → Prop) (H : Hp) (L1 : Addr → Prop) : Prop where
  sub : ∀ a, L a → L1 a
  new : ∀ a, L1 a → L a ∨ H a = .none
theorem Lw.refl : Lw L H L := ⟨fun _ h => h, fun _ h => .inl h⟩
mutual
theorem Rep.wide {L1 : Addr → Prop} (w : Lw L H L1) : ∀ {v : V} {d : D}, Rep K L f H v d → Rep K L1 f H v d
  | _, _, .non => .non
  | _, _, .bl b => .bl b
  | _, _, .int i => .int i
  | _, _, .str s a b => .str s a b
  | _, _, .tup hs r => .tup hs (RepL.wide w r)
  | _, _, .lst e nl nf r => .lst e (fun x => (w.new _ x).elim nl fun z => by rw [z] at e; cases e) nf (RepL.wide w r)
  | _, _, .ref e => .ref e
  | _, _, .dic e l nl nf r => .dic e l (fun x => (w.new _ x).elim nl fun z => by rw [z] at e; cases e) nf (RepL.wide w r)
  | _, _, .exc e c nl nf z x r => .exc e c (fun x => (w.new _ x).elim nl fun z => by rw [z] at e; cases e) nf z (x.imp id fun ⟨d, e1, e, nl, nf⟩ => ⟨d, e1, e, (fun x => (w.new _ x).elim nl fun z => by rw [z] at e; cases e), nf⟩) (RepL.wide w r)
  | _, _, .scr hs => .scr (by
      rcases hs with ⟨e, nl, nf⟩ | k
      · refine .inl ⟨e, fun x => (w.new _ x).elim nl fun z => ?_, nf⟩
        rcases e with e | ⟨o, e⟩ <;> (rw [z] at e; cases e)
      · exact .inr k)
theorem RepL.wide {L1 : Addr → Prop} (w : Lw L H L1) : ∀ {vs : List V} {ds : List D}, RepL K L f H vs ds → RepL K L1 f H vs ds
  | _, _, .nil => .nil
  | _, _, .cons r t => .cons (Rep.wide w r) (RepL.wide w t)
end
mutual
theorem Rep.narrow {L1 : Addr → Prop} (w : ∀ a, L1 a → L a) : ∀ {v : V} {d : D}, Rep K L f H v d → Rep K L1 f H v d
  | _, _, .non => .non
  | _, _, .bl b => .bl b
  | _, _, .int i => .int i
  | _, _, .str s a b => .str s a b
  | _, _, .tup hs r => .tup hs (RepL.narrow w r)
  | _, _, .lst e nl nf r => .lst e (fun x => nl (w _ x)) nf (RepL.narrow w r)
  | _, _, .ref e => .ref e
  | _, _, .dic e l nl nf r => .dic e l (fun x => nl (w _ x)) nf (RepL.narrow w r)
  | _, _, .exc e c nl nf z x r => .exc e c (fun x => nl (w _ x)) nf z (x.imp id fun ⟨d, e1, e, nl, nf⟩ => ⟨d, e1, e, (fun x => nl (w _ x)), nf⟩) (RepL.narrow w r)
  | _, _, .scr hs => .scr (by
      rcases hs with ⟨e, nl, nf⟩ | k
      · exact .inl ⟨e, fun x => nl (w _ x), nf⟩
      · exact .inr k)
theorem RepL.narrow {L1 : Addr → Prop} (w : ∀ a, L1 a → L a) : ∀ {vs : List V} {ds : List D}, RepL K L f H vs ds → RepL K L1 f H vs ds
  | _, _, .nil => .nil
  | _, _, .cons r t => .cons (Rep.narrow w r) (RepL.narrow w t)
end
mutual
theorem Rep.up {p : Addr} (np : ¬ L p) : ∀ {v : V} {d : D}, Rep K (fun a => L a ∨ a = p) f H v d → Rep K L (f ++ [p]) H v d
  | _, _, .non => .non
  | _, _, .bl b => .bl b
  | _, _, .int i => .int i
  | _, _, .str s a b => .str s a b
  | _, _, .tup hs r => .tup hs (RepL.up np r)
  | _, _, .lst e nl nf r => .lst e (fun x => nl (.inl x)) (fun m => (List.mem_append.mp m).elim nf fun z => nl (.inr (List.mem_singleton.mp z))) (RepL.up np r)
  | _, _, .ref (i := i) e => .ref (by
      have hi : i < f.length := (List.getElem?_eq_some_iff.mp e).1
      rw [List.getElem?_append_left hi]
      exact e)
  | _, _, .dic e l nl nf r => .dic e l (fun x => nl (.inl x)) (fun m => (List.mem_append.mp m).elim nf fun z => nl (.inr (List.mem_singleton.mp z))) (RepL.up np r)
  | _, _, .exc e c nl nf z x r => .exc e c (fun x => nl (.inl x)) (fun m => (List.mem_append.mp m).elim nf fun z => nl (.inr (List.mem_singleton.mp z))) z (x.imp id fun ⟨d, e1, e, nl, nf⟩ => ⟨d, e1, e, (fun x => nl (.inl x)), (fun m => (List.mem_append.mp m).elim nf fun z => nl (.inr (List.mem_singleton.mp z)))⟩) (RepL.up np r)
  | _, _, .scr hs => .scr (by
      rcases hs with ⟨e, nl, nf⟩ | k
      · exact .inl ⟨e, fun x => nl (.inl x), fun m => (List.mem_append.mp m).elim nf fun z => nl (.inr (List.mem_singleton.mp z))⟩
      · exact .inr k)
theorem RepL.up {p : Addr} (np : ¬ L p) : ∀ {vs : List V} {ds : List D}, RepL K (fun a => L a ∨ a = p) f H vs ds → RepL K L (f ++ [p]) H vs ds
  | _, _, .nil => .nil
  | _, _, .cons r t => .cons (Rep.up np r) (RepL.up np t)
end
theorem SRel.narrow {L1 : Addr → Prop} (w : ∀ a, L1 a → L a) (S : SRel K L f h H) : SRel K L1 f h H :=
  ⟨S.len, S.nd, fun a x => S.out a (w a x), fun a m x => S.dis a m (w a x), fun i d e => let ⟨a, ds, vs, e1, e2, e3, r⟩ := S.obj i d e; ⟨a, ds, vs, e1, e2, e3, RepL.narrow w r⟩⟩
/-- one place more that others may change -/
theorem SRel.widen {p : Addr} (S : SRel K L f h H) (hp : H p ≠ .none) (hf : p ∉ f) (r : ∀ vs ds, RepL K L f H vs ds → RepL K (fun a => L a ∨ a = p) f H vs ds) : SRel K (fun a => L a ∨ a = p) f h H :=
  ⟨S.len, S.nd, fun a x => x.elim (S.out a) fun z => by rw [z]; exact hp, fun a m x => x.elim (S.dis a m) fun z => hf (by rw [← z]; exact m),
    fun i d e => let ⟨a, ds, vs, e1, e2, e3, q⟩ := S.obj i d e; ⟨a, ds, vs, e1, e2, e3, r _ _ q⟩⟩
mutual
theorem Rep.poke {p : Addr} {o : HO} {xs : List V} (hp : L p) (hl : H p = some (.lst xs)) : ∀ {v : V} {d : D}, Rep K L f H v d → Rep K L f (upd H p o) v d
  | _, _, .non => .non
  | _, _, .bl b => .bl b
  | _, _, .int i => .int i
  | _, _, .str s a b => .str s a b
  | _, _, .tup hs r => .tup (by
      rcases hs with (e | ⟨u, e⟩) | k
      · exact .inl (.inl (by rw [upd_ne (fun z => by rw [z, hl] at e; cases e)]; exact e))
      · exact .inl (.inr ⟨u, by rw [upd_ne (fun z => by rw [z, hl] at e; cases e)]; exact e⟩)
      · exact .inr k) (RepL.poke hp hl r)
  | _, _, .lst e nl nf r => .lst (by rw [upd_ne (fun z => nl (by rw [z]; exact hp))]; exact e) nl nf (RepL.poke hp hl r)
  | _, _, .ref e => .ref e
  | _, _, .dic e l nl nf r => .dic (by rw [upd_ne (fun z => nl (by rw [z]; exact hp))]; exact e) l nl nf (RepL.poke hp hl r)
  | _, _, .exc e c nl nf z x r => .exc (by rw [upd_ne (fun z => nl (by rw [z]; exact hp))]; exact e) c nl nf z (x.imp id fun ⟨d, e1, e, nl, nf⟩ => ⟨d, e1, by rw [upd_ne (fun z => nl (by rw [z]; exact hp))]; exact e, nl, nf⟩) (RepL.poke hp hl r)
  | _, _, .scr hs => .scr (by
      rcases hs with ⟨e, nl, nf⟩ | k
      · refine .inl ⟨?_, nl, nf⟩
        rcases e with e | ⟨u, e⟩
        · exact .inl (by rw [upd_ne (fun z => nl (by rw [z]; exact hp))]; exact e)
        · exact .inr ⟨u, by rw [upd_ne (fun z => nl (by rw [z]; exact hp))]; exact e⟩
      · exact .inr k)
theorem RepL.poke {p : Addr} {o : HO} {xs : List V} (hp : L p) (hl : H p = some (.lst xs)) : ∀ {vs : List V} {ds : List D}, RepL K L f H vs ds → RepL K L f (upd H p o) vs ds
  | _, _, .nil => .nil
  | _, _, .cons r t => .cons (Rep.poke hp hl r) (RepL.poke hp hl t)
end
theorem SRel.poke {p : Addr} {o : HO} {xs : List V} (S : SRel K L f h H) (hp : L p) (hl : H p = some (.lst xs)) : SRel K L f h (upd H p o) := by
  refine ⟨S.len, S.nd, fun a x => ?_, S.dis, fun i d e => ?_⟩
  · by_cases z : a = p
    · subst z
      rw [upd_same]
      exact fun y => nomatch y
    · rw [upd_ne z]
      exact S.out a x
  · obtain ⟨a, ds, vs, e1, e2, e3, r⟩ := S.obj i d e
    refine ⟨a, ds, vs, e1, e2, ?_, RepL.poke hp hl r⟩
    rw [upd_ne (fun z => S.dis a (List.mem_of_getElem? e1) (by rw [z]; exact hp))]
    exact e3
/-- a new object that this one may change, and no other knows -/
theorem SRel.lay {p : Addr} {o : HO} (S : SRel K L f h H) (hp : H p = .none) : Le f H f (upd H p o) ∧ SRel K (fun a => L a ∨ a = p) f h (upd H p o) ∧ Lw L H (fun a => L a ∨ a = p) ∧ ¬ L p ∧ p ∉ f := by
  obtain ⟨l, S', n1, n2⟩ := S.alloc (o := o) hp
  have w : Lw L H (fun a => L a ∨ a = p) := ⟨fun a x => .inl x, fun a x => x.imp id fun z => by rw [z]; exact hp⟩
  refine ⟨l, ⟨S.len, S.nd, fun a x => ?_, fun a m x => ?_, fun i d e => ?_⟩, w, n1, n2⟩
  · rcases x with x | x
    · exact S'.out a x
    · rw [x, upd_same]
      exact fun y => nomatch y
  · rcases x with x | x
    · exact S.dis a m x
    · rw [x] at m
      exact n2 m
  · obtain ⟨a, ds, vs, e1, e2, e3, r⟩ := S.obj i d e
    refine ⟨a, ds, vs, e1, e2, ?_, RepL.mono S l (RepL.wide w r)⟩
    rw [upd_ne (fun z => by rw [z, hp] at e3; cases e3)]
    exact e3
end
end Z9

set_option Elab.async false
set_option linter.all false
set_option maxRecDepth 100000
set_option maxHeartbeats 1000000
/-! E2: the operations by values. -/
namespace Z9
open PySem PySem.Spec PyProof.Rows L2

section
variable {K : PySem.W.Frag} {L : Addr → Prop} {f f' : List Addr} {h : Hh} {H H' : Hp}
theorem str_len (s : List Nat) : (⟨s.toArray⟩ : Str).length = s.length := by simp [Str.length]
theorem strOk_iff {s : List Nat} : PySem.PyData.strOk ⟨s.toArray⟩ = true ↔ ∀ c ∈ s, c < 0x110000 := by
  simp [PySem.PyData.strOk]
theorem Rep.app {x y : List Nat} {a b : Str} (h1 : Rep K L f H (.str a) (.str x)) (h2 : Rep K L f H (.str b) (.str y)) (hz : x.length + y.length ≤ sizeLine) : Rep K L f H (.str (a ++ b)) (.str (x ++ y)) := by
  cases h1 with
  | str _ o1 z1 =>
    cases h2 with
    | str _ o2 z2 =>
      have e : ((⟨x.toArray⟩ : Str) ++ (⟨y.toArray⟩ : Str)) = (⟨(x ++ y).toArray⟩ : Str) := by
        show (⟨x.toArray ++ y.toArray⟩ : Str) = _
        simp
      rw [e]
      refine .str _ ?_ (by rw [List.length_append]; exact hz)
      rw [strOk_iff] at o1 o2 ⊢
      intro c hc
      rcases List.mem_append.mp hc with k | k
      · exact o1 c k
      · exact o2 c k
/-- any text of signs that are let -/
theorem Rep.strOf {x : List Nat} (o : ∀ c ∈ x, c < 0x110000) (z : x.length ≤ sizeLine) : Rep K L f H (.str ⟨x.toArray⟩) (.str x) := .str x (strOk_iff.mpr o) z
theorem Rep.signs {x : List Nat} {v : V} (h : Rep K L f H v (.str x)) : v = .str ⟨x.toArray⟩ ∧ (∀ c ∈ x, c < 0x110000) ∧ x.length ≤ sizeLine := by
  cases h with
  | str _ o z => exact ⟨rfl, strOk_iff.mp o, z⟩
theorem Rep.seqT {ds : List D} {v : V} (h : Rep K L f H v (.tup ds)) : ∃ a vs, v = .ref a ∧ SqT K H a vs ∧ RepL K L f H vs ds := by
  cases h with
  | tup s r => exact ⟨_, _, rfl, s, r⟩
theorem Rep.seqL {ds : List D} {v : V} (h : Rep K L f H v (.lst ds)) : ∃ a vs, v = .ref a ∧ H a = some (.lst vs) ∧ ¬ L a ∧ a ∉ f ∧ RepL K L f H vs ds := by
  cases h with
  | lst s n1 n2 r => exact ⟨_, _, rfl, s, n1, n2, r⟩
theorem Rep.intE {i : Int} {v : V} (h : Rep K L f H v (.int i)) : v = .int i := by cases h; rfl
theorem Rep.blE {i : Bool} {v : V} (h : Rep K L f H v (.bl i)) : v = .bl i := by cases h; rfl
end

/-- what an operation by values asks -/
def rD (K : PySem.W.Frag) (g : D → D → Hh → Res D) : R2 := fun x y H Q => ∃ (L : Addr → Prop) (f : List Addr) (h : Hh) (d e : D), SRel K L f h H ∧ Rep K L f H x d ∧ Rep K L f H y e ∧
  match g d e h with
  | .ok z => ∀ (H' : Hp) (v : V), Le f H f H' → SRel K L f h H' → Rep K L f H' v z → Q v H'
  | _ => False

section
variable {X : Cx}
theorem ofB_ok {α : Type} {b : Bool} {a z : α} (h : ofB b a = .ok z) : b = true ∧ a = z := by
  cases b with
  | true => exact ⟨rfl, Res.ok.inj h⟩
  | false => cases h
theorem rD_ok {g : Res D} {P : D → Prop} (h : match g with | .ok z => P z | _ => False) : ∃ z, g = .ok z ∧ P z := by
  cases g with
  | ok z => exact ⟨z, rfl, h⟩
  | exc c xs h' => exact h.elim
  | no => exact h.elim
/-- a new list that stays -/
theorem fin_list {pins : List (Addr × Obj)} {σ : L2.St} {s : Shared} {H : Hp} {K : PySem.W.Frag} {L : Addr → Prop} {f : List Addr} {h : Hh} {vs : List V} {ds : List D} {Q : VK} {p : Addr} (S : SRel K L f h H) (r : RepL K L f H vs ds)
    (q : ∀ (H' : Hp) (v : V), Le f H f H' → SRel K L f h H' → Rep K L f H' v (.lst ds) → Q v H') (hp : H p = none) : Q (.ref p) (upd H p (.lst vs)) := by
  obtain ⟨l, S', n1, n2⟩ := S.alloc (o := .lst vs) hp
  exact q _ _ l S' (.lst upd_same n1 n2 (RepL.mono S l r))
theorem fin_tup {H : Hp} {K : PySem.W.Frag} {L : Addr → Prop} {f : List Addr} {h : Hh} {vs : List V} {ds : List D} {Q : VK} {p : Addr} (S : SRel K L f h H) (r : RepL K L f H vs ds)
    (q : ∀ (H' : Hp) (v : V), Le f H f H' → SRel K L f h H' → Rep K L f H' v (.tup ds) → Q v H') (hp : H p = none) : Q (.ref p) (upd H p (.tup vs)) := by
  obtain ⟨l, S', n1, n2⟩ := S.alloc (o := .tup vs) hp
  exact q _ _ l S' (.tup (.of upd_same) (RepL.mono S l r))

theorem foldl_cps (a : Array Nat) : ∀ (n : Nat) (acc : Array Nat), (List.replicate n a).foldl (· ++ ·) acc = (acc.toList ++ (List.replicate n a.toList).flatten).toArray
  | 0, acc => by simp
  | n + 1, acc => by
    rw [List.replicate_succ, List.foldl_cons, foldl_cps a n]
    simp [List.replicate_succ]
theorem tooLong_of {n : Nat} (h : n ≤ sizeLine) : PySem.Builtin.Str.tooLong n = false := decide_eq_false (by omega)
/-- a text times a number -/
theorem mulS {s : Shared} {Q : Value → Shared → Prop} {E : Value → Shared → Prop} {a : List Nat} {j : Int} {t u : Tok} (hj : 0 ≤ j) (hj2 : j < 1099511627776) (hz : a.length * j.toNat ≤ sizeLine)
    (h : ∀ (t' : Nat) (tk : Tok), Q (.str ⟨(List.replicate j.toNat a).flatten.toArray⟩ tk) { s with toks := t' }) : wpAny (model X.prog X.w) X.A (binaryOp .Mult (.str ⟨a.toArray⟩ t) (.int j u)) Q E s := by
  have hs : sizeLine = 16777216 := sizeLine_eq
  have hz2 : (a.length : Int) * j ≤ 16777216 := by
    have e : (a.length : Int) * j = ((a.length * j.toNat : Nat) : Int) := by
      rw [Int.natCast_mul, Int.toNat_of_nonneg hj]
    rw [e]
    omega
  refine PySem.P.mul_str ?_ (fun h1 _ => ?_) (fun _ _ => ?_) ?_
  · have e1 : decide (j < -(2 ^ 63 : Int)) = false := decide_eq_false (by omega)
    have e2 : decide (j ≥ 2 ^ 63) = false := decide_eq_false (by omega)
    rw [e1, e2]
    rfl
  · rw [str_len]
    intro hgt
    have h2 : (a.length : Int) ≤ (2 ^ 63 - 1) / j := by
      rw [Int.le_ediv_iff_mul_le (by omega)]
      exact Int.le_trans hz2 (by decide)
    omega
  · rw [str_len]
    exact tooLong_of hz
  · by_cases h1 : j < 1
    · rw [if_pos h1]
      have e : j = 0 := by omega
      subst e
      exact ⟨by decide, h _ _⟩
    · rw [if_neg h1]
      by_cases h2 : (j == 1 || (⟨a.toArray⟩ : Str).length == 0) = true
      · rw [if_pos h2]
        have e : (List.replicate j.toNat a).flatten = a := by
          rw [str_len, Bool.or_eq_true] at h2
          rcases h2 with h2 | h2
          · have : j = 1 := by simpa using h2
            subst this
            simp
          · have : a = [] := by simpa using h2
            subst this
            simp
        have q := h s.toks t
        rw [e] at q
        exact q
      · rw [if_neg h2]
        have e : List.foldl (fun x1 x2 => x1 ++ x2) #[] (List.replicate j.toNat (⟨a.toArray⟩ : Str).cps) = (List.replicate j.toNat a).flatten.toArray := by
          rw [foldl_cps]
          simp
        rw [e]
        refine ⟨?_, h _ _⟩
        rw [str_len]
        simpa [Nat.mul_comm] using hz
theorem op_binD (o : Operator) : OpR X (binaryOp o) (rD X.K fun x y _ => binD o x y) := by
  intro pins s σ H x y v u Q I rx ry hh
  obtain ⟨L, f, h, d, e, S, rd, re, q0⟩ := hh
  obtain ⟨z, hz, q⟩ := rD_ok q0
  replace hz : binD o d e = .ok z := hz
  unfold binD at hz
  split at hz
  · cases rd; cases re; cases hz
    exact op_add pins s σ H _ _ v u Q I rx ry ⟨_, _, rfl, rfl, q H _ .refl S (.int _)⟩
  · cases rd; cases re; cases hz
    exact op_sub pins s σ H _ _ v u Q I rx ry ⟨_, _, rfl, rfl, q H _ .refl S (.int _)⟩
  · cases rd; cases re
    obtain ⟨hc, rfl⟩ := ofB_ok hz
    simp only [cMul, Bool.or_eq_true, Bool.and_eq_true, decide_eq_true_eq] at hc
    exact op_mul pins s σ H _ _ v u Q I rx ry ⟨_, _, rfl, rfl, hc, q H _ .refl S (.int _)⟩
  · cases rd; cases re
    obtain ⟨hc, rfl⟩ := ofB_ok hz
    exact op_mod pins s σ H _ _ v u Q I rx ry ⟨_, _, rfl, rfl, of_decide_eq_true hc, q H _ .refl S (.int _)⟩
  · cases rd; cases re
    obtain ⟨hc, rfl⟩ := ofB_ok hz
    simp only [Bool.and_eq_true, decide_eq_true_eq] at hc
    exact op_fdiv pins s σ H _ _ v u Q I rx ry ⟨_, _, rfl, rfl, hc, q H _ .refl S (.int _)⟩
  · cases rd; cases re
    obtain ⟨hc, rfl⟩ := ofB_ok hz
    simp only [Bool.and_eq_true, decide_eq_true_eq] at hc
    exact op_pow pins s σ H _ _ v u Q I rx ry ⟨_, _, rfl, rfl, ⟨hc.1.1, hc.1.2, hc.2⟩, q H _ .refl S (.int _)⟩
  · cases rd; cases re
    obtain ⟨hc, rfl⟩ := ofB_ok hz
    simp only [Bool.and_eq_true, decide_eq_true_eq] at hc
    exact op_shl pins s σ H _ _ v u Q I rx ry ⟨_, _, rfl, rfl, ⟨hc.1.1, hc.1.2, hc.2⟩, q H _ .refl S (.int _)⟩
  · rename_i a b
    obtain ⟨hc, rfl⟩ := ofB_ok hz
    have hz : a.length + b.length ≤ sizeLine := of_decide_eq_true hc
    obtain ⟨rfl, _, _⟩ := rd.signs
    obtain ⟨rfl, _, _⟩ := re.signs
    exact op_add_str pins s σ H _ _ v u Q I rx ry ⟨_, _, rfl, rfl, by rw [str_len, str_len]; exact hz, q H _ .refl S (rd.app re hz)⟩
  · rename_i a j
    obtain ⟨hc, rfl⟩ := ofB_ok hz
    simp only [Bool.and_eq_true, decide_eq_true_eq] at hc
    obtain ⟨⟨hj, hj2⟩, hz⟩ := hc
    have hz : a.length * j.toNat ≤ sizeLine := of_decide_eq_true hz
    obtain ⟨rfl, oa, za⟩ := rd.signs
    cases re
    obtain ⟨t, rfl⟩ := rx
    obtain ⟨t', rfl⟩ := ry
    exact mulS hj hj2 hz fun t tk => ⟨.str _, H, I.tok t, ⟨tk, rfl⟩, q H _ .refl S (.strOf (fun c hc => by
      obtain ⟨l, hl, hc⟩ := List.mem_flatten.mp hc
      rw [(List.mem_replicate.mp hl).2] at hc
      exact oa c hc) (by simpa [Nat.mul_comm] using hz))⟩
  · rename_i a b
    obtain ⟨hc, rfl⟩ := ofB_ok hz
    have hz : a.length + b.length ≤ sizeLine := of_decide_eq_true hc
    obtain ⟨p1, v1, rfl, e1, _, _, r1⟩ := rd.seqL
    obtain ⟨p2, v2, rfl, e2, _, _, r2⟩ := re.seqL
    refine op_cat pins s σ H _ _ v u Q I rx ry ⟨p1, p2, v1, v2, rfl, rfl, e1, e2, by rw [r1.length, r2.length]; exact hz, fun p hp => ?_⟩
    exact fin_list (pins := pins) (σ := σ) (s := s) S (r1.append r2) q hp
  · rename_i a b
    obtain ⟨hc, rfl⟩ := ofB_ok hz
    have hz : a.length + b.length ≤ sizeLine := of_decide_eq_true hc
    obtain ⟨p1, v1, rfl, e1, r1⟩ := rd.seqT
    obtain ⟨p2, v2, rfl, e2, r2⟩ := re.seqT
    refine op_catA pins s σ H _ _ v u Q I rx ry ⟨p1, p2, v1, v2, rfl, rfl, e1, e2, by rw [r1.length, r2.length]; exact hz, fun z => ?_, fun _ z => ?_, fun _ _ p hp => fin_tup S (r1.append r2) q hp⟩
    · subst z
      cases r1
      exact q H _ .refl S re
    · subst z
      cases r2
      rw [List.append_nil] at q
      exact q H _ .refl S rd
  · cases hz

/-! ### == -/
mutual
def toP : D → PyData
  | .non => .none
  | .bl b => .bool b
  | .int i => .int i
  | .str s => .str ⟨s.toArray⟩
  | .tup xs => .tuple (toPs xs)
  | .lst xs => .list (toPs xs)
  | _ => .none
def toPs : List D → List PyData
  | [] => []
  | x :: xs => toP x :: toPs xs
end
theorem int_beq (a b : Int) : (a == b) = decide (a = b) := by rw [Bool.eq_iff_iff]; simp
theorem str_beq (a b : List Nat) : ((⟨a.toArray⟩ : Str) == ⟨b.toArray⟩) = decide (a = b) := by rw [Bool.eq_iff_iff]; simp
mutual
theorem eqv_toP : ∀ (d e : D) (n m : Nat), depD d = some n → depD e = some m → PyData.eqv (toP d) (toP e) = eqD d e
  | .non, e, n, m, hd, he => by cases e <;> simp_all [toP, eqD, depD, PyData.eqv]
  | .bl b, e, n, m, hd, he => by cases e <;> simp_all [toP, eqD, depD, PyData.eqv, int_beq]
  | .int b, e, n, m, hd, he => by cases e <;> simp_all [toP, eqD, depD, PyData.eqv, int_beq]
  | .str b, e, n, m, hd, he => by cases e <;> simp_all [toP, eqD, depD, PyData.eqv, str_beq]
  | .tup b, e, n, m, hd, he => by
    cases e with
    | tup c =>
      simp only [toP, eqD, PyData.eqv]
      simp only [depD, Option.map_eq_some_iff] at hd he
      obtain ⟨n1, hd, _⟩ := hd
      obtain ⟨m1, he, _⟩ := he
      exact eqv_toPs b c n1 m1 hd he
    | _ => simp_all [toP, eqD, depD, PyData.eqv]
  | .lst b, e, n, m, hd, he => by
    cases e with
    | lst c =>
      simp only [toP, eqD, PyData.eqv]
      simp only [depD, Option.map_eq_some_iff] at hd he
      obtain ⟨n1, hd, _⟩ := hd
      obtain ⟨m1, he, _⟩ := he
      exact eqv_toPs b c n1 m1 hd he
    | _ => simp_all [toP, eqD, depD, PyData.eqv]
  | .ref _, _, _, _, hd, _ => by simp [depD] at hd
  | .scr _, _, _, _, hd, _ => by simp [depD] at hd
  | .ins _ _ _, _, _, _, hd, _ => by simp [depD] at hd
  | .exc _ _ _, _, _, _, hd, _ => by simp [depD] at hd
  | .dic _ _, _, _, _, hd, _ => by simp [depD] at hd
theorem eqv_toPs : ∀ (d e : List D) (n m : Nat), depDs d = some n → depDs e = some m → PyData.eqvAll (toPs d) (toPs e) = eqDs d e
  | [], [], _, _, _, _ => by simp [toPs, eqDs, PyData.eqvAll]
  | [], _ :: _, _, _, _, _ => by simp [toPs, eqDs, PyData.eqvAll]
  | _ :: _, [], _, _, _, _ => by simp [toPs, eqDs, PyData.eqvAll]
  | a :: as, b :: bs, n, m, hd, he => by
    simp only [depDs] at hd he
    split at hd
    · rename_i x y h1 h2
      split at he
      · rename_i x' y' h3 h4
        simp only [toPs, eqDs, PyData.eqvAll, eqv_toP a b _ _ h1 h3, eqv_toPs as bs _ _ h2 h4]
      · cases he
    · cases hd
end
mutual
theorem dep_shape : ∀ (d : D) (n : Nat), depD d = some n → (toP d).depth ≤ n
  | .non, n, h => by simp_all [depD, toP, PyData.depth]
  | .bl _, n, h => by simp_all [depD, toP, PyData.depth]
  | .int _, n, h => by simp_all [depD, toP, PyData.depth]
  | .str _, n, h => by simp_all [depD, toP, PyData.depth]
  | .tup b, n, h => by
    simp only [depD, Option.map_eq_some_iff] at h
    obtain ⟨m, h, rfl⟩ := h
    have := dep_shapes b m h
    simp only [toP, PyData.depth]
    omega
  | .lst b, n, h => by
    simp only [depD, Option.map_eq_some_iff] at h
    obtain ⟨m, h, rfl⟩ := h
    have := dep_shapes b m h
    simp only [toP, PyData.depth]
    omega
  | .ref _, _, h => by simp [depD] at h
  | .scr _, _, h => by simp [depD] at h
  | .ins _ _ _, _, h => by simp [depD] at h
  | .exc _ _ _, _, h => by simp [depD] at h
  | .dic _ _, _, h => by simp [depD] at h
theorem dep_shapes : ∀ (d : List D) (n : Nat), depDs d = some n → PyData.depthAll (toPs d) ≤ n
  | [], n, h => by simp_all [depDs, toPs, PyData.depthAll]
  | a :: as, n, h => by
    simp only [depDs] at h
    split at h
    · rename_i x y h1 h2
      cases h
      have e1 := dep_shape a x h1
      have e2 := dep_shapes as y h2
      simp only [toPs, PyData.depthAll]
      omega
    · cases h
end
section
variable {K : PySem.W.Frag} {L : Addr → Prop} {f : List Addr} {H : Hp}
mutual
theorem rep_dp : ∀ (d : D) (n : Nat) (v : V), depD d = some n → Rep K L f H v d → Dp K H v (toP d) ∧ (toP d).canLay0 = true
  | .non, n, v, h, r => by cases r; exact ⟨.non, rfl⟩
  | .bl _, n, v, h, r => by cases r; exact ⟨.bl _, rfl⟩
  | .int _, n, v, h, r => by cases r; exact ⟨.int _, rfl⟩
  | .str s, n, v, h, r => by
    cases r with
    | str _ o z => exact ⟨.str _, by simpa [toP, PyData.canLay0] using o⟩
  | .tup b, n, v, h, r => by
    simp only [depD, Option.map_eq_some_iff] at h
    obtain ⟨m, h, rfl⟩ := h
    obtain ⟨a, vs, rfl, e, q⟩ := r.seqT
    obtain ⟨x1, x2⟩ := rep_dps b m vs h q
    exact ⟨.tup e x1, by simpa [toP, PyData.canLay0] using x2⟩
  | .lst b, n, v, h, r => by
    simp only [depD, Option.map_eq_some_iff] at h
    obtain ⟨m, h, rfl⟩ := h
    obtain ⟨a, vs, rfl, e, _, _, q⟩ := r.seqL
    obtain ⟨x1, x2⟩ := rep_dps b m vs h q
    exact ⟨.lst (.of e) x1, by simpa [toP, PyData.canLay0] using x2⟩
  | .ref _, _, _, h, _ => by simp [depD] at h
  | .scr _, _, _, h, _ => by simp [depD] at h
  | .ins _ _ _, _, _, h, _ => by simp [depD] at h
  | .exc _ _ _, _, _, h, _ => by simp [depD] at h
  | .dic _ _, _, _, h, _ => by simp [depD] at h
theorem rep_dps : ∀ (d : List D) (n : Nat) (v : List V), depDs d = some n → RepL K L f H v d → DpAll K H v (toPs d) ∧ PyData.canLayAll0 (toPs d) = true
  | [], n, v, h, r => by cases r; exact ⟨.nil, rfl⟩
  | a :: as, n, v, h, r => by
    simp only [depDs] at h
    split at h
    · rename_i x y h1 h2
      cases r with
      | cons r1 r2 =>
        obtain ⟨a1, a2⟩ := rep_dp a x _ h1 r1
        obtain ⟨b1, b2⟩ := rep_dps as y _ h2 r2
        exact ⟨.cons a1 b1, by simp only [toPs, PyData.canLayAll0, a2, b2, Bool.and_self]⟩
    · cases h
end
theorem canEq_dep {d : D} (h : canEq d = true) : ∃ n, depD d = some n ∧ n ≤ 60 := by
  unfold canEq at h
  split at h
  · rename_i n e
    exact ⟨n, e, of_decide_eq_true h⟩
  · cases h
theorem eq_data {d : D} {v : V} (h : canEq d = true) (r : Rep K L f H v d) : Dp K H v (toP d) ∧ SeqAt.shaped (toP d) = true := by
  obtain ⟨n, e, hn⟩ := canEq_dep h
  obtain ⟨a, b⟩ := rep_dp d n v e r
  refine ⟨a, ?_⟩
  have := dep_shape d n e
  show ((toP d).canLay0 && decide ((toP d).depth ≤ 64)) = true
  rw [b, decide_eq_true (by omega)]
  rfl
end
theorem any_eqv (x : D) (nx : Nat) (hx : depD x = some nx) : ∀ (ys : List D) (n : Nat), depDs ys = some n → ((toPs ys).any fun z => PyData.eqv z (toP x)) = hasD x ys
  | [], _, _ => rfl
  | y :: ys, n, h => by
    simp only [depDs] at h
    split at h
    · rename_i a b h1 h2
      simp only [toPs, hasD, List.any_cons, eqv_toP y x _ _ h1 hx]
      rw [any_eqv x nx hx ys b h2]
      rfl
    · cases h
end
end Z9

set_option Elab.async false
set_option linter.all false
set_option maxRecDepth 100000
set_option maxHeartbeats 1000000
/-! E3: comparisons, places, calls of built-in functions by values. -/
namespace Z9
open PySem PySem.Spec PyProof.Rows L2

section
variable {K : PySem.W.Frag} {L : Addr → Prop} {f : List Addr} {h : Hh} {H : Hp}
theorem ints_rep : ∀ {vs : List V} {ds : List D} {is : List Int}, RepL K L f H vs ds → ints? ds = some is → vs = is.map V.int
  | _, [], is, .nil, e => by cases e; rfl
  | _, d :: ds, is, .cons r t, e => by
    cases d <;> simp only [ints?, Option.map_eq_some_iff] at e <;> try cases e
    rename_i i js hj
    obtain ⟨h1, rfl⟩ := hj
    rw [r.intE, ints_rep t h1]
    rfl
end
theorem kS_nodup {ks : List (List Nat)} (h : ks.Nodup) : (ks.map kS).Nodup := by
  induction ks with
  | nil => exact List.nodup_nil
  | cons s ks ih =>
    rw [List.nodup_cons] at h
    rw [List.map_cons, List.nodup_cons]
    refine ⟨fun m => ?_, ih h.2⟩
    obtain ⟨t, mt, e⟩ := List.mem_map.mp m
    unfold kS at e
    injection e with e
    injection e with e
    have : t = s := by
      have := congrArg Array.toList e
      simpa using this
    exact h.1 (this ▸ mt)
section
variable {X : Cx}
theorem op_cmpD (hu : X.A.units + 65 < cLine) (o : CmpOp) : OpR X (compareOp o) (rD X.K fun x y _ => cmpD o x y) := by
  intro pins s σ H x y v u Q I rx ry hh
  obtain ⟨L, f, h, d, e, S, rd, re, q0⟩ := hh
  obtain ⟨z, hz, q⟩ := rD_ok q0
  replace hz : cmpD o d e = .ok z := hz
  unfold cmpD at hz
  split at hz
  · cases rd; cases re; cases hz
    exact op_lt pins s σ H _ _ v u Q I rx ry ⟨_, _, rfl, rfl, q H _ .refl S (.bl _)⟩
  · cases rd; cases re; cases hz
    exact op_le pins s σ H _ _ v u Q I rx ry ⟨_, _, rfl, rfl, q H _ .refl S (.bl _)⟩
  · cases rd; cases re; cases hz
    exact op_gt pins s σ H _ _ v u Q I rx ry ⟨_, _, rfl, rfl, q H _ .refl S (.bl _)⟩
  · cases rd; cases re; cases hz
    exact op_ge pins s σ H _ _ v u Q I rx ry ⟨_, _, rfl, rfl, q H _ .refl S (.bl _)⟩
  · split at hz
    · rename_i is js ei ej
      obtain ⟨hc, rfl⟩ := ofB_ok hz
      simp only [Bool.and_eq_true, decide_eq_true_eq] at hc
      obtain ⟨⟨rfl, rfl⟩, nd⟩ := hc
      cases rd with
      | dic e1 l1 _ _ r1 =>
        cases re with
        | dic e2 l2 _ _ r2 =>
          have v1 := ints_rep r1 ei
          have v2 := ints_rep r2 ej
          subst v1 v2
          refine op_eq_dict (by omega) pins s σ H _ _ v u Q I rx ry ⟨_, _, _, rfl, rfl, e1, e2, ?_, fun p m => ?_, q H _ .refl S (.bl _)⟩
          · rw [List.map_fst_zip (by rw [List.length_map, l1]; exact Nat.le_refl _)]
            exact kS_nodup nd
          · have := (List.of_mem_zip m).2
            obtain ⟨i, _, ei⟩ := List.mem_map.mp this
            rw [← ei]
            rfl
    · cases hz
  · obtain ⟨hc, rfl⟩ := ofB_ok hz
    rw [Bool.and_eq_true] at hc
    obtain ⟨a1, a2⟩ := eq_data hc.1 rd
    obtain ⟨b1, b2⟩ := eq_data hc.2 re
    obtain ⟨n, en, _⟩ := canEq_dep hc.1
    obtain ⟨m, em, _⟩ := canEq_dep hc.2
    exact op_eqD (by omega) pins s σ H _ _ v u Q I rx ry ⟨_, _, a1, b1, a2, b2, by rw [eqv_toP _ _ _ _ en em]; exact q H _ .refl S (.bl _)⟩
  · obtain ⟨hc, rfl⟩ := ofB_ok hz
    rw [Bool.and_eq_true] at hc
    obtain ⟨a1, a2⟩ := eq_data hc.1 rd
    obtain ⟨b1, b2⟩ := eq_data hc.2 re
    obtain ⟨n, en, _⟩ := canEq_dep hc.1
    obtain ⟨m, em, _⟩ := canEq_dep hc.2
    exact op_neD (by omega) pins s σ H _ _ v u Q I rx ry ⟨_, _, a1, b1, a2, b2, by rw [eqv_toP _ _ _ _ en em]; exact q H _ .refl S (.bl _)⟩
  · split at hz
    · cases hz
      obtain ⟨rfl, _, _⟩ := rd.signs
      obtain ⟨rfl, _, _⟩ := re.signs
      exact op_in_sign pins s σ H _ _ v u Q I rx ry ⟨_, _, rfl, rfl, by simpa using q H _ .refl S (.bl _)⟩
    · cases hz
  · split at hz
    · cases hz
      obtain ⟨rfl, _, _⟩ := rd.signs
      obtain ⟨rfl, _, _⟩ := re.signs
      exact op_notIn_sign pins s σ H _ _ v u Q I rx ry ⟨_, _, rfl, rfl, by simpa using q H _ .refl S (.bl _)⟩
    · cases hz
  all_goals
    try
      obtain ⟨hc, rfl⟩ := ofB_ok hz
      rw [Bool.and_eq_true] at hc
      obtain ⟨a1, a2⟩ := eq_data hc.1 rd
      obtain ⟨b1, b2⟩ := eq_data hc.2 re
      obtain ⟨n, en, _⟩ := canEq_dep hc.1
      obtain ⟨m, em, _⟩ := canEq_dep hc.2
      simp only [depD, Option.map_eq_some_iff] at em
      obtain ⟨m', em, _⟩ := em
      obtain ⟨as, r1⟩ := Dp.reads I _ x v a1 rx
      obtain ⟨bs, r2⟩ := Dp.reads I _ y u b1 ry
      have fin := q H _ .refl S (.bl _)
      rw [← any_eqv _ n en _ m' em] at fin
  · exact SeqAt.in_list_reads r2 r1 (SeqAt.canLay_of_shaped b2) (SeqAt.canLay_of_shaped a2) (room_in_shaped a2 hu) ⟨.bl _, H, I, rfl, fin⟩
  · exact SeqAt.notIn_list_reads r2 r1 (SeqAt.canLay_of_shaped b2) (SeqAt.canLay_of_shaped a2) (room_in_shaped a2 hu) ⟨.bl _, H, I, rfl, fin⟩
  · exact SeqAt.in_tuple_reads r2 r1 (SeqAt.canLay_of_shaped b2) (SeqAt.canLay_of_shaped a2) (room_in_shaped a2 hu) ⟨.bl _, H, I, rfl, fin⟩
  · exact SeqAt.notIn_tuple_reads r2 r1 (SeqAt.canLay_of_shaped b2) (SeqAt.canLay_of_shaped a2) (room_in_shaped a2 hu) ⟨.bl _, H, I, rfl, fin⟩
  · cases rd; cases re; cases hz
    exact op_is_bl pins s σ H _ _ v u Q I rx ry ⟨_, _, rfl, rfl, q H _ .refl S (.bl _)⟩
  · cases rd; cases re; cases hz
    exact op_isnot_bl pins s σ H _ _ v u Q I rx ry ⟨_, _, rfl, rfl, q H _ .refl S (.bl _)⟩
  · cases hz

/-! ### a list or a tuple that is read, wherever it stands -/
theorem SRel.look {K : PySem.W.Frag} {L : Addr → Prop} {f : List Addr} {h : Hh} {H : Hp} (S : SRel K L f h H) {v : V} {d : D} (r : Rep K L f H v d) (ne : ∀ i, lookD h d ≠ .ref i) :
    (Rep K L f H v d ∧ lookD h d = d ∧ ∀ i, d ≠ .ref i) ∨ ∃ i a ds vs, d = .ref i ∧ v = .ref a ∧ lookD h d = .lst ds ∧ H a = some (.lst vs) ∧ RepL K L f H vs ds := by
  cases d with
  | ref i =>
    cases e : h[i]? with
    | none => exact absurd (by simp [lookD, e]) (ne i)
    | some d' =>
      obtain ⟨a, ds, vs, e1, rfl, e3, rr⟩ := S.obj i d' e
      cases r with
      | ref e2 =>
        rw [e1] at e2
        cases e2
        exact .inr ⟨i, _, ds, vs, rfl, rfl, by simp [lookD, e], e3, rr⟩
  | _ => exact .inl ⟨r, rfl, fun _ z => nomatch z⟩
theorem ixN_eq (n : Nat) (i : Int) : ixN n i = L2.ixN n i := rfl
theorem atD_of {K : PySem.W.Frag} {L : Addr → Prop} {f : List Addr} {H : Hp} {vs : List V} {ds : List D} {i : Int} {d : D} (r : RepL K L f H vs ds) (e : atD ds i = some d) : ∃ v, L2.atI vs i = some v ∧ Rep K L f H v d := by
  unfold atD at e
  cases k : ixN ds.length i with
  | none => rw [k] at e; cases e
  | some j =>
    rw [k] at e
    obtain ⟨v, h1, h2⟩ := r.get (show ds[j]? = some d from e)
    exact ⟨v, by unfold L2.atI; rw [r.length, ← ixN_eq, k]; exact h1, h2⟩
theorem ix_D : IxR X (rD X.K fun x y h => ixD h x y) := by
  intro value slice pins s σ H x y v u Q I rx ry hh hs
  obtain ⟨L, f, h, d, e, S, rd, re, q0⟩ := hh
  obtain ⟨z, hz, q⟩ := rD_ok q0
  replace hz : ixD h d e = .ok z := hz
  unfold ixD at hz
  have key : ∀ {vs : List V} {ds : List D} {i : Int}, RepL X.K L f H vs ds → ofO (atD ds i) = .ok z → ∃ w, L2.atI vs i = some w ∧ Q w H := by
    intro vs ds i r hz
    cases k : atD ds i with
    | none => rw [k] at hz; cases hz
    | some d' =>
      rw [k] at hz
      cases hz
      obtain ⟨w, h1, h2⟩ := atD_of r k
      exact ⟨w, h1, q H _ .refl S h2⟩
  split at hz
  · rename_i xs i el
    rcases S.look rd (by rw [el]; exact fun _ z => nomatch z) with ⟨rd', e1, _⟩ | ⟨j, a, ds, vs, rfl, rfl, e1, e2, r⟩
    · rw [e1] at el
      subst el
      obtain ⟨a, vs, rfl, ea, _, _, r⟩ := rd.seqL
      obtain ⟨w, h1, h2⟩ := key r hz
      cases re
      exact ix_list value slice pins s σ H _ _ v u Q I rx ry ⟨a, vs, i, w, rfl, rfl, .of ea, h1, h2⟩ hs
    · rw [e1] at el
      cases el
      obtain ⟨w, h1, h2⟩ := key r hz
      cases re
      exact ix_list value slice pins s σ H _ _ v u Q I rx ry ⟨a, vs, i, w, rfl, rfl, .of e2, h1, h2⟩ hs
  · rename_i xs i el
    rcases S.look rd (by rw [el]; exact fun _ z => nomatch z) with ⟨rd', e1, _⟩ | ⟨j, a, ds, vs, rfl, rfl, e1, e2, r⟩
    · rw [e1] at el
      subst el
      obtain ⟨a, vs, rfl, ea, r⟩ := rd.seqT
      obtain ⟨w, h1, h2⟩ := key r hz
      cases re
      exact ix_tup value slice pins s σ H _ _ v u Q I rx ry ⟨a, vs, i, w, rfl, rfl, ea, h1, h2⟩ hs
    · rw [e1] at el
      cases el
  · rename_i xs i el
    rcases S.look rd (by rw [el]; exact fun _ z => nomatch z) with ⟨rd', e1, _⟩ | ⟨j, a, ds, vs, rfl, rfl, e1, e2, r⟩
    · rw [e1] at el
      subst el
      obtain ⟨rfl, o, zz⟩ := rd.signs
      cases k : atD xs i with
      | none => rw [k] at hz; cases hz
      | some c =>
        rw [k] at hz
        cases hz
        cases re
        have hm : c ∈ xs := by
          unfold atD at k
          cases k2 : ixN xs.length i with
          | none => rw [k2] at k; cases k
          | some j => rw [k2] at k; exact List.mem_of_getElem? k
        refine ix_str value slice pins s σ H _ _ v u Q I rx ry ⟨_, i, c, rfl, rfl, by rw [str_len]; exact zz, k, ?_⟩ hs
        exact q H _ .refl S (.strOf (x := [c]) (fun c' hc' => by rw [List.mem_singleton.mp hc']; exact o c hm) (by show 1 ≤ sizeLine; decide))
    · rw [e1] at el
      cases el
  · cases hz

/-! ### slices -/
def rSlD (K : PySem.W.Frag) : V → Option Int → Option Int → Hp → VK → Prop := fun x lo hi H Q => ∃ (L : Addr → Prop) (f : List Addr) (h : Hh) (d : D), SRel K L f h H ∧ Rep K L f H x d ∧
  match slD h d lo hi with
  | .ok z => ∀ (H' : Hp) (v : V), Le f H f H' → SRel K L f h H' → Rep K L f H' v z → Q v H'
  | _ => False
theorem clamp_eq (n d : Nat) (o : Option Int) : clampD n d o = HT.sIx n d o := by cases o <;> rfl
theorem cut_eq (vs : List V) (lo hi : Option Int) : cutD vs lo hi = cutV vs lo hi := by simp only [cutD, cutV, clamp_eq]
theorem RepL.cut {K : PySem.W.Frag} {L : Addr → Prop} {f : List Addr} {H : Hp} {vs : List V} {ds : List D} (lo hi : Option Int) (r : RepL K L f H vs ds) : RepL K L f H (cutV vs lo hi) (cutD ds lo hi) := by
  rw [← cut_eq]
  unfold cutD
  rw [r.length]
  exact RepL.take _ (RepL.drop _ r)
theorem cut_mem {α : Type} {xs : List α} {lo hi : Option Int} {c : α} (h : c ∈ cutD xs lo hi) : c ∈ xs := List.mem_of_mem_drop (List.mem_of_mem_take h)
theorem cut_len {α : Type} (xs : List α) (lo hi : Option Int) : (cutD xs lo hi).length ≤ xs.length := by
  unfold cutD
  rw [List.length_take, List.length_drop]
  omega
theorem sl_D : SlR X (rSlD X.K) := by
  intro pins s σ H x v vl vu lo hi sl Q I rx hs pl pu hh
  obtain ⟨L, f, h, d, S, rd, q0⟩ := hh
  obtain ⟨z, hz, q⟩ := rD_ok q0
  unfold slD at hz
  split at hz
  · rename_i xs el
    cases hz
    rcases S.look rd (by rw [el]; exact fun _ z => nomatch z) with ⟨rd', e1, _⟩ | ⟨j, a, ds, vs, rfl, rfl, e1, e2, r⟩
    · rw [e1] at el
      subst el
      obtain ⟨a, vs, rfl, ea, _, _, r⟩ := rd.seqL
      exact sl_list pins s σ H _ v vl vu lo hi sl Q I rx hs pl pu ⟨a, vs, rfl, .of ea, fun p hp => fin_list (pins := pins) (σ := σ) (s := s) S (r.cut lo hi) q hp⟩
    · rw [e1] at el
      cases el
      exact sl_list pins s σ H _ v vl vu lo hi sl Q I rx hs pl pu ⟨a, vs, rfl, .of e2, fun p hp => fin_list (pins := pins) (σ := σ) (s := s) S (r.cut lo hi) q hp⟩
  · rename_i xs el
    cases hz
    rcases S.look rd (by rw [el]; exact fun _ z => nomatch z) with ⟨rd', e1, _⟩ | ⟨j, a, ds, vs, rfl, rfl, e1, e2, r⟩
    · rw [e1] at el
      subst el
      obtain ⟨a, vs, rfl, ea, r⟩ := rd.seqT
      refine sl_tupA pins s σ H _ v vl vu lo hi sl Q I rx hs pl pu ⟨a, vs, rfl, ea, fun hw => ?_, fun _ p hp => fin_tup S (r.cut lo hi) q hp⟩
      refine q H _ .refl S ?_
      have e : cutD xs lo hi = xs := by
        unfold cutD
        rw [clamp_eq, clamp_eq, ← r.length, hw.1, hw.2]
        simp [r.length]
      rw [e]
      exact rd
    · rw [e1] at el
      cases el
  · rename_i xs el
    cases hz
    rcases S.look rd (by rw [el]; exact fun _ z => nomatch z) with ⟨rd', e1, _⟩ | ⟨j, a, ds, vs, rfl, rfl, e1, e2, r⟩
    · rw [e1] at el
      subst el
      obtain ⟨rfl, o, zz⟩ := rd.signs
      refine sl_str pins s σ H _ v vl vu lo hi sl Q I rx hs pl pu ⟨_, rfl, by rw [str_len]; exact zz, ?_⟩
      have e : cutS (⟨xs.toArray⟩ : Str) lo hi = ⟨(cutD xs lo hi).toArray⟩ := by
        unfold cutS cutD
        rw [str_len, clamp_eq, clamp_eq]
      rw [e]
      exact q H _ .refl S (.strOf (fun c hc => o c (cut_mem hc)) (Nat.le_trans (cut_len _ _ _) zz))
    · rw [e1] at el
      cases el
  · rename_i xs el
    cases hz
    rcases S.look rd (by rw [el]; exact fun _ z => nomatch z) with ⟨rd', e1, _⟩ | ⟨j, a, ds, vs, rfl, rfl, e1, e2, r⟩
    · rw [e1] at el
      subst el
      cases rd with
      | scr hq =>
        refine sl_list pins s σ H _ v vl vu lo hi sl Q I rx hs pl pu ⟨_, _, rfl, hq.sq, fun p hp => ?_⟩
        refine fin_list (pins := pins) (σ := σ) (s := s) S ?_ q hp
        have e : cutV (xs.map V.int) lo hi = (cutD xs lo hi).map V.int := by
          rw [← cut_eq]
          unfold cutD
          rw [List.map_take, List.map_drop, List.length_map]
        rw [e]
        exact RepL.ints _
    · rw [e1] at el
      cases el
  · cases hz
end
end Z9

set_option Elab.async false
set_option linter.all false
set_option maxRecDepth 100000
set_option maxHeartbeats 1000000
/-! E4: calls of built-in functions and methods by values. -/
namespace Z9
open PySem PySem.Spec PyProof.Rows L2

section
variable {K : PySem.W.Frag} {L : Addr → Prop} {f : List Addr} {h : Hh} {H : Hp}
/-- a changing list is changed -/
theorem SRel.change (S : SRel K L f h H) {i : Nat} {a : Addr} {vs : List V} {ds : List D} (hi : i < h.length) (ea : f[i]? = some a) (r : RepL K L f H vs ds) :
    Le f H f (upd H a (.lst vs)) ∧ SRel K L f (h.set i (.lst ds)) (upd H a (.lst vs)) := by
  have ha : a ∈ f := List.mem_of_getElem? ea
  have l : Le f H f (upd H a (.lst vs)) := ⟨⟨[], by simp, by simp⟩, fun b u e hb => by
    rw [upd_ne (fun z => hb (by rw [z]; exact ha))]
    exact e⟩
  refine ⟨l, by rw [List.length_set]; exact S.len, S.nd, fun b x => ?_, S.dis, fun j d e => ?_⟩
  · by_cases z : b = a
    · subst z
      rw [upd_same]
      exact fun y => nomatch y
    · rw [upd_ne z]
      exact S.out b x
  · by_cases hj : j = i
    · subst hj
      rw [List.getElem?_set_self hi] at e
      cases e
      exact ⟨a, ds, vs, ea, rfl, upd_same, RepL.mono S l r⟩
    · rw [List.getElem?_set_ne (Ne.symm hj)] at e
      obtain ⟨b, ds', vs', e1, e2, e3, r'⟩ := S.obj j d e
      refine ⟨b, ds', vs', e1, e2, ?_, RepL.mono S l r'⟩
      rw [upd_ne fun z => hj ?_]
      · exact e3
      · subst z
        obtain ⟨h1, q1⟩ := List.getElem?_eq_some_iff.mp e1
        obtain ⟨h2, q2⟩ := List.getElem?_eq_some_iff.mp ea
        exact (List.getElem_inj S.nd).mp (q1.trans q2.symm)
/-- a new changing list -/
theorem SRel.push {p : Addr} {vs : List V} {ds : List D} (S : SRel K L f h H) (hp : H p = none) (r : RepL K L f H vs ds) :
    Le f H (f ++ [p]) (upd H p (.lst vs)) ∧ SRel K L (f ++ [p]) (h ++ [.lst ds]) (upd H p (.lst vs)) := by
  obtain ⟨l0, S0, n1, n2⟩ := S.alloc (o := .lst vs) hp
  have l : Le f H (f ++ [p]) (upd H p (.lst vs)) := ⟨⟨[p], rfl, fun a ha => by rw [List.mem_singleton.mp ha]; exact hp⟩, l0.keep⟩
  refine ⟨l, by simp [S.len], ?_, S0.out, fun a ha => ?_, fun j d e => ?_⟩
  · rw [List.nodup_append]
    refine ⟨S.nd, by simp, fun a ha b hb => ?_⟩
    rw [List.mem_singleton.mp hb]
    rintro rfl
    exact n2 ha
  · rcases List.mem_append.mp ha with k | k
    · exact S.dis a k
    · rw [List.mem_singleton.mp k]
      exact n1
  · by_cases hj : j < h.length
    · rw [List.getElem?_append_left hj] at e
      obtain ⟨b, ds', vs', e1, e2, e3, r'⟩ := S.obj j d e
      refine ⟨b, ds', vs', ?_, e2, ?_, RepL.mono S l r'⟩
      · rw [List.getElem?_append_left (by rw [S.len]; exact hj)]
        exact e1
      · rw [upd_ne (fun z => by rw [z, hp] at e3; cases e3)]
        exact e3
    · have hj' : j = h.length := by
        have := (List.getElem?_eq_some_iff.mp e).1
        simp at this
        omega
      subst hj'
      simp at e
      subst e
      refine ⟨p, ds, vs, ?_, rfl, upd_same, RepL.mono S l r⟩
      rw [← S.len]
      simp
theorem bools_rep : ∀ {vs : List V} {ds : List D} {is : List Bool}, RepL K L f H vs ds → bools? ds = some is → vs = is.map V.bl
  | _, [], is, .nil, e => by cases e; rfl
  | _, d :: ds, is, .cons r t, e => by
    cases d <;> simp only [bools?, Option.map_eq_some_iff] at e <;> try cases e
    rename_i i js hj
    obtain ⟨h1, rfl⟩ := hj
    rw [r.blE, bools_rep t h1]
    rfl
theorem strs_rep : ∀ {vs : List V} {ds : List D} {is : List (List Nat)}, RepL K L f H vs ds → strs? ds = some is → vs = (is.map fun s => (⟨s.toArray⟩ : Str)).map V.str ∧ ∀ s ∈ is, ∀ c ∈ s, c < 0x110000
  | _, [], is, .nil, e => by cases e; exact ⟨rfl, by simp⟩
  | _, d :: ds, is, .cons r t, e => by
    cases d <;> simp only [strs?, Option.map_eq_some_iff] at e <;> try cases e
    rename_i i js hj
    obtain ⟨h1, rfl⟩ := hj
    obtain ⟨e1, o, _⟩ := r.signs
    obtain ⟨e2, o2⟩ := strs_rep t h1
    refine ⟨by rw [e1, e2]; rfl, fun s hs => ?_⟩
    rcases List.mem_cons.mp hs with rfl | hs
    · exact o
    · exact o2 s hs
end

/-- what a call by values asks -/
def rB (K : PySem.W.Frag) (g : List D → Hh → Res D) : List V → Hp → VK → Prop := fun vs H Q => ∃ (L : Addr → Prop) (f : List Addr) (h : Hh) (ds : List D), SRel K L f h H ∧ RepL K L f H vs ds ∧
  match g ds h with
  | .ok z => ∀ (H' : Hp) (v : V), Le f H f H' → SRel K L f h H' → Rep K L f H' v z → Q v H'
  | _ => False
def rM (K : PySem.W.Frag) (g : D → List D → Hh → Res (D × Hh)) : V → List V → Hp → VK → Prop := fun x vs H Q => ∃ (L : Addr → Prop) (f : List Addr) (h : Hh) (d : D) (ds : List D), SRel K L f h H ∧ Rep K L f H x d ∧ RepL K L f H vs ds ∧
  match g d ds h with
  | .ok z => ∀ (f' : List Addr) (H' : Hp) (v : V), Le f H f' H' → SRel K L f' z.2 H' → Rep K L f' H' v z.1 → Q v H'
  | _ => False
theorem rM_ok {g : Res (D × Hh)} {P : D × Hh → Prop} (h : match g with | .ok z => P z | _ => False) : ∃ z, g = .ok z ∧ P z := by
  cases g with
  | ok z => exact ⟨z, rfl, h⟩
  | exc c xs h' => exact h.elim
  | no => exact h.elim
section
variable {X : Cx}
theorem c_len : CallR X (.builtin "len") (rB X.K (bcallD .len)) := by
  intro pins s σ H vs us Q I rs hh
  obtain ⟨L, f, h, ds, S, r, q0⟩ := hh
  obtain ⟨z, hz, q⟩ := rD_ok q0
  cases r with
  | nil => cases hz
  | @cons v vs d ds r t =>
    cases t with
    | cons _ _ => cases hz
    | nil =>
      replace hz : bLen [d] h = .ok z := hz
      unfold bLen at hz
      simp only at hz
      split at hz
      · rename_i xs el
        cases hz
        rcases S.look r (by rw [el]; exact fun _ z => nomatch z) with ⟨rd', e1, _⟩ | ⟨j, a, ds, vs, rfl, rfl, e1, e2, rr⟩
        · rw [e1] at el
          subst el
          obtain ⟨a, ws, rfl, ea, _, _, rr⟩ := r.seqL
          exact call_len_seq pins s σ H _ us Q I rs ⟨a, ws, rfl, .inl (.of ea), by rw [rr.length]; exact q H _ .refl S (.int _)⟩
        · rw [e1] at el
          cases el
          exact call_len_seq pins s σ H _ us Q I rs ⟨a, _, rfl, .inl (.of e2), by rw [rr.length]; exact q H _ .refl S (.int _)⟩
      · rename_i xs el
        cases hz
        rcases S.look r (by rw [el]; exact fun _ z => nomatch z) with ⟨rd', e1, _⟩ | ⟨j, a, ds, vs, rfl, rfl, e1, e2, rr⟩
        · rw [e1] at el
          subst el
          obtain ⟨a, ws, rfl, ea, rr⟩ := r.seqT
          exact call_len_seq pins s σ H _ us Q I rs ⟨a, ws, rfl, .inr ea, by rw [rr.length]; exact q H _ .refl S (.int _)⟩
        · rw [e1] at el
          cases el
      · rename_i xs el
        cases hz
        rcases S.look r (by rw [el]; exact fun _ z => nomatch z) with ⟨rd', e1, _⟩ | ⟨j, a, ds, vs, rfl, rfl, e1, e2, rr⟩
        · rw [e1] at el
          subst el
          obtain ⟨rfl, o, zz⟩ := r.signs
          exact call_len_str pins s σ H _ us Q I rs ⟨_, rfl, by rw [str_len]; exact zz, by rw [str_len]; exact q H _ .refl S (.int _)⟩
        · rw [e1] at el
          cases el
      · cases hz
theorem c_abs : CallR X (.builtin "abs") (rB X.K (bcallD .abs)) := by
  intro pins s σ H vs us Q I rs hh
  obtain ⟨L, f, h, ds, S, r, q0⟩ := hh
  obtain ⟨z, hz, q⟩ := rD_ok q0
  replace hz : bAbs ds = .ok z := hz
  unfold bAbs at hz
  split at hz <;> try cases hz
  · cases r with
    | cons r t =>
      cases t
      cases r
      rename_i i
      refine call_abs pins s σ H _ us Q I rs ⟨i, rfl, ?_⟩
      have e : (if i < 0 then -i else i) = (i.natAbs : Int) := by split <;> omega
      rw [e]
      exact q H _ .refl S (.int _)
theorem c_int : CallR X (.type "int") (rB X.K (bcallD .int)) := by
  intro pins s σ H vs us Q I rs hh
  obtain ⟨L, f, h, ds, S, r, q0⟩ := hh
  obtain ⟨z, hz, q⟩ := rD_ok q0
  replace hz : bInt ds = .ok z := hz
  unfold bInt at hz
  split at hz <;> try cases hz
  · cases r with
    | cons r t =>
      cases t
      cases r
      exact call_int1 pins s σ H _ us Q I rs (.inl ⟨_, rfl, q H _ .refl S (.int _)⟩)
theorem bind_ok {α β : Type} {x : Res α} {g : α → Res β} {z : β} (h : x.bind g = .ok z) : ∃ a, x = .ok a ∧ g a = .ok z := by
  cases x with
  | ok a => exact ⟨a, rfl, h⟩
  | exc c xs h' => cases h
  | no => cases h
theorem ofO_ok {α : Type} {o : Option α} {a : α} (h : ofO o = .ok a) : o = some a := by
  cases o with
  | none => cases h
  | some b => cases h; rfl
theorem c_sum (hc : X.calm = true) : CallR X (.builtin "sum") (rB X.K (bcallD .sum)) := by
  intro pins s σ H vs us Q I rs hh
  obtain ⟨L, f, h, ds, S, r, q0⟩ := hh
  obtain ⟨z, hz, q⟩ := rD_ok q0
  replace hz : bSum ds = .ok z := hz
  unfold bSum at hz
  split at hz <;> try cases hz
  · obtain ⟨is, e1, e2⟩ := bind_ok hz
    cases e2
    cases r with
    | cons r t =>
      cases t
      obtain ⟨a, ws, rfl, ea, _, _, rr⟩ := r.seqL
      have := ints_rep rr (ofO_ok e1)
      subst this
      exact cr_sum hc pins s σ H _ us Q I rs ⟨a, is, rfl, .of ea, q H _ .refl S (.int _)⟩
theorem c_all (hc : X.calm = true) : CallR X (.builtin "all") (rB X.K (bcallD .all)) := by
  intro pins s σ H vs us Q I rs hh
  obtain ⟨L, f, h, ds, S, r, q0⟩ := hh
  obtain ⟨z, hz, q⟩ := rD_ok q0
  replace hz : bAll ds = .ok z := hz
  unfold bAll at hz
  split at hz <;> try cases hz
  · obtain ⟨is, e1, e2⟩ := bind_ok hz
    cases e2
    cases r with
    | cons r t =>
      cases t
      obtain ⟨a, ws, rfl, ea, _, _, rr⟩ := r.seqL
      have := bools_rep rr (ofO_ok e1)
      subst this
      exact cr_all hc pins s σ H _ us Q I rs ⟨a, is, rfl, .of ea, q H _ .refl S (.bl _)⟩
theorem c_any (hc : X.calm = true) : CallR X (.builtin "any") (rB X.K (bcallD .any)) := by
  intro pins s σ H vs us Q I rs hh
  obtain ⟨L, f, h, ds, S, r, q0⟩ := hh
  obtain ⟨z, hz, q⟩ := rD_ok q0
  replace hz : bAny ds = .ok z := hz
  unfold bAny at hz
  split at hz <;> try cases hz
  · obtain ⟨is, e1, e2⟩ := bind_ok hz
    cases e2
    cases r with
    | cons r t =>
      cases t
      obtain ⟨a, ws, rfl, ea, _, _, rr⟩ := r.seqL
      have := bools_rep rr (ofO_ok e1)
      subst this
      exact cr_any hc pins s σ H _ us Q I rs ⟨a, is, rfl, .of ea, q H _ .refl S (.bl _)⟩

/-! ### isinstance(x, T) -/
def Ty.name : Ty → String
  | .int => "int" | .bool => "bool" | .str => "str" | .list => "list" | .tuple => "tuple" | .dict => "dict"
def Tk.name : Tk → String
  | .non => "NoneType" | .bl => "bool" | .int => "int" | .str => "str" | .tup => "tuple" | .lst => "list" | .dic => "dict"
theorem kit_tk (k : Tk) (t : Ty) : kitB k.name t.name = some (subT k t) := by cases k <;> cases t <;> decide +kernel
theorem c_isi (t : Ty) : CallR X (.builtin "isinstance") (fun vs H Q => ∃ v, vs = [v, .ty t.name] ∧ rB X.K (fun ds h => match ds with | [d] => isiD h d t | _ => .no) [v] H Q) := by
  intro pins s σ H vs us Q I rs hh
  obtain ⟨v, rfl, L, f, h, ds, S, r, q0⟩ := hh
  obtain ⟨z, hz, q⟩ := rD_ok q0
  cases r with
  | @cons v vs d ds r t' =>
    cases t'
    replace hz : isiD h d t = .ok z := hz
    obtain ⟨k, e1, e2⟩ := bind_ok hz
    cases e2
    have ek := ofO_ok e1
    have ty : TyX X.K H v (.type k.name) := by
      rcases S.look r (fun i z => by rw [z] at ek; cases ek) with ⟨rd', e1, _⟩ | ⟨j, a, ds, vs, rfl, rfl, e1, e2, rr⟩
      · rw [e1] at ek
        cases rd' with
        | non => cases ek; exact .base .non
        | bl b => cases ek; exact .base (.bl _)
        | int i => cases ek; exact .base (.int _)
        | str => cases ek; exact .base (.str _)
        | tup ea =>
          cases ek
          rcases ea with (ea | ⟨o, ea⟩) | ⟨o, its, n, k1, k2, _⟩
          · exact .base (.tup ea)
          · exact .fTuple ea
          · exact .kTuple k1 k2
        | lst ea => cases ek; exact .base (.lst ea)
        | dic e => cases ek; exact .base (.dK e)
        | exc => cases ek
        | ref => cases ek
        | scr => cases ek
      · rw [e1] at ek
        cases ek
        exact .base (.lst e2)
    exact call_isi pins s σ H _ us Q I rs ⟨v, .ty t.name, .type k.name, .type t.name, subT k t, rfl, .ty _, ty, kit_ty (kit_tk k t), q H _ .refl S (.bl _)⟩

/-! ### methods -/
theorem joinS_eq (sep : List Nat) : ∀ ss : List (List Nat), joinS sep ss = TL.joinL sep ss
  | [] => rfl
  | [_] => rfl
  | x :: y :: r => by
    show x ++ (sep ++ joinS sep (y :: r)) = x ++ (sep ++ TL.joinL sep (y :: r))
    rw [joinS_eq sep (y :: r)]
theorem joinS_mem (sep : List Nat) {P : Nat → Prop} (hs : ∀ c ∈ sep, P c) : ∀ ss : List (List Nat), (∀ s ∈ ss, ∀ c ∈ s, P c) → ∀ c ∈ joinS sep ss, P c
  | [], _, c, hc => by simp [joinS] at hc
  | [x], h, c, hc => h x List.mem_cons_self c hc
  | x :: y :: r, h, c, hc => by
    rcases List.mem_append.mp hc with k | k
    · exact h x List.mem_cons_self c k
    · rcases List.mem_append.mp k with k | k
      · exact hs c k
      · exact joinS_mem sep hs (y :: r) (fun s h' => h s (List.mem_cons_of_mem _ h')) c k
theorem joinS_len (sep : List Nat) : ∀ ss : List (List Nat), (joinS sep ss).length ≤ (ss.map List.length).sum + ss.length * sep.length
  | [] => by simp [joinS]
  | [x] => by simp [joinS]
  | x :: y :: r => by
    have := joinS_len sep (y :: r)
    simp only [joinS, List.length_append, List.map_cons, List.sum_cons, List.length_cons] at this ⊢
    simp only [Nat.add_mul, Nat.one_mul] at this ⊢
    omega
theorem m_join : MtR X "str.join" (rM X.K (bmethD .join)) := by
  intro pins s σ H x vs v us Q I rx rs hh
  obtain ⟨L, f, h, d, ds, S, rd, r, q0⟩ := hh
  obtain ⟨z, hz, q⟩ := rM_ok q0
  replace hz : mJoin d ds h = .ok z := hz
  unfold mJoin at hz
  split at hz <;> try cases hz
  · rename_i sep ys
    obtain ⟨ss, e1, e2⟩ := bind_ok hz
    obtain ⟨hc, rfl⟩ := ofB_ok e2
    cases r with
    | cons r t =>
      cases t
      obtain ⟨rfl, o, _⟩ := rd.signs
      obtain ⟨a, ws, rfl, ea, _, _, rr⟩ := r.seqL
      obtain ⟨e3, o2⟩ := strs_rep rr (ofO_ok e1)
      have hz : (ss.map List.length).sum + ss.length * sep.length ≤ 16777216 := of_decide_eq_true hc
      rw [e3] at ea
      refine mt_join pins s σ H _ _ v us Q I rx rs ⟨_, a, _, rfl, rfl, .inl (.of ea), ?_, ?_⟩
      · rw [List.map_map, List.length_map, str_len]
        have e : ((fun x : Str => x.length) ∘ fun s : List Nat => (⟨s.toArray⟩ : Str)) = List.length := by
          funext z
          exact str_len z
        rw [e]
        exact hz
      · have e : Txt.join (⟨sep.toArray⟩ : Str) (ss.map fun s => (⟨s.toArray⟩ : Str)) = ⟨(joinS sep ss).toArray⟩ := by
          rw [TL.join_eq]
          have t := TL.tl_join (⟨sep.toArray⟩ : Str) (ss.map fun s => (⟨s.toArray⟩ : Str))
          have e5 : (ss.map fun s => (⟨s.toArray⟩ : Str)).map TL.tl = ss := by
            rw [List.map_map]
            have : (TL.tl ∘ fun s : List Nat => (⟨s.toArray⟩ : Str)) = id := by
              funext z
              simp [TL.tl]
            rw [this, List.map_id]
          rw [e5] at t
          rw [joinS_eq]
          have t2 : (Str.join (⟨sep.toArray⟩ : Str) (ss.map fun s => (⟨s.toArray⟩ : Str))).cps.toList = TL.joinL sep ss := by simpa [TL.tl] using t
          show Str.join _ _ = _
          rw [← t2]
        rw [e]
        exact q f H _ .refl S (.strOf (joinS_mem sep o ss o2) (by have := joinS_len sep ss; have := sizeLine_eq; omega))
theorem m_append : MtR X "list.append" (rM X.K (bmethD .append)) := by
  intro pins s σ H x vs v us Q I rx rs hh
  obtain ⟨L, f, h, d, ds, S, rd, r, q0⟩ := hh
  obtain ⟨z, hz, q⟩ := rM_ok q0
  replace hz : mAppend d ds h = .ok z := hz
  unfold mAppend at hz
  split at hz <;> try cases hz
  · rename_i i y
    split at hz <;> try cases hz
    rename_i ys ei
    obtain ⟨hc, rfl⟩ := ofB_ok hz
    obtain ⟨a, ds, ws, e1, e2, e3, rr⟩ := S.obj i _ ei
    cases e2
    cases rd with
    | ref e4 =>
      rw [e1] at e4
      cases e4
      cases r with
      | cons r t =>
        cases t
        have hi : i < h.length := (List.getElem?_eq_some_iff.mp ei).1
        obtain ⟨l, S'⟩ := S.change hi e1 (rr.append (.cons r .nil))
        have hl : ys.length + 1 ≤ sizeLine := of_decide_eq_true hc
        exact mt_append pins s σ H _ _ v us Q I rx rs ⟨a, ws, _, rfl, rfl, e3, by rw [rr.length]; omega, q _ _ _ l S' .non⟩
theorem m_pop : MtR X "list.pop" (rM X.K (bmethD .pop)) := by
  intro pins s σ H x vs v us Q I rx rs hh
  obtain ⟨L, f, h, d, ds, S, rd, r, q0⟩ := hh
  obtain ⟨z, hz, q⟩ := rM_ok q0
  replace hz : mPop d ds h = .ok z := hz
  unfold mPop at hz
  split at hz <;> try cases hz
  · rename_i i j
    split at hz <;> try cases hz
    rename_i ys ei
    split at hz <;> try cases hz
    rename_i hj
    subst hj
    split at hz <;> try cases hz
    rename_i y ys
    obtain ⟨a, ds, ws, e1, e2, e3, rr⟩ := S.obj i _ ei
    cases e2
    cases rd with
    | ref e4 =>
      rw [e1] at e4
      cases e4
      cases r with
      | cons r t =>
        cases t
        cases r
        cases rr with
        | cons r1 r2 =>
          have hi : i < h.length := (List.getElem?_eq_some_iff.mp ei).1
          obtain ⟨l, S'⟩ := S.change hi e1 r2
          refine mt_popAt pins s σ H _ _ v us Q I rx rs ⟨a, _, 0, 0, _, rfl, rfl, e3, by decide, by decide, ?_, rfl, q _ _ _ l S' (Rep.mono S l r1)⟩
          show seqIndex? 0 _ = some 0
          unfold seqIndex?
          simp
  · rename_i i
    split at hz <;> try cases hz
    rename_i ys ei
    split at hz <;> try cases hz
    rename_i y ey
    obtain ⟨a, ds, ws, e1, e2, e3, rr⟩ := S.obj i _ ei
    cases e2
    cases rd with
    | ref e4 =>
      rw [e1] at e4
      cases e4
      cases r
      have hi : i < h.length := (List.getElem?_eq_some_iff.mp ei).1
      have hd : RepL X.K L f H ws.dropLast ys.dropLast := by
        rw [List.dropLast_eq_take, List.dropLast_eq_take, rr.length]
        exact rr.take _
      obtain ⟨l, S'⟩ := S.change hi e1 hd
      rw [List.getLast?_eq_getElem?] at ey
      obtain ⟨w, h1, h2⟩ := rr.get ey
      exact mt_pop pins s σ H _ _ v us Q I rx rs ⟨a, ws, w, rfl, rfl, e3, by rw [rr.length]; exact h1, q _ _ _ l S' (Rep.mono S l h2)⟩
end
end Z9

set_option Elab.async false
set_option linter.all false
set_option maxRecDepth 100000
set_option maxHeartbeats 1000000
/-! E5: forms against the text, and what a form's evaluation asks. -/
namespace Z9
open PySem PySem.Spec PyProof.Rows L2

/-! ### a form stands for a text -/
/-- N: the def's names by place; nm: the names of the module by number -/
structure Mc where
  N : List Str
  nm : List Str
def isLoc (sc : Scope) (x : Str) : Bool := match sc.names.lookup x with
  | some .local => true
  | some .cell => true
  | some .free => true
  | _ => false
def isGl (sc : Scope) (x : Str) : Bool := match sc.names.lookup x with
  | some .globalImplicit => true
  | _ => false
/-- a name that is stored to; k: a captured one too -/
def isSt (k : Bool) (sc : Scope) (x : Str) : Bool := match sc.names.lookup x with
  | some .local => true
  | some .cell => k
  | _ => false
def okNm (x : Str) : Bool := !(x == ("__debug__" : Str)) && !(x == ("__classdict__" : Str)) && !(x == ("__name__" : Str))
def okC (d : D) (c : Const) : Bool := match d, c with
  | .non, .none => true
  | .bl a, .bool b => a == b
  | .int a, .int b => a == b
  | .str s, .str x => x == ⟨s.toArray⟩ && PySem.PyData.strOk x && decide (s.length ≤ 1000)
  | _, _ => false
def BF.nm : BF → Str
  | .len => "len" | .abs => "abs" | .int => "int" | .sum => "sum" | .all => "all" | .any => "any"
def BM.nm : BM → Str
  | .join => "join" | .pop => "pop" | .append => "append"
def Ty.nm (t : Ty) : Str := t.name
def noSlice : Expr → Bool
  | .Slice .. => false
  | _ => true
def noSuper : Expr → Bool
  | .Call (.Name x _) [] [] _ => !(x == ("super" : Str))
  | _ => true
def glName (sc : Scope) (x y : Str) : Bool := x == y && isGl sc x && okNm x
mutual
/-- the places that a target stores to are among these -/
def tgIn : Tg → List Nat → Bool
  | .var i, vs => decide (i ∈ vs)
  | .tup ts, vs => tgsIn ts vs
def tgsIn : Tgs → List Nat → Bool
  | .nil, _ => true
  | .cons t ts, vs => tgIn t vs && tgsIn ts vs
end
mutual
def mE (C : Mc) (sc : Scope) : Ex → Expr → Bool
  | .var i, .Name x _ => decide (C.N[i]? = some x) && isLoc sc x && okNm x
  | .con d, .Constant c _ _ => okC d c
  | .glob k, .Name x _ => decide (C.nm[k]? = some x) && isGl sc x && okNm x
  | .dic0, .Dict [] [] _ => true
  | .dicc s i, .Dict [some (.Constant c _ _)] [.Constant d _ _] _ => okC (.str s) c && okC (.int i) d
  | .fld a n, .Attribute x m _ => noSuper x && decide (n = m) && mE C sc a x
  | .isc a k, .Call (.Name f _) [x, .Name y _] [] _ => glName sc f "isinstance" && decide (C.nm[k]? = some y) && isGl sc y && okNm y && mE C sc a x
  | .mkx k es, .Call (.Name x _) xs [] _ => decide (C.nm[k]? = some x) && isGl sc x && okNm x && mEs C sc es xs
  | .tup es, .Tuple xs _ _ => mEs C sc es xs
  | .lst es, .List xs _ => mEs C sc es xs
  | .newl es, .List xs _ => mEs C sc es xs
  | .bin o a b, .BinOp x o' y _ => decide (o = o') && mE C sc a x && mE C sc b y
  | .neg a, .UnaryOp .USub x _ => mE C sc a x
  | .cmp o a b, .Compare x [o'] [y] _ => decide (o = o') && !behindInMarks o' y && mE C sc a x && mE C sc b y
  | .cmp2 o p a b c, .Compare x [o', p'] [y, z] _ => decide (o = o') && decide (p = p') && !lastMarks [o', p'] [y, z] && mE C sc a x && mE C sc b y && mE C sc c z
  | .isn a, .Compare x [.Is] [.Constant .none _ _] _ => mE C sc a x
  | .notn a, .Compare x [.IsNot] [.Constant .none _ _] _ => mE C sc a x
  | .and es, .BoolOp .And xs _ => mEs C sc es xs
  | .or es, .BoolOp .Or xs _ => mEs C sc es xs
  | .not a, .UnaryOp .Not x _ => mE C sc a x
  | .ife c a b, .IfExp x y z _ => mE C sc c x && mE C sc a y && mE C sc b z
  | .ix a i, .Subscript x y _ => noSlice y && mE C sc a x && mE C sc i y
  | .sl a lo hi, .Subscript x (.Slice l u none _) _ => mE C sc a x && mO C sc lo l && mO C sc hi u
  | .isi a t, .Call (.Name f _) [x, .Name y _] [] _ => glName sc f "isinstance" && glName sc y t.nm && mE C sc a x
  | .bcall f es, .Call (.Name x _) (y :: ys) [] _ => glName sc x f.nm && mEs C sc es (y :: ys)
  | .bmeth m a es, .Call (.Attribute o n p) xs [] q => noSuper o && decide (n = m.nm) && p.endLine == q.line && mE C sc a o && mEs C sc es xs && decide (xs.length < 5)
  | .call k es, .Call (.Name x _) xs [] _ => decide (C.nm[k]? = some x) && isGl sc x && okNm x && mEs C sc es xs
  | .lc _ elt t it ifs own, .ListComp e [⟨tg, iter, fs, 0⟩] scope _ => tgIn t own && blkC C.N sc scope (own.map fun i => (C.N.getD i Str.empty, i)) && own.all (fun i => decide (i < C.N.length)) && mI C sc it iter && mT C false (relS scope sc) t tg && decide (fs.length ≤ 1) && mEs C (relS scope sc) ifs fs && mE C (relS scope sc) elt e
  | _, _ => false
def mEs (C : Mc) (sc : Scope) : Exs → List Expr → Bool
  | .nil, [] => true
  | .cons e es, x :: xs => mE C sc e x && mEs C sc es xs
  | _, _ => false
def mO (C : Mc) (sc : Scope) : Ox → Option Expr → Bool
  | .none, none => true
  | .some e, some x => mE C sc e x
  | _, _ => false
def mI (C : Mc) (sc : Scope) : It → Expr → Bool
  | .seq e, x => mE C sc e x
  | .range e, .Call (.Name x _) [y] [] _ => glName sc x "range" && mE C sc e y
  | .range2 a b, .Call (.Name x _) [y, z] [] _ => glName sc x "range" && mE C sc a y && mE C sc b z
  | _, _ => false
def mT (C : Mc) (k : Bool) (sc : Scope) : Tg → Expr → Bool
  | .var i, .Name x _ => decide (C.N[i]? = some x) && okNm x && isSt k sc x
  | .tup ts, .Tuple xs _ _ => mTs C k sc ts xs
  | _, _ => false
def mTs (C : Mc) (k : Bool) (sc : Scope) : Tgs → List Expr → Bool
  | .nil, [] => true
  | .cons t ts, x :: xs => mT C k sc t x && mTs C k sc ts xs
  | _, _ => false
end

/-- never a starred one, a set's display, a slice -/
theorem mE_plain {C : Mc} {sc : Scope} : ∀ {e : Ex} {x : Expr}, mE C sc e x = true → (∀ a p, x ≠ .Starred a p) ∧ (∀ a k p, x ≠ .Set a k p) ∧ ∀ a b c p, x ≠ .Slice a b c p := by
  intro e x h
  refine ⟨?_, ?_, ?_⟩ <;> (intros; rintro rfl; cases e <;> simp [mE] at h)
theorem star_cons {x : Expr} {xs : List Expr} {env : PySem.Env} (h : ∀ a p, x ≠ .Starred a p) : starEach (x :: xs) env = (false, eval x env) :: starEach xs env := by
  cases x <;> first
    | rfl
    | exact absurd rfl (h _ _)
theorem mEs_star {C : Mc} {sc : Scope} {env : PySem.Env} : ∀ {es : Exs} {xs : List Expr}, mEs C sc es xs = true → ∀ pos, (backTo pos (starEach xs env)).any (·.1) = false
  | .nil, [], _, _ => rfl
  | .nil, _ :: _, h, _ => by simp [mEs] at h
  | .cons _ _, [], h, _ => by simp [mEs] at h
  | .cons e es, x :: xs, h, pos => by
    simp only [mEs, Bool.and_eq_true] at h
    rw [star_cons (mE_plain h.1).1]
    exact mEs_star (es := es) h.2 pos

/-! ### what an evaluation asks -/
/-- what has become, and R of it -/
def PostR (K : PySem.W.Frag) (L : Addr → Prop) (f : List Addr) (H : Hp) (ca : Nat → Value) (WE : Value → Option Addr → Hp → Prop) {α : Type} (res : Res (α × Hh)) (R : α → List Addr → Hh → Hp → Prop) : Prop :=
  match res with
  | .ok p => ∀ (f' : List Addr) (H' : Hp), Le f H f' H' → SRel K L f' p.2 H' → R p.1 f' p.2 H'
  | .exc c _ h' => ∀ (f' : List Addr) (H' : Hp) (dd : Option Addr), Le f H f' H' → SRel K L f' h' H' → WE (ca c) dd H'
  | .no => False
section
variable {K : PySem.W.Frag} {L : Addr → Prop} {f : List Addr} {h : Hh} {H : Hp} {ca : Nat → Value} {WE : Value → Option Addr → Hp → Prop} {α β : Type} {res : Res (α × Hh)} {R R' : α → List Addr → Hh → Hp → Prop}
theorem PostR.mono (p : PostR K L f H ca WE res R) (hm : ∀ a f' h' H', Le f H f' H' → SRel K L f' h' H' → R a f' h' H' → R' a f' h' H') : PostR K L f H ca WE res R' := by
  cases res with
  | ok q => exact fun f' H' l S => hm _ _ _ _ l S (p f' H' l S)
  | exc c xs h' => exact p
  | no => exact p
theorem PostR.bind {g : α × Hh → Res (β × Hh)} {R : β → List Addr → Hh → Hp → Prop} (S : SRel K L f h H) (p : PostR K L f H ca WE (res.bind g) R) :
    PostR K L f H ca WE res fun a f1 h1 H1 => PostR K L f1 H1 ca WE (g (a, h1)) R := by
  cases res with
  | ok q =>
    intro f1 H1 l1 S1
    show PostR K L f1 H1 ca WE (g (q.1, q.2)) R
    have p' : PostR K L f H ca WE (g (q.1, q.2)) R := p
    revert p'
    cases g (q.1, q.2) with
    | ok z => exact fun p' f2 H2 l2 S2 => p' f2 H2 (Le.trans S S1 l1 l2) S2
    | exc c xs h' => exact fun p' f2 H2 dd l2 S2 => p' f2 H2 dd (Le.trans S S1 l1 l2) S2
    | no => exact fun p' => p'
  | exc c xs h' => exact p
  | no => exact p
/-- from further on -/
theorem PostR.later {f' : List Addr} {h' : Hh} {H' : Hp} (S : SRel K L f h H) (S' : SRel K L f' h' H') (l : Le f H f' H') (p : PostR K L f H ca WE res R) : PostR K L f' H' ca WE res R := by
  cases res with
  | ok q => exact fun f2 H2 l2 S2 => p f2 H2 (Le.trans S S' l l2) S2
  | exc c xs h' => exact fun f2 H2 dd l2 S2 => p f2 H2 dd (Le.trans S S' l l2) S2
  | no => exact p
/-- here and now -/
theorem PostR.here {a : α} (S : SRel K L f h H) (p : PostR K L f H ca WE (.ok (a, h)) R) : R a f h H := p f H .refl S
/-- a step that is no state -/
theorem PostR.pureBind {γ : Type} {m : Res γ} {g : γ → Res (α × Hh)} (p : PostR K L f H ca WE (m.bind g) R) (hm : ∀ c xs h', m ≠ .exc c xs h') : ∃ z, m = .ok z ∧ PostR K L f H ca WE (g z) R := by
  cases m with
  | ok z => exact ⟨z, rfl, p⟩
  | exc c xs h' => exact absurd rfl (hm _ _ _)
  | no => exact p.elim
end

/-- the places -/
structure SlR (K : PySem.W.Frag) (L : Addr → Prop) (f : List Addr) (H : Hp) (r : Z9.Env) (σ : L2.St) : Prop where
  len : r.length = σ.length
  at_ : ∀ (i : Nat) (d : D), r[i]? = some (some d) → ∃ v, σ[i]? = some (some v) ∧ Rep K L f H v d
theorem SlR.mono {K : PySem.W.Frag} {L L0 : Addr → Prop} {f f' : List Addr} {h : Hh} {H H' : Hp} {r : Z9.Env} {σ : L2.St} (S : SRel K L0 f h H) (l : Le f H f' H') (s : SlR K L f H r σ) : SlR K L f' H' r σ :=
  ⟨s.len, fun i d e => let ⟨v, a, b⟩ := s.at_ i d e; ⟨v, a, b.mono S l⟩⟩

section
variable (K : PySem.W.Frag) (ca : Nat → Value) (W : WX) (G : Gam)
/-- the reading of a form -/
def tE (e : Ex) : TE := fun σ H Q => ∃ (L : Addr → Prop) (f : List Addr) (r : Z9.Env) (h : Hh), SRel K L f h H ∧ SlR K L f H r σ ∧
  PostR K L f H ca (fun c d H' => W c d σ H') (evE G e r h) fun d f' _ H' => ∀ v, Rep K L f' H' v d → Q v H'
def tT (e : Ex) : TT := fun σ H Q => ∃ (L : Addr → Prop) (f : List Addr) (r : Z9.Env) (h : Hh), SRel K L f h H ∧ SlR K L f H r σ ∧
  PostR K L f H ca (fun c d H' => W c d σ H') ((evE G e r h).bind fun p => (boolD p.1).bind fun t => .ok (t, p.2)) fun b _ _ H' => Q b H'
def tEs (es : Exs) : TA := fun σ H Q => ∃ (L : Addr → Prop) (f : List Addr) (r : Z9.Env) (h : Hh), SRel K L f h H ∧ SlR K L f H r σ ∧
  PostR K L f H ca (fun c d H' => W c d σ H') (evEs G es r h) fun ds f' _ H' => ∀ vs, RepL K L f' H' vs ds → Q vs H'
def tTs (es : Exs) : TT := fun σ H Q => ∃ (L : Addr → Prop) (f : List Addr) (r : Z9.Env) (h : Hh), SRel K L f h H ∧ SlR K L f H r σ ∧
  PostR K L f H ca (fun c d H' => W c d σ H') (evTs G es r h) fun b _ _ H' => Q b H'
def tO (e : Ox) : TO := fun σ H Q => ∃ (L : Addr → Prop) (f : List Addr) (r : Z9.Env) (h : Hh), SRel K L f h H ∧ SlR K L f H r σ ∧
  PostR K L f H ca (fun c d H' => W c d σ H') (evO G e r h) fun o _ _ H' => Q o H'
/-- an iterator goes through data -/
def WalkD (L : Addr → Prop) (f0 : List Addr) (H0 : Hp) (xs : List D) (J : L2.It) : Prop := ∃ (Gd : Hp → Prop) (Y : Nat → Hp → V → Hp → Prop), Walk J xs.length Gd Y ∧
  (∀ L1 f h H, Lw L H0 L1 → Le f0 H0 f H → SRel K L1 f h H → Gd H) ∧
  ∀ L1 i f h H x H', i < xs.length → Lw L H0 L1 → Le f0 H0 f H → SRel K L1 f h H → Y i H x H' → ∃ d, xs[i]? = some d ∧ Le f H f H' ∧ SRel K L1 f h H' ∧ Rep K L1 f H' x d
def tI (it : Z9.It) : TI := fun σ H R => ∃ (L : Addr → Prop) (f : List Addr) (r : Z9.Env) (h : Hh), SRel K L f h H ∧ SlR K L f H r σ ∧
  PostR K L f H ca (fun c d H' => W c d σ H') (evI G it r h) fun xs f' _ H' => ∀ J, WalkD K L f' H' xs J → R J H'
/-- what a def promises: n arguments, g -/
def spG (n : Nat) (g : List D → Hh → Res (D × Hh)) : Sp := fun vs H Q E => vs.length = n ∧ ∃ (L : Addr → Prop) (f : List Addr) (h : Hh) (ds : List D), SRel K L f h H ∧ RepL K L f H vs ds ∧
  PostR K L f H ca E (g ds h) fun d f' _ H' => ∀ v, Rep K L f' H' v d → Q v H'
end

/-- the names of built-in things that the module leaves -/
def bnames : List Str := ["len", "abs", "int", "sum", "all", "any", "list", "tuple", "min", "max", "sorted", "str", "range", "enumerate", "zip", "isinstance", "bool", "dict", "set"]
/-- a class of errors that is made -/
def MkcAt (P : Program) (w : World) (K : PySem.W.Frag) (mg : Str → Option Value) (base : Heap) (lv : Nat) (cv : Value) (x : Str) (c : Str) : Option Str → Prop
  | none => ∃ (C : Addr) (bmB : List Value) (B newId initId : String), ExcBaseFacts B newId initId bmB ∧ PySem.W.excIn K C bmB newId = true ∧ mg x = some (.ref C) ∧ PySem.W.keepIn K (.ref C) = true ∧ PySem.W.subIn K (.ref C) (.type "BaseException") = some true ∧ PySem.W.typeIn K (.ref C) = some (.type "type") ∧ clsNm K C = some c ∧ cv = .ref C
  | some f => 2 ≤ lv ∧ ∃ (C fI : Addr) (fd : FuncData) (ps : List Str), OexC K C ∧ PySem.W.findIn K (.ref C) "__init__" = some (some (.ref fI)) ∧ PySem.W.typeIn K (.ref fI) = some (.type "function") ∧ FnOk P w K mg base (L2.CX P w) 1 fI fd ps (spI C f) ∧ Binds K fd ps [] ∧ mg x = some (.ref C) ∧ clsNm K C = some c ∧ cv = .ref C
/-- what is known of the named things -/
structure GOk (nm : List Str) (ca : Nat → Value) (G : Gam) (lv : Nat) (P : Program) (w : World) (K : PySem.W.Frag) (mg : Str → Option Value) (base : Heap) : Prop where
  fn : ∀ k n g x, G.fn k = some (n, g) → nm[k]? = some x → ∃ (fa : Addr) (fd : FuncData) (ps : List Str), mg x = some (.ref fa) ∧ PySem.W.keepIn K (.ref fa) = true ∧ Binds K fd ps [] ∧ ps.length = n ∧ FnOk P w K mg base (L2.CX P w) lv fa fd ps (spG K ca n g)
  con : ∀ k d x, G.con k = some d → nm[k]? = some x → ∃ v u, mg x = some u ∧ RelV v u ∧ ∀ L f H, Rep K L f H v d
  blt : ∀ x ∈ bnames, mg x = none
  mkc : ∀ k x c o, G.mkc k = some (c, o) → nm[k]? = some x → MkcAt P w K mg base lv (ca k) x c o
  esub : ∀ k x, (∃ c b, G.esub c k = some b) → nm[k]? = some x → ∃ v cv, ClsV v cv ∧ RelV v cv ∧ (mg x = some cv ∨ (mg x = none ∧ bootBuiltins x = some cv)) ∧ ∀ c b C, G.esub c k = some b → clsNm K C = some c → EcK K C ∧ PySem.W.kitOne K (.ref C) cv = some b
  efl : ∀ c n C, G.efl c n = true → clsNm K C = some c → XfC K C ∧ PySem.W.findIn K (.ref C) n = some none
/-- where a form is read -/
structure COk (nm : List Str) (ca : Nat → Value) (G : Gam) (lv : Nat) (N : List Str) (sc : Scope) (X : Cx) : Prop where
  N : X.N = N
  nd : X.N.Nodup
  sc : X.env.scope = sc
  calm : X.calm = true
  room : Room lv X.A
  gam : GOk nm ca G lv X.prog X.w X.K X.mg X.base
theorem COk.hu {nm : List Str} {ca : Nat → Value} {G : Gam} {lv : Nat} {N : List Str} {sc : Scope} {X : Cx} (c : COk nm ca G lv N sc X) : X.A.units + 65 < cLine := by
  have := c.room.un
  omega
end Z9

set_option Elab.async false
set_option linter.all false
set_option maxRecDepth 100000
set_option maxHeartbeats 4000000
/-! E6: a form's evaluation is the text's. -/
namespace Z9
open PySem PySem.Spec PyProof.Rows L2

theorem PEm {X : Cx} {e : Expr} {t t' : TE} (h : PE X e t) (k : ∀ σ H Q, t' σ H Q → t σ H Q) : PE X e t' := ⟨fun pins s σ H Q I q => h.run pins s σ H Q I (k σ H Q q)⟩
theorem PTm {X : Cx} {e : Expr} {t t' : TT} (h : PT X e t) (k : ∀ σ H Q, t' σ H Q → t σ H Q) : PT X e t' := ⟨fun pins s σ H Q I q => h.run pins s σ H Q I (k σ H Q q)⟩
theorem PAm {X : Cx} {e : List Expr} {t t' : TA} (h : PA X e t) (k : ∀ σ H Q, t' σ H Q → t σ H Q) : PA X e t' := ⟨fun pos pins s σ H Q I q => h.run pos pins s σ H Q I (k σ H Q q)⟩

section
variable {nm : List Str} {ca : Nat → Value} {G : Gam} {lv : Nat} {N : List Str} {sc : Scope} {X : Cx} {W : WX}
theorem isLoc_vis {x : Str} (h : isLoc sc x = true) : Vis sc x := by
  unfold isLoc at h
  unfold Vis
  split at h
  · rename_i e; exact .inl e
  · rename_i e; exact .inr (.inl e)
  · rename_i e; exact .inr (.inr e)
  · cases h
theorem isGl_gl (c : COk nm ca G lv N sc X) {x : Str} (h : isGl sc x = true) : Gl X x := by
  unfold isGl at h
  split at h
  · rename_i e
    show X.env.kindOf x = _
    unfold PySem.Env.kindOf
    rw [c.sc]
    exact e
  · cases h
theorem okNm_of {x : Str} (h : okNm x = true) : (x == ("__debug__" : Str)) = false ∧ (x == ("__classdict__" : Str)) = false ∧ x ≠ ("__name__" : Str) := by
  unfold okNm at h
  simp only [Bool.and_eq_true, Bool.not_eq_true'] at h
  exact ⟨h.1.1, h.1.2, by intro e; rw [e] at h; exact absurd h.2 (by simp)⟩
/-- the state of a reading that is asked again -/
theorem tE_of {e : Ex} {σ : L2.St} {H : Hp} {Q : VK} {L : Addr → Prop} {f : List Addr} {r : Z9.Env} {h : Hh} (S : SRel X.K L f h H) (sl : SlR X.K L f H r σ)
    (p : PostR X.K L f H ca (fun c d H' => W c d σ H') (evE G e r h) fun d f' _ H' => ∀ v, Rep X.K L f' H' v d → Q v H') : tE X.K ca W G e σ H Q := ⟨L, f, r, h, S, sl, p⟩

theorem boolD_ok {d : D} {b : Bool} (h : boolD d = .ok b) : d = .bl b := by
  cases d <;> simp [boolD] at h
  rw [h]
theorem boolD_exc {d : D} : ∀ c xs h', boolD d ≠ .exc c xs h' := by intro c xs h'; cases d <;> simp [boolD]
theorem ofO_exc {α : Type} {o : Option α} : ∀ c xs h', ofO o ≠ .exc c xs h' := by intro c xs h'; cases o <;> simp [ofO]
theorem ofB_exc {α : Type} {b : Bool} {a : α} : ∀ c xs h', ofB b a ≠ .exc c xs h' := by intro c xs h'; cases b <;> simp [ofB]
theorem getV_exc {r : Z9.Env} {i : Nat} : ∀ c xs h', getV r i ≠ .exc c xs h' := by
  intro c xs h'
  unfold getV
  split <;> simp
theorem getV_ok {r : Z9.Env} {i : Nat} {d : D} (h : getV r i = .ok d) : r[i]? = some (some d) := by
  unfold getV at h
  split at h
  · rename_i e; cases h; exact e
  · cases h

/-- an operation by values, behind two readings -/
theorem bin_go {a b : Ex} {g : D → D → Hh → Res D} (hg : ∀ d e h c xs h', g d e h ≠ .exc c xs h') {σ : L2.St} {H : Hp} {Q : VK} {L : Addr → Prop} {f : List Addr} {r : Z9.Env} {h : Hh} (S : SRel X.K L f h H) (sl : SlR X.K L f H r σ)
    (p : PostR X.K L f H ca (fun c d H' => W c d σ H') ((evE G a r h).bind fun p => (evE G b r p.2).bind fun q => (g p.1 q.1 q.2).bind fun d => .ok (d, q.2)) fun d f' _ H' => ∀ v, Rep X.K L f' H' v d → Q v H') :
    tOp (rD X.K g) (tE X.K ca W G a) (tE X.K ca W G b) σ H Q := by
  refine tE_of S sl ((p.bind S).mono fun d f1 h1 H1 l1 S1 p1 v rv => ?_)
  refine tE_of S1 (sl.mono S l1) ((p1.bind S1).mono fun e f2 h2 H2 l2 S2 p2 w rw => ?_)
  obtain ⟨z, ez, p3⟩ := p2.pureBind (hg _ _ _)
  refine ⟨L, f2, h2, d, e, S2, rv.mono S1 l2, rw, ?_⟩
  have ez : g d e h2 = .ok z := ez
  rw [ez]
  exact fun H' v l S' rv => p3 f2 H' l S' v rv
theorem binD_exc (o : Operator) (d e : D) (h : Hh) : ∀ c xs h', (fun x y (_ : Hh) => binD o x y) d e h ≠ .exc c xs h' := by
  intro c xs h'
  show binD o d e ≠ _
  unfold binD
  split <;> first | exact ofB_exc _ _ _ | simp
theorem cmpD_exc (o : CmpOp) (d e : D) (h : Hh) : ∀ c xs h', (fun x y (_ : Hh) => cmpD o x y) d e h ≠ .exc c xs h' := by
  intro c xs h'
  show cmpD o d e ≠ _
  unfold cmpD
  split <;> first
    | exact ofB_exc _ _ _
    | (split <;> first | exact ofB_exc _ _ _ | simp)
    | simp
theorem map_exc {α : Type} {o : Option α} : ∀ c xs h', ofO o ≠ .exc c xs h' := ofO_exc
theorem fldD_exc (G : Gam) (x : D) (n : Str) : ∀ c xs h', fldD G x n ≠ .exc c xs h' := by
  intro c xs h'
  unfold fldD
  split
  · split
    · exact ofO_exc _ _ _
    · simp
  · simp
theorem iscD_exc (G : Gam) (x : D) (k : Nat) : ∀ c xs h', iscD G x k ≠ .exc c xs h' := by
  intro c xs h'
  unfold iscD
  split
  · cases G.esub _ k <;> simp [ofO]
  · simp
theorem mkxD_exc (m : Str × Option Str) (xs : List D) : ∀ c ys h', mkxD m xs ≠ .exc c ys h' := by
  intro c ys h'
  unfold mkxD
  split <;> simp
theorem zip_look {K : PySem.W.Frag} {L : Addr → Prop} {f : List Addr} {H : Hp} {n : Str} {y : D} : ∀ {ns : List Str} {vs : List V} {ds : List D}, ns.length = vs.length → RepL K L f H vs ds → (ns.zip ds).lookup n = some y → ∃ v, (ns.zip vs).lookup n = some v ∧ Rep K L f H v y
  | [], _, _, _, _, e => by simp at e
  | _ :: _, [], _, l, _, _ => by simp at l
  | m :: ns, v :: vs, _, l, .cons r t, e => by
    rw [List.zip_cons_cons, List.lookup_cons] at e ⊢
    cases hb : n == m with
    | true =>
      rw [hb] at e
      cases e
      exact ⟨v, rfl, r⟩
    | false =>
      rw [hb] at e
      exact zip_look (by simpa using l) t e
theorem ixD_exc (d e : D) (h : Hh) : ∀ c xs h', (fun x y h => ixD h x y) d e h ≠ .exc c xs h' := by
  intro c xs h'
  show ixD h d e ≠ _
  unfold ixD
  split <;> first
    | exact ofO_exc _ _ _
    | simp
theorem slD_exc (h : Hh) (d : D) (lo hi : Option Int) : ∀ c xs h', slD h d lo hi ≠ .exc c xs h' := by
  intro c xs h'
  unfold slD
  split <;> simp
theorem bindC_exc {α β : Type} {x : Res α} {g : α → Res β} (h1 : ∀ c xs h', x ≠ .exc c xs h') (h2 : ∀ a c xs h', g a ≠ .exc c xs h') : ∀ c xs h', x.bind g ≠ .exc c xs h' := by
  intro c xs h'
  cases x with
  | ok a => exact h2 a c xs h'
  | exc c2 x2 h2 => exact absurd rfl (h1 c2 x2 h2)
  | no => simp
theorem bcallD_exc (f : BF) (xs : List D) (h : Hh) : ∀ c ys h', bcallD f xs h ≠ .exc c ys h' := by
  intro c ys h'
  cases f <;> simp only [bcallD, bLen, bAbs, bInt, bSum, bAll, bAny] <;> first
    | (split <;> first
        | (split <;> simp)
        | exact bindC_exc ofO_exc (by intros; simp) _ _ _
        | simp)
    | simp
theorem bmethD_exc (m : BM) (x : D) (xs : List D) (h : Hh) : ∀ c ys h', bmethD m x xs h ≠ .exc c ys h' := by
  intro c ys h'
  cases m <;> simp only [bmethD, mJoin, mAppend, mPop] <;> first
    | (split <;> first
        | exact bindC_exc ofO_exc (fun _ => ofB_exc) _ _ _
        | (split <;> first
            | exact ofB_exc _ _ _
            | (split <;> first
                | (split <;> simp)
                | simp)
            | simp)
        | simp)
    | simp
end
end Z9

set_option Elab.async false
set_option linter.all false
set_option maxRecDepth 100000
set_option maxHeartbeats 4000000
/-! E7: targets, what is gone through, comprehensions. -/
namespace Z9
open PySem PySem.Spec PyProof.Rows L2

/-! ### slots that are wiped -/
theorem wipe_set_mem {σ : L2.St} {i : Nat} {x : Option V} : ∀ {vs : List Nat}, i ∈ vs → L2.wipe (σ.set i x) vs = L2.wipe σ vs
  | [], h => by cases h
  | v :: vs, h => by
    show (L2.wipe (σ.set i x) vs).set v none = (L2.wipe σ vs).set v none
    by_cases hi : i ∈ vs
    · rw [wipe_set_mem hi]
    · have e : i = v := by
        rcases List.mem_cons.mp h with e | h
        · exact e
        · exact absurd h hi
      subst e
      have k : ∀ (us : List Nat) (τ : L2.St), i ∉ us → L2.wipe (τ.set i x) us = (L2.wipe τ us).set i x := by
        intro us
        induction us with
        | nil => intro τ _; rfl
        | cons u us ih =>
          intro τ hn
          show (L2.wipe (τ.set i x) us).set u none = ((L2.wipe τ us).set u none).set i x
          rw [ih τ (fun z => hn (List.mem_cons_of_mem _ z))]
          exact List.set_comm _ _ (fun z => hn (by rw [z]; exact List.mem_cons_self))
      rw [k vs σ hi, List.set_set]
theorem wipe_set_out : ∀ {vs : List Nat} {σ : L2.St} {i : Nat}, L2.wipe (σ.set i none) vs = (L2.wipe σ vs).set i none
  | [], _, _ => rfl
  | v :: vs, σ, i => by
    show (L2.wipe (σ.set i none) vs).set v none = ((L2.wipe σ vs).set v none).set i none
    rw [wipe_set_out (vs := vs)]
    by_cases h : i = v
    · subst h; rfl
    · exact List.set_comm _ _ h
theorem wipe_wipe : ∀ {vs : List Nat} {σ : L2.St}, L2.wipe (L2.wipe σ vs) vs = L2.wipe σ vs
  | [], _ => rfl
  | v :: vs, σ => by
    show (L2.wipe ((L2.wipe σ vs).set v none) vs).set v none = (L2.wipe σ vs).set v none
    rw [wipe_set_out, wipe_wipe, List.set_set]
section
variable {K : PySem.W.Frag} {L : Addr → Prop} {f : List Addr} {h : Hh} {H : Hp} {r : Z9.Env} {σ : L2.St}
theorem SlR.set {i : Nat} {d : D} {v : V} (s : SlR K L f H r σ) (q : Rep K L f H v d) : SlR K L f H (r.set i (some d)) (σ.set i (some v)) := by
  refine ⟨by simp [s.len], fun j e hj => ?_⟩
  by_cases hji : j = i
  · subst hji
    have hl : j < r.length := by
      have := (List.getElem?_eq_some_iff.mp hj).1
      simpa using this
    rw [List.getElem?_set_self hl] at hj
    cases hj
    exact ⟨v, by rw [List.getElem?_set_self (by rw [← s.len]; exact hl)], q⟩
  · rw [List.getElem?_set_ne (Ne.symm hji)] at hj
    obtain ⟨w, h1, h2⟩ := s.at_ j e hj
    exact ⟨w, by rw [List.getElem?_set_ne (Ne.symm hji)]; exact h1, h2⟩
theorem SlR.setN {i : Nat} (s : SlR K L f H r σ) : SlR K L f H (r.set i none) (σ.set i none) := by
  refine ⟨by simp [s.len], fun j e hj => ?_⟩
  by_cases hji : j = i
  · subst hji
    have hl : j < r.length := by
      have := (List.getElem?_eq_some_iff.mp hj).1
      simpa using this
    rw [List.getElem?_set_self hl] at hj
    cases hj
  · rw [List.getElem?_set_ne (Ne.symm hji)] at hj
    obtain ⟨w, h1, h2⟩ := s.at_ j e hj
    exact ⟨w, by rw [List.getElem?_set_ne (Ne.symm hji)]; exact h1, h2⟩
theorem SlR.wipe (s : SlR K L f H r σ) : ∀ vs : List Nat, SlR K L f H (wipeE r vs) (L2.wipe σ vs)
  | [] => s
  | _ :: vs => (SlR.wipe s vs).setN
theorem SlR.wide {L1 : Addr → Prop} (w : Lw L H L1) (s : SlR K L f H r σ) : SlR K L1 f H r σ :=
  ⟨s.len, fun i d e => let ⟨v, a, b⟩ := s.at_ i d e; ⟨v, a, b.wide w⟩⟩
end

/-! ### targets -/
/-- a target's reading -/
def gD (K : PySem.W.Frag) (t : Tg) : TG := fun v σ H Q => ∃ (L : Addr → Prop) (f : List Addr) (h : Hh) (r r' : Z9.Env) (d : D), SRel K L f h H ∧ SlR K L f H r σ ∧ Rep K L f H v d ∧ setT t d r = .ok r' ∧
  ∀ σ', SlR K L f H r' σ' → (∀ vs, tgIn t vs = true → L2.wipe σ' vs = L2.wipe σ vs) → Q σ' H
def gDs (K : PySem.W.Frag) (ts : Tgs) : TGs := fun vs σ H Q => ∃ (L : Addr → Prop) (f : List Addr) (h : Hh) (r r' : Z9.Env) (ds : List D), SRel K L f h H ∧ SlR K L f H r σ ∧ RepL K L f H vs ds ∧ setTs ts ds r = .ok r' ∧
  ∀ σ', SlR K L f H r' σ' → (∀ us, tgsIn ts us = true → L2.wipe σ' us = L2.wipe σ us) → Q σ' H
theorem PGm {X : Cx} {e : Expr} {t t' : TG} (h : PG X e t) (k : ∀ v σ H Q, t' v σ H Q → t v σ H Q) : PG X e t' := ⟨fun pins s σ H v u Q I r q => h.run pins s σ H v u Q I r (k v σ H Q q)⟩
theorem PGsm {X : Cx} {e : List Expr} {t t' : TGs} (h : PGs X e t) (k : ∀ v σ H Q, t' v σ H Q → t v σ H Q) : PGs X e t' := ⟨fun pins s σ H v u Q I r q => h.run pins s σ H v u Q I r (k v σ H Q q)⟩
theorem mT_plain {C : Mc} {k : Bool} {sc : Scope} {t : Tg} {x : Expr} (h : mT C k sc t x = true) : ∀ a p, x ≠ .Starred a p := by
  intro a p e
  subst e
  cases t <;> simp [mT] at h
theorem assign_cons {x : Expr} {xs : List Expr} {env : PySem.Env} (h : ∀ a p, x ≠ .Starred a p) : assignEach (x :: xs) env = (false, assign x env) :: assignEach xs env := by
  cases x <;> first
    | rfl
    | exact absurd rfl (h _ _)
theorem assign_facts {C : Mc} {k : Bool} {sc : Scope} {env : PySem.Env} : ∀ {ts : Tgs} {xs : List Expr}, mTs C k sc ts xs = true → (assignEach xs env).length = xs.length ∧ (assignEach xs env).findIdx? (·.1) = none
  | .nil, [], _ => ⟨rfl, rfl⟩
  | .nil, _ :: _, h => by simp [mTs] at h
  | .cons _ _, [], h => by simp [mTs] at h
  | .cons t ts, x :: xs, h => by
    simp only [mTs, Bool.and_eq_true] at h
    obtain ⟨a, b⟩ := assign_facts (env := env) (ts := ts) h.2
    rw [assign_cons (mT_plain h.1)]
    exact ⟨by simp [a], by rw [List.findIdx?_cons]; simp [b]⟩
theorem mTs_len {C : Mc} {k : Bool} {sc : Scope} : ∀ {ts : Tgs} {xs : List Expr} {r r' : Z9.Env} {ds : List D}, mTs C k sc ts xs = true → setTs ts ds r = .ok r' → ds.length = xs.length
  | .nil, [], _, _, [], _, _ => rfl
  | .nil, [], _, _, _ :: _, _, h => by simp [setTs] at h
  | .nil, _ :: _, _, _, _, h, _ => by simp [mTs] at h
  | .cons _ _, [], _, _, _, h, _ => by simp [mTs] at h
  | .cons t ts, x :: xs, r, r', [], h, h2 => by simp [setTs] at h2
  | .cons t ts, x :: xs, r, r', d :: ds, h, h2 => by
    simp only [mTs, Bool.and_eq_true] at h
    simp only [setTs] at h2
    obtain ⟨r1, _, h3⟩ := bind_ok h2
    simp [mTs_len h.2 h3]
theorem isSt_of {k : Bool} {sc : Scope} {X : Cx} {x : Str} (hs : X.env.scope = sc) (hk : k = true → ∀ x, X.fn x = true) (h : isSt k sc x = true) : Loc X.env.scope x ∧ (X.fn x = true ∨ X.env.scope.names.lookup x = some .local) := by
  unfold isSt at h
  rw [← hs] at h
  split at h
  · rename_i e; exact ⟨.inl e, .inr e⟩
  · rename_i e; exact ⟨.inr e, .inl (hk h x)⟩
  · cases h
mutual
theorem soundTg {C : Mc} {k : Bool} {sc : Scope} {X : Cx} (hN : X.N = C.N) (nd : X.N.Nodup) (hs : X.env.scope = sc) (hc : X.calm = true) (hk : k = true → ∀ x, X.fn x = true) : ∀ (t : Tg) (x : Expr), mT C k sc t x = true → PG X x (gD X.K t)
  | .var i, x, h => by
    cases x <;> simp only [mT, Bool.and_eq_true, Bool.false_eq_true, decide_eq_true_eq] at h
    rename_i id pos
    obtain ⟨⟨h1, h2⟩, h3⟩ := h
    have hl := isSt_of (X := X) hs hk h3
    refine PGm (pg_name (i := i) nd (by rw [hN]; exact h1) hl.1 hl.2) fun v σ H Q q => ?_
    obtain ⟨L, f, h, r, r', d, S, sl, rv, e, q⟩ := q
    simp only [setT] at e
    cases e
    exact q _ (sl.set rv) fun vs hv => wipe_set_mem (by simpa [tgIn] using hv)
  | .tup ts, x, h => by
    cases x <;> simp only [mT, Bool.false_eq_true] at h
    rename_i xs kk pos
    obtain ⟨a1, a2⟩ := assign_facts (env := X.env) h
    have ih := soundTgs (C := C) (k := k) (sc := sc) hN nd hs hc hk ts xs h
    refine ⟨fun pins s σ H v u Q I ru q => ?_⟩
    obtain ⟨L, f, hh, r, r', d, S, sl, rv, e, q⟩ := q
    simp only [setT] at e
    split at e
    · rename_i ds
      obtain ⟨a, vs, rfl, ea, rr⟩ := rv.seqT
      refine (pg_tup (n := xs.length) hc ih a1 a2).run pins s σ H _ u Q I ru ⟨a, vs, rfl, ea, by rw [rr.length]; exact mTs_len h e, ?_⟩
      exact ⟨L, f, hh, r, r', ds, S, sl, rr, e, fun σ' s' w => q σ' s' fun vs hv => w vs (by simpa [tgIn] using hv)⟩
    · rename_i ds
      obtain ⟨a, vs, rfl, ea, _, _, rr⟩ := rv.seqL
      refine (pg_lst (n := xs.length) hc ih a1 a2).run pins s σ H _ u Q I ru ⟨a, vs, rfl, .of ea, by rw [rr.length]; exact mTs_len h e, ?_⟩
      exact ⟨L, f, hh, r, r', ds, S, sl, rr, e, fun σ' s' w => q σ' s' fun vs hv => w vs (by simpa [tgIn] using hv)⟩
    · cases e
theorem soundTgs {C : Mc} {k : Bool} {sc : Scope} {X : Cx} (hN : X.N = C.N) (nd : X.N.Nodup) (hs : X.env.scope = sc) (hc : X.calm = true) (hk : k = true → ∀ x, X.fn x = true) : ∀ (ts : Tgs) (xs : List Expr), mTs C k sc ts xs = true → PGs X xs (gDs X.K ts)
  | .nil, [], _ => PGsm pgs_nil fun vs σ H Q q => by
    obtain ⟨L, f, h, r, r', ds, S, sl, rv, e, q⟩ := q
    cases ds with
    | nil =>
      cases rv
      simp only [setTs] at e
      cases e
      exact ⟨rfl, q σ sl fun _ _ => rfl⟩
    | cons _ _ => simp [setTs] at e
  | .nil, _ :: _, h => by simp [mTs] at h
  | .cons _ _, [], h => by simp [mTs] at h
  | .cons t ts, x :: xs, h => by
    simp only [mTs, Bool.and_eq_true] at h
    refine PGsm (pgs_cons (soundTg hN nd hs hc hk t x h.1) (soundTgs hN nd hs hc hk ts xs h.2) (by rw [assign_cons (mT_plain h.1)]; rfl)) fun vs σ H Q q => ?_
    obtain ⟨L, f, hh, r, r', ds, S, sl, rv, e, q⟩ := q
    cases ds with
    | nil => simp [setTs] at e
    | cons d ds =>
      cases rv with
      | @cons v vs _ _ rv rvs =>
        simp only [setTs] at e
        obtain ⟨r1, e1, e2⟩ := bind_ok e
        refine ⟨v, vs, rfl, L, f, hh, r, r1, d, S, sl, rv, e1, fun σ1 s1 w1 => ⟨L, f, hh, r1, r', ds, S, s1, rvs, e2, fun σ2 s2 w2 => q σ2 s2 fun us hu => ?_⟩⟩
        simp only [tgsIn, Bool.and_eq_true] at hu
        rw [w2 us hu.2, w1 us hu.1]
end

/-! ### a comprehension's turns -/
theorem lcD_exc (F : D → Hh → Res (Option D × Hh)) : ∀ (xs acc : List D) (h : Hh) c ys h', lcD F xs acc h ≠ .exc c ys h'
  | [], _, _, _, _, _ => by simp [lcD]
  | x :: xs, acc, h, c, ys, h' => by
    unfold lcD
    split
    · split
      · exact lcD_exc F xs _ _ _ _ _
      · simp
    · exact lcD_exc F xs _ _ _ _ _
    · simp
section
variable {K : PySem.W.Frag} {L : Addr → Prop} {f f' : List Addr} {h h' : Hh} {H H' : Hp}
theorem Lw.trans (S : SRel K L f h H) (S' : SRel K L f' h' H') (l : Le f H f' H') {L1 : Addr → Prop} (w : Lw L H' L1) : Lw L H L1 :=
  ⟨w.sub, fun a x => (w.new a x).imp id fun e => l.none S S' e⟩
/-- a list that a comprehension has filled becomes a changing one -/
theorem SRel.adopt {p : Addr} {vs : List V} {ds : List D} (S : SRel K (fun a => L a ∨ a = p) f h H) (np : ¬ L p) (hp : H p = some (.lst vs)) (r : RepL K (fun a => L a ∨ a = p) f H vs ds) :
    SRel K L (f ++ [p]) (h ++ [.lst ds]) H := by
  have nf : p ∉ f := fun m => S.dis p m (.inr rfl)
  have up : ∀ {vs : List V} {ds : List D}, RepL K (fun a => L a ∨ a = p) f H vs ds → RepL K L (f ++ [p]) H vs ds := fun r => RepL.up np r
  refine ⟨by simp [S.len], ?_, fun a x => S.out a (.inl x), fun a m x => ?_, fun i d e => ?_⟩
  · rw [List.nodup_append]
    refine ⟨S.nd, by simp, fun a ha b hb => ?_⟩
    rw [List.mem_singleton.mp hb]
    rintro rfl
    exact nf ha
  · rcases List.mem_append.mp m with m | m
    · exact S.dis a m (.inl x)
    · rw [List.mem_singleton.mp m] at x
      exact np x
  · by_cases hj : i < h.length
    · rw [List.getElem?_append_left hj] at e
      obtain ⟨b, ds', vs', e1, e2, e3, r'⟩ := S.obj i d e
      refine ⟨b, ds', vs', ?_, e2, e3, up r'⟩
      rw [List.getElem?_append_left (by rw [S.len]; exact hj)]
      exact e1
    · have hj' : i = h.length := by
        have := (List.getElem?_eq_some_iff.mp e).1
        simp at this
        omega
      subst hj'
      simp at e
      subst e
      refine ⟨p, ds, vs, ?_, rfl, hp, up r⟩
      rw [← S.len]
      simp
end
end Z9

set_option Elab.async false
set_option linter.all false
set_option maxRecDepth 100000
set_option maxHeartbeats 8000000
/-! E8: every form's evaluation is the text's. -/
namespace Z9
open PySem PySem.Spec PyProof.Rows L2

section
variable {nm : List Str} {ca : Nat → Value} {G : Gam} {lv : Nat} {N : List Str}

theorem glName_of {sc : Scope} {X : Cx} (c : COk nm ca G lv N sc X) {x y : Str} (h : glName sc x y = true) (hb : y ∈ bnames) : x = y ∧ Gl X x ∧ X.mg x = none ∧ (x == ("__debug__" : Str)) = false ∧ x ≠ ("__name__" : Str) := by
  unfold glName at h
  simp only [Bool.and_eq_true, beq_iff_eq] at h
  obtain ⟨⟨rfl, h1⟩, h2⟩ := h
  obtain ⟨a, b, d⟩ := okNm_of h2
  exact ⟨rfl, isGl_gl c h1, c.gam.blt _ hb, a, d⟩
theorem not_set {C : Mc} {sc : Scope} {e : Ex} {x : Expr} {env : PySem.Env} (h : mE C sc e x = true) : ∀ v, foldedSetIterable x env v = pure v := by
  intro v
  have := (mE_plain h).2.1
  cases x <;> first
    | rfl
    | exact absurd rfl (this _ _ _)
theorem plain_ix {x : Expr} (h : noSlice x = true) : PlainIx x := by
  intro o i
  cases x <;> first
    | rfl
    | (simp [noSlice] at h)
theorem base_of {x : Expr} {env : PySem.Env} {n : Str} (hn : noSuper x = true) : attributeBase x n env (eval x env) = eval x env := by
  cases x <;> first
    | rfl
    | skip
  rename_i fn args kws pos
  cases fn <;> first
    | rfl
    | skip
  rename_i id p
  cases args <;> first
    | rfl
    | skip
  cases kws <;> first
    | rfl
    | skip
  unfold attributeBase
  have h : ¬ id = ("super" : Str) := by simpa [noSuper] using hn
  simp [h]
theorem few_of {C : Mc} {sc : Scope} {env : PySem.Env} {pos : Pos} : ∀ {es : Exs} {xs : List Expr}, mEs C sc es xs = true → (backTo pos (starEach xs env)).all (fun x => !x.1) = true
  | .nil, [], _ => rfl
  | .nil, _ :: _, h => by simp [mEs] at h
  | .cons _ _, [], h => by simp [mEs] at h
  | .cons e es, x :: xs, h => by
    simp only [mEs, Bool.and_eq_true] at h
    rw [star_cons (mE_plain h.1).1]
    exact few_of (es := es) h.2
theorem lookO {K : PySem.W.Frag} {L : Addr → Prop} {f : List Addr} {h : Hh} {H : Hp} (S : SRel K L f h H) {v : V} {i : Nat} {x : Option D} (e : h[i]? = x) (r : Rep K L f H v (.ref i)) : (∃ d, x = some d) → ∃ a ds vs, v = .ref a ∧ x = some (.lst ds) ∧ H a = some (.lst vs) ∧ RepL K L f H vs ds := by
  rintro ⟨d, rfl⟩
  obtain ⟨a, ds, vs, e1, rfl, e3, rr⟩ := S.obj i d e
  cases r with
  | ref e2 =>
    rw [e1] at e2
    cases e2
    exact ⟨_, ds, vs, rfl, rfl, e3, rr⟩

/-! ### lists of readings -/
theorem PTsm {X : Cx} {e : List Expr} {t t' : TT} (h : PTs X e t) (k : ∀ σ H Q, t' σ H Q → t σ H Q) : PTs X e t' := ⟨fun pins s σ H Q I q => h.run pins s σ H Q I (k σ H Q q)⟩
theorem POm {X : Cx} {e : Option Expr} {t t' : TO} (h : PO X e t) (k : ∀ σ H Q, t' σ H Q → t σ H Q) : PO X e t' := ⟨fun pins s σ H Q I q => h.run pins s σ H Q I (k σ H Q q)⟩
theorem PWm {X : Cx} {e : Expr} {t t' : TT} (h : PW X e t) (k : ∀ σ H Q, t' σ H Q → t σ H Q) : PW X e t' := ⟨fun wh pins s σ H Q I q => h.run wh pins s σ H Q I (k σ H Q q)⟩

/-- a value that is a truth, as a test: forms that are no and, or, not, comparison -/
def plainT : Expr → Bool
  | .BoolOp .. => false
  | .UnaryOp .Not .. => false
  | .Compare .. => false
  | .NamedExpr .. => false
  | .IfExp .. => false
  | _ => true
theorem isTrue_of {x : Expr} {env : PySem.Env} (h : plainT x = true) : ∀ whole, isTrue x env whole = (do let v ← whole; standAt x.pos; holding [v] (truthy v)) := by
  intro w
  cases x <;> first
    | rfl
    | (simp [plainT] at h; done)
    | skip
  rename_i op a pos
  cases op <;> first
    | rfl
    | (simp [plainT] at h)
variable {sc : Scope} {X : Cx} {W : WX}
/-- from a reading to a test's -/
theorem tT_tE {e : Ex} {σ : L2.St} {H : Hp} {Q : Bool → Hp → Prop} (q : tT X.K ca W G e σ H Q) : tE X.K ca W G e σ H fun x H1 => ∃ c, x = .bl c ∧ Q c H1 := by
  obtain ⟨L, f, r, h, S, sl, p⟩ := q
  refine tE_of S sl ((p.bind S).mono fun d f1 h1 H1 l1 S1 p1 v rv => ?_)
  obtain ⟨b, eb, p2⟩ := p1.pureBind boolD_exc
  have := boolD_ok eb
  simp only at this
  subst this
  exact ⟨b, rv.blE, p2.here S1⟩
end
end Z9

set_option Elab.async false
set_option linter.all false
set_option maxRecDepth 100000
set_option maxHeartbeats 16000000
/-! E9: the evaluation of every form. -/
namespace Z9
open PySem PySem.Spec PyProof.Rows L2

section
variable {nm : List Str} {ca : Nat → Value} {G : Gam} {lv : Nat} {N : List Str}

theorem blkCOk {sc : Scope} {X : Cx} (c : COk nm ca G lv N sc X) (s : Shared) (H : Hp) (scope : Scope) (C : Addr) (cl : List (Str × Addr)) (fp : List Addr) : COk nm ca G lv N (relS scope sc) (X.blk s H scope (compEnvC scope cl C X.env) fp) :=
  ⟨c.N, c.nd, by show relS scope X.env.scope = _; rw [c.sc], c.calm, c.room, c.gam⟩

/-- the readings of a comprehension's parts give the whole's -/
theorem lc_go {sc : Scope} {X : Cx} {W : WX} (c : COk nm ca G lv N sc X) (new : Bool) (elt : Ex) (t : Tg) (it : Z9.It) (ifs : Exs) (own : List Nat) (ht : tgIn t own = true) {σ : L2.St} {H : Hp} {Q : VK}
    (q : tE X.K ca W G (.lc new elt t it ifs own) σ H Q) : tLc (tI X.K ca W G it) (gD X.K t) (tTs X.K ca (fun _ _ _ _ => False) G ifs) (tE X.K ca (fun _ _ _ _ => False) G elt) own σ H Q := by
  obtain ⟨L, f, r, h, S, sl, p⟩ := q
  refine ⟨L, f, r, h, S, sl, (p.bind S).mono fun xs f1 h1 H1 l1 S1 p1 J wd da hD => ?_⟩
  have sl1 := sl.mono S l1
  obtain ⟨Gd, Y, wk, hG, hY⟩ := wd
  generalize hF : (fun (x : D) (h1 : Hh) => (setT t x (wipeE r own)).bind fun r1 => (evTs G ifs r1 h1).bind fun b => if b.1 then (evE G elt r1 b.2).bind fun y => Res.ok (some y.1, y.2) else Res.ok (none, b.2)) = F at p1
  -- the turns come to an end
  obtain ⟨q, eq⟩ : ∃ q, lcD F xs [] h1 = .ok q := by
    cases e : lcD F xs [] h1 with
    | ok q => exact ⟨q, rfl⟩
    | exc c ys h' => exact absurd e (lcD_exc F xs [] h1 c ys h')
    | no =>
      have p1' : PostR X.K L f1 H1 ca (fun c d H' => W c d σ H') ((lcD F xs [] h1).bind fun q => if new then Res.ok (D.ref q.2.length, q.2 ++ [D.lst q.1]) else Res.ok (D.lst q.1, q.2)) _ := p1
      rw [e] at p1'
      exact p1'.elim
  obtain ⟨lA, SA, hw, nL, nf⟩ := S1.lay (o := .lst []) hD
  refine lc_it (G := Gd) (Y := Y) wk (fun i H2 => ∃ (f2 : List Addr) (h2 : Hh) (acc : List V) (ds : List D), H2 da = some (.lst acc) ∧ Le f1 H1 f2 H2 ∧ SRel X.K (fun a => L a ∨ a = da) f2 h2 H2 ∧ RepL X.K (fun a => L a ∨ a = da) f2 H2 acc ds ∧ lcD F (xs.drop i) ds h2 = .ok q)
    ⟨f1, h1, [], [], upd_same, lA, SA, .nil, by simpa using eq⟩ (fun i H2 _ ⟨f2, h2, _, _, _, l2, S2, _, _⟩ => hG _ f2 h2 H2 hw l2 S2) ?_ ?_
  · rintro i x H2 H3 hi ⟨f2, h2, acc, ds, eD, l2, S2, racc, e⟩ hy
    obtain ⟨d, ed, l3, S3, rd⟩ := hY _ i f2 h2 H2 x H3 hi hw l2 S2 hy
    have l13 := Le.trans S1 S2 l2 l3
    have eD3 : H3 da = some (.lst acc) := l3.keep _ _ eD fun m => S2.dis da m (.inr rfl)
    have racc3 := RepL.mono S2 l3 racc
    rw [List.drop_eq_getElem_cons hi] at e
    have ed' : xs[i] = d := by
      rw [List.getElem?_eq_getElem hi] at ed
      exact Option.some.inj ed
    rw [ed'] at e
    have slw : SlR X.K (fun a => L a ∨ a = da) f2 H3 (wipeE r own) (L2.wipe σ own) := ((sl1.wide hw).mono S1 l13).wipe own
    -- the target
    have eF : F d h2 = (setT t d (wipeE r own)).bind fun r1 => (evTs G ifs r1 h2).bind fun b => if b.1 then (evE G elt r1 b.2).bind fun y => Res.ok (some y.1, y.2) else Res.ok (none, b.2) := by rw [← hF]
    unfold lcD at e
    cases k1 : setT t d (wipeE r own) with
    | no => rw [eF, k1] at e; cases e
    | exc c ys h' => rw [eF, k1] at e; cases e
    | ok r1 =>
      rw [k1] at eF
      simp only [Res.bind_ok] at eF
      refine ⟨_, f2, h2, wipeE r own, r1, d, S3, slw, rd, k1, fun σ2 sl2 hw2 => ⟨by rw [hw2 own ht, wipe_wipe], ?_⟩⟩
      cases k2 : evTs G ifs r1 h2 with
      | no => rw [eF, k2] at e; cases e
      | exc c ys h' => rw [eF, k2] at e; cases e
      | ok b =>
        rw [k2] at eF
        simp only [Res.bind_ok] at eF
        refine ⟨_, f2, r1, h2, S3, sl2, ?_⟩
        rw [k2]
        intro f4 H4 l4 S4
        have l14 := Le.trans S1 S3 l13 l4
        have eD4 : H4 da = some (.lst acc) := l4.keep _ _ eD3 fun m => S3.dis da m (.inr rfl)
        have racc4 := RepL.mono S3 l4 racc3
        cases hb : b.1 with
        | false =>
          rw [hb] at eF
          refine iteF ?_
          rw [eF] at e
          exact ⟨f4, b.2, acc, ds, eD4, l14, S4, racc4, e⟩
        | true =>
          rw [hb] at eF
          refine iteT ?_
          simp only [if_true] at eF
          cases k3 : evE G elt r1 b.2 with
          | no => rw [eF, k3] at e; cases e
          | exc c ys h' => rw [eF, k3] at e; cases e
          | ok y =>
            rw [k3] at eF
            simp only [Res.bind_ok] at eF
            rw [eF] at e
            simp only at e
            refine ⟨_, f4, r1, b.2, S4, sl2.mono S3 l4, ?_⟩
            rw [k3]
            intro f5 H5 l5 S5 w rw'
            have l15 := Le.trans S1 S4 l14 l5
            have eD5 : H5 da = some (.lst acc) := l5.keep _ _ eD4 fun m => S4.dis da m (.inr rfl)
            have racc5 := RepL.mono S4 l5 racc4
            split at e
            · rename_i hlt
              have ha : acc.length < sizeLine := by
                rw [racc5.length, sizeLine_eq]
                exact hlt
              refine ⟨acc, eD5, ha, f5, y.2, acc ++ [w], ds ++ [y.1], upd_same, ⟨l15.pre, fun a o ea na => ?_⟩, S5.poke (.inr rfl) eD5, RepL.poke (.inr rfl) eD5 (racc5.append (.cons rw' .nil)), e⟩
              rw [upd_ne (fun z => by rw [z, hD] at ea; cases ea)]
              exact l15.keep a o ea na
            · cases e
  · rintro H2 ⟨f2, h2, acc, ds, eD, l2, S2, racc, e⟩
    rw [List.drop_length] at e
    simp only [lcD] at e
    cases e
    have p2 : PostR X.K L f1 H1 ca (fun c d H' => W c d σ H') (if new then Res.ok (D.ref h2.length, h2 ++ [D.lst ds]) else Res.ok (D.lst ds, h2)) fun d f' _ H' => ∀ v, Rep X.K L f' H' v d → Q v H' := by
      have p1' : PostR X.K L f1 H1 ca (fun c d H' => W c d σ H') ((lcD F xs [] h1).bind fun q => if new then Res.ok (D.ref q.2.length, q.2 ++ [D.lst q.1]) else Res.ok (D.lst q.1, q.2)) fun d f' _ H' => ∀ v, Rep X.K L f' H' v d → Q v H' := p1
      rw [eq] at p1'
      exact p1'
    have nf2 : da ∉ f2 := fun m => S2.dis da m (.inr rfl)
    cases new with
    | false => exact p2 f2 H2 l2 (S2.narrow fun a x => .inl x) _ (.lst eD nL nf2 (RepL.narrow (fun a x => .inl x) racc))
    | true =>
      refine p2 (f2 ++ [da]) H2 ⟨?_, l2.keep⟩ (S2.adopt nL eD racc) _ (.ref ?_)
      · obtain ⟨g, eg, hg⟩ := l2.pre
        refine ⟨g ++ [da], by rw [eg, List.append_assoc], fun a ha => ?_⟩
        rcases List.mem_append.mp ha with ha | ha
        · exact hg a ha
        · rw [List.mem_singleton.mp ha]
          exact hD
      · rw [← S2.len]
        simp
end
end Z9

set_option Elab.async false
set_option linter.all false
set_option maxRecDepth 100000
set_option maxHeartbeats 16000000
/-! E10: the evaluation of every form. -/
namespace Z9
open PySem PySem.Spec PyProof.Rows L2

section
variable {K : PySem.W.Frag} {L L0 : Addr → Prop} {f f' : List Addr} {h : Hh} {H H' : Hp}
theorem SqT_mono (S : SRel K L0 f h H) (l : Le f H f' H') {a : Addr} {vs : List V} (hs : SqT K H a vs) : SqT K H' a vs := by
  rcases hs with (e | ⟨o, e⟩) | k
  · refine .inl (.inl (l.keep _ _ e fun hm => ?_))
    obtain ⟨ws, e2⟩ := S.at hm
    rw [e] at e2
    cases e2
  · refine .inl (.inr ⟨o, l.keep _ _ e fun hm => ?_⟩)
    obtain ⟨ws, e2⟩ := S.at hm
    rw [e] at e2
    cases e2
  · exact .inr k
theorem walkD_list (S : SRel K L f h H) {a : Addr} {vs : List V} {ds : List D} (ea : H a = some (.lst vs)) (nf : a ∉ f) (r : RepL K L f H vs ds) : WalkD K L f H ds (Itl K a) := by
  refine ⟨fun H2 => SqL K H2 a vs, YAt vs, by rw [← r.length]; exact walk_list, fun L1 f2 h2 H2 w l S2 => .of (l.keep _ _ ea nf), fun L1 i f2 h2 H2 x H3 hi w l S2 y => ?_⟩
  obtain ⟨rfl, ex⟩ := y
  obtain ⟨d, e1, e2⟩ := r.getV ex
  exact ⟨d, e1, .refl, S2, (e2.wide w).mono S l⟩
theorem walkD_tup (S : SRel K L f h H) {a : Addr} {vs : List V} {ds : List D} (ea : SqT K H a vs) (r : RepL K L f H vs ds) : WalkD K L f H ds (Itt K a) := by
  refine ⟨fun H2 => SqT K H2 a vs, YAt vs, by rw [← r.length]; exact walk_tup, fun L1 f2 h2 H2 w l S2 => SqT_mono S l ea, fun L1 i f2 h2 H2 x H3 hi w l S2 y => ?_⟩
  obtain ⟨rfl, ex⟩ := y
  obtain ⟨d, e1, e2⟩ := r.getV ex
  exact ⟨d, e1, .refl, S2, (e2.wide w).mono S l⟩
theorem walkD_str {s : List Nat} (o : ∀ c ∈ s, c < 0x110000) : WalkD K L f H (s.map fun c => D.str [c]) (Its ⟨s.toArray⟩) := by
  refine ⟨fun _ => True, _, by rw [List.length_map]; simpa using walk_str (z := (⟨s.toArray⟩ : Str)), fun _ _ _ _ _ _ _ => trivial, fun L1 i f2 h2 H2 x H3 hi w l S2 y => ?_⟩
  obtain ⟨rfl, c, ec, rfl⟩ := y
  have ec' : s[i]? = some c := by simpa using ec
  refine ⟨.str [c], by rw [List.getElem?_map, ec']; rfl, .refl, S2, ?_⟩
  exact .strOf (x := [c]) (fun c' hc' => by rw [List.mem_singleton.mp hc']; exact o c (List.mem_of_getElem? ec')) (by show 1 ≤ sizeLine; decide)
theorem walkD_range {lo : Int} {n : Nat} : WalkD K L f H ((List.range n).map fun i : Nat => D.int (lo + (i : Int))) (Itr lo n) := by
  refine ⟨fun _ => True, _, by rw [List.length_map, List.length_range]; exact walk_range, fun _ _ _ _ _ _ _ => trivial, fun L1 i f2 h2 H2 x H3 hi w l S2 y => ?_⟩
  obtain ⟨rfl, rfl⟩ := y
  rw [List.length_map, List.length_range] at hi
  exact ⟨.int (lo + i), by simp [hi], .refl, S2, .int _⟩
end

section
variable {C : Mc} {sc : Scope} {x : Expr} {a b w : Ex} {o o2 : CmpOp} {lo hi : Ox} {t : Ty} {es : Exs} {g : BF} {m : BM} {k : Nat} {new : Bool} {elt : Ex} {tg : Tg} {it : Z9.It} {ifs : Exs} {own : List Nat}
theorem inv_cmp2 (h : mE C sc (.cmp2 o o2 a b w) x = true) : ∃ y o' p' z u pos, x = .Compare y [o', p'] [z, u] pos ∧ (decide (o = o') && decide (o2 = p') && !lastMarks [o', p'] [z, u] && mE C sc a y && mE C sc b z && mE C sc w u) = true := by
  unfold mE at h
  split at h
  all_goals first
    | (rename_i hh; cases hh; exact ⟨_, _, _, _, _, _, rfl, h⟩)
    | (rename_i hh; cases hh; done)
    | cases h
theorem inv_isn (h : mE C sc (.isn a) x = true) : ∃ y j p pos, x = .Compare y [.Is] [.Constant .none j p] pos ∧ mE C sc a y = true := by
  unfold mE at h
  split at h
  all_goals first
    | (rename_i hh; cases hh; exact ⟨_, _, _, _, rfl, h⟩)
    | (rename_i hh; cases hh; done)
    | cases h
theorem inv_notn (h : mE C sc (.notn a) x = true) : ∃ y j p pos, x = .Compare y [.IsNot] [.Constant .none j p] pos ∧ mE C sc a y = true := by
  unfold mE at h
  split at h
  all_goals first
    | (rename_i hh; cases hh; exact ⟨_, _, _, _, rfl, h⟩)
    | (rename_i hh; cases hh; done)
    | cases h
theorem inv_sl (h : mE C sc (.sl a lo hi) x = true) : ∃ y l u p pos, x = .Subscript y (.Slice l u none p) pos ∧ (mE C sc a y && mO C sc lo l && mO C sc hi u) = true := by
  unfold mE at h
  split at h
  all_goals first
    | (rename_i hh; cases hh; exact ⟨_, _, _, _, _, rfl, h⟩)
    | (rename_i hh; cases hh; done)
    | cases h
theorem inv_isi (h : mE C sc (.isi a t) x = true) : ∃ f p y z q pos, x = .Call (.Name f p) [y, .Name z q] [] pos ∧ (glName sc f "isinstance" && glName sc z t.nm && mE C sc a y) = true := by
  unfold mE at h
  split at h
  all_goals first
    | (rename_i hh; cases hh; exact ⟨_, _, _, _, _, _, rfl, h⟩)
    | (rename_i hh; cases hh; done)
    | cases h
theorem inv_bcall (h : mE C sc (.bcall g es) x = true) : ∃ f p y ys pos, x = .Call (.Name f p) (y :: ys) [] pos ∧ (glName sc f g.nm && mEs C sc es (y :: ys)) = true := by
  unfold mE at h
  split at h
  all_goals first
    | (rename_i hh; cases hh; exact ⟨_, _, _, _, _, rfl, h⟩)
    | (rename_i hh; cases hh; done)
    | cases h
theorem inv_bmeth (h : mE C sc (.bmeth m a es) x = true) : ∃ y n p xs pos, x = .Call (.Attribute y n p) xs [] pos ∧ (noSuper y && decide (n = m.nm) && p.endLine == pos.line && mE C sc a y && mEs C sc es xs && decide (xs.length < 5)) = true := by
  unfold mE at h
  split at h
  all_goals first
    | (rename_i hh; cases hh; exact ⟨_, _, _, _, _, rfl, h⟩)
    | (rename_i hh; cases hh; done)
    | cases h
theorem inv_call (h : mE C sc (.call k es) x = true) : ∃ y p xs pos, x = .Call (.Name y p) xs [] pos ∧ (decide (C.nm[k]? = some y) && isGl sc y && okNm y && mEs C sc es xs) = true := by
  unfold mE at h
  split at h
  all_goals first
    | (rename_i hh; cases hh; exact ⟨_, _, _, _, rfl, h⟩)
    | (rename_i hh; cases hh; done)
    | cases h
theorem inv_dicc {s0 : List Nat} {i0 : Int} (h : mE C sc (.dicc s0 i0) x = true) : ∃ c1 j1 p1 c2 j2 p2 pos, x = .Dict [some (.Constant c1 j1 p1)] [.Constant c2 j2 p2] pos ∧ (okC (.str s0) c1 && okC (.int i0) c2) = true := by
  unfold mE at h
  split at h
  all_goals first
    | (rename_i hh; cases hh; exact ⟨_, _, _, _, _, _, _, rfl, h⟩)
    | (rename_i hh; cases hh; done)
    | cases h
theorem inv_fld {n : Str} (h : mE C sc (.fld a n) x = true) : ∃ y m pos, x = .Attribute y m pos ∧ (noSuper y && decide (n = m) && mE C sc a y) = true := by
  unfold mE at h
  split at h
  all_goals first
    | (rename_i hh; cases hh; exact ⟨_, _, _, rfl, h⟩)
    | (rename_i hh; cases hh; done)
    | cases h
theorem inv_isc {k : Nat} (h : mE C sc (.isc a k) x = true) : ∃ f p y z q pos, x = .Call (.Name f p) [y, .Name z q] [] pos ∧ (glName sc f "isinstance" && decide (C.nm[k]? = some z) && isGl sc z && okNm z && mE C sc a y) = true := by
  unfold mE at h
  split at h
  all_goals first
    | (rename_i hh; cases hh; exact ⟨_, _, _, _, _, _, rfl, h⟩)
    | (rename_i hh; cases hh; done)
    | cases h
theorem inv_mkx (h : mE C sc (.mkx k es) x = true) : ∃ y p xs pos, x = .Call (.Name y p) xs [] pos ∧ (decide (C.nm[k]? = some y) && isGl sc y && okNm y && mEs C sc es xs) = true := by
  unfold mE at h
  split at h
  all_goals first
    | (rename_i hh; cases hh; exact ⟨_, _, _, _, rfl, h⟩)
    | (rename_i hh; cases hh; done)
    | cases h
theorem inv_range (h : mI C sc (.range a) x = true) : ∃ f p y pos, x = .Call (.Name f p) [y] [] pos ∧ (glName sc f "range" && mE C sc a y) = true := by
  unfold mI at h
  split at h
  all_goals first
    | (rename_i hh; cases hh; exact ⟨_, _, _, _, rfl, h⟩)
    | (rename_i hh; cases hh; done)
    | cases h
theorem inv_range2 (h : mI C sc (.range2 a b) x = true) : ∃ f p y z pos, x = .Call (.Name f p) [y, z] [] pos ∧ (glName sc f "range" && mE C sc a y && mE C sc b z) = true := by
  unfold mI at h
  split at h
  all_goals first
    | (rename_i hh; cases hh; exact ⟨_, _, _, _, _, rfl, h⟩)
    | (rename_i hh; cases hh; done)
    | cases h
theorem mI_set {env : PySem.Env} (h : mI C sc it x = true) : ∀ v, foldedSetIterable x env v = pure v := by
  cases it with
  | seq e => exact not_set (by simpa [mI] using h)
  | range e => obtain ⟨f, p, y, pos, rfl, _⟩ := inv_range h; exact fun _ => rfl
  | range2 a b => obtain ⟨f, p, y, z, pos, rfl, _⟩ := inv_range2 h; exact fun _ => rfl
  | enum e => simp [mI] at h
  | zip a b => simp [mI] at h
theorem inv_lc (h : mE C sc (.lc new elt tg it ifs own) x = true) : ∃ e t2 iter fs scope pos, x = .ListComp e [⟨t2, iter, fs, 0⟩] scope pos ∧
    (tgIn tg own && blkC C.N sc scope (own.map fun i => (C.N.getD i Str.empty, i)) && own.all (fun i => decide (i < C.N.length)) && mI C sc it iter && mT C false (relS scope sc) tg t2 && decide (fs.length ≤ 1) && mEs C (relS scope sc) ifs fs && mE C (relS scope sc) elt e) = true := by
  unfold mE at h
  split at h
  all_goals first
    | (rename_i hh; cases hh; exact ⟨_, _, _, _, _, _, rfl, h⟩)
    | (rename_i hh; cases hh; done)
    | cases h
end

section
variable {nm : List Str} {ca : Nat → Value} {G : Gam} {lv : Nat} {N : List Str}

theorem and_go {X : Cx} {W : WX} {k : Bool} {e : Ex} {es : Exs} {e2 : Ex} {es2 : Exs} (he : es = .cons e2 es2) {σ : L2.St} {H : Hp} {Q : VK} {L : Addr → Prop} {f : List Addr} {r : Z9.Env} {h : Hh} (S : SRel X.K L f h H) (sl : SlR X.K L f H r σ)
    (p : PostR X.K L f H ca (fun c d H' => W c d σ H') (evA G k (.cons e es) r h) fun d f' _ H' => ∀ v, Rep X.K L f' H' v d → Q v H') :
    tE X.K ca W G e σ H fun x H1 => ∃ c, x = .bl c ∧ if c = k then (∃ (L : Addr → Prop) (f : List Addr) (r : Z9.Env) (h : Hh), SRel X.K L f h H1 ∧ SlR X.K L f H1 r σ ∧
      PostR X.K L f H1 ca (fun c d H' => W c d σ H') (evA G k es r h) fun d f' _ H' => ∀ v, Rep X.K L f' H' v d → Q v H') else Q (.bl c) H1 := by
  subst he
  unfold evA at p
  refine tE_of S sl ((p.bind S).mono fun d f1 h1 H1 l1 S1 p1 v rv => ?_)
  obtain ⟨b, eb, p2⟩ := p1.pureBind boolD_exc
  have := boolD_ok eb
  simp only at this
  subst this
  refine ⟨b, rv.blE, ?_⟩
  replace p2 : PostR X.K L f1 H1 ca (fun c d H' => W c d σ H') (if b = k then evA G k (.cons e2 es2) r h1 else Res.ok (D.bl b, h1)) fun d f' _ H' => ∀ v, Rep X.K L f' H' v d → Q v H' := p2
  by_cases hb : b = k
  · rw [if_pos hb] at p2 ⊢
    exact ⟨L, f1, r, h1, S1, sl.mono S l1, p2⟩
  · rw [if_neg hb] at p2 ⊢
    exact p2.here S1 _ (.bl _)

def BM.ty : BM → String
  | .join => "str" | .append => "list" | .pop => "list"
theorem recv_ty {K : PySem.W.Frag} {L : Addr → Prop} {f : List Addr} {h : Hh} {H : Hp} {m : BM} {d : D} {v : V} (S : SRel K L f h H) (r : Rep K L f H v d) (hr : recvD m d = true) : tyV K (BM.ty m) v H := by
  have ref : ∀ i, d = .ref i → tyV K "list" v H := by
    rintro i rfl
    cases r with
    | ref e =>
      obtain ⟨vs, e2⟩ := S.at (List.mem_of_getElem? e)
      exact .inl ⟨rfl, vs, .of e2⟩
  cases m with
  | join =>
    cases d <;> simp [recvD] at hr
    obtain ⟨rfl, _, _⟩ := r.signs
    exact rfl
  | append =>
    cases d <;> simp [recvD] at hr
    exact ref _ rfl
  | pop =>
    cases d <;> simp [recvD] at hr
    exact ref _ rfl
theorem pe_callS0 {X : Cx} {CX : CXT} {k : Nat} {f : Addr} {fd : FuncData} {ps : List Str} {sp : Sp} {E : L2.St → XK} {x : Str} {p pos : Pos} (F : FnOk X.prog X.w X.K X.mg X.base CX k f fd ps sp) (hr : Room k X.A) (hg : Gl X x) (hm : X.mg x = some (.ref f)) (hk : PySem.W.keepIn X.K (.ref f) = true) (hb : Binds X.K fd ps []) (hx : ∀ σ, PassesAt CX X σ (E σ))
    (hdb : (x == ("__debug__" : Str)) = false) : PE X (.Call (.Name x p) [] [] pos) (fun σ H Q => sp [] H Q (E σ)) := by
  refine ⟨fun pins s σ H Q I h => ?_⟩
  refine wpAny_Call_Name_kw (ld_glob I hg hm ?_ hdb)
  exact PySem.W.callWith_K0 I.kIn hk (run_fnS (us := []) F hr hb (hx σ) I .nil h)
theorem both {X : Cx} {W : WX} {e : Ex} {x : Expr} (pe : PE X x (tE X.K ca W G e)) (hp : plainT x = true) : PE X x (tE X.K ca W G e) ∧ PT X x (tT X.K ca W G e) :=
  ⟨pe, PTm (pt_val pe (isTrue_of hp)) fun σ H Q q => tT_tE q⟩
/-- what is asked of and, or -/
def tA (K : PySem.W.Frag) (ca : Nat → Value) (W : WX) (G : Gam) (k : Bool) (es : Exs) : TE := fun σ H Q => ∃ (L : Addr → Prop) (f : List Addr) (r : Z9.Env) (h : Hh), SRel K L f h H ∧ SlR K L f H r σ ∧
  PostR K L f H ca (fun c d H' => W c d σ H') (evA G k es r h) fun d f' _ H' => ∀ v, Rep K L f' H' v d → Q v H'
def tAT (K : PySem.W.Frag) (ca : Nat → Value) (W : WX) (G : Gam) (k : Bool) (es : Exs) : TT := fun σ H Q => ∃ (L : Addr → Prop) (f : List Addr) (r : Z9.Env) (h : Hh), SRel K L f h H ∧ SlR K L f H r σ ∧
  PostR K L f H ca (fun c d H' => W c d σ H') ((evA G k es r h).bind fun p => (boolD p.1).bind fun t => .ok (t, p.2)) fun b _ _ H' => Q b H'
theorem pt_ifExp {X : Cx} {c a b : Expr} {tc ta tb : TT} {pos : Pos} (hc : PT X c tc) (ha : PT X a ta) (hb : PT X b tb) : PT X (.IfExp c a b pos) (fun σ H Q => tc σ H fun k H1 => if k = true then ta σ H1 Q else tb σ H1 Q) := by
  refine ⟨fun pins s σ H Q I h => ?_⟩
  refine isTrue_IfExp (thn (hc.run pins s σ H _ I h) fun d s1 ⟨H1, I1, q1⟩ => ?_)
  cases d with
  | true => exact ha.run pins s1 σ H1 Q I1 q1
  | false => exact hb.run pins s1 σ H1 Q I1 q1
theorem bind_assoc' {α β γ : Type} (x : Res α) (g : α → Res β) (k : β → Res γ) : (x.bind g).bind k = x.bind fun a => (g a).bind k := by cases x <;> rfl
theorem isiD_exc (h : Hh) (d : D) (t : Ty) : ∀ c xs h', isiD h d t ≠ .exc c xs h' := by
  intro c xs h'
  unfold isiD
  exact bindC_exc ofO_exc (by intros; simp) _ _ _

mutual
theorem soundE : ∀ (e : Ex) {x : Expr} {sc : Scope} {X : Cx} {W : WX}, COk nm ca G lv N sc X → Takes X W → mE ⟨N, nm⟩ sc e x = true → PE X x (tE X.K ca W G e) ∧ PT X x (tT X.K ca W G e)
  | .var i, x, sc, X, W, c, tk, h => by
    cases x <;> simp only [mE, Bool.and_eq_true, Bool.false_eq_true, decide_eq_true_eq] at h
    obtain ⟨⟨h1, h2⟩, h3⟩ := h
    obtain ⟨a, b, _⟩ := okNm_of h3
    suffices pe : PE X _ (tE X.K ca W G _) from both pe rfl
    refine PEm (pe_var (i := i) (by rw [c.N]; exact h1) (by rw [c.sc]; exact isLoc_vis h2) a b) fun σ H Q q => ?_
    obtain ⟨L, f, r, hh, S, sl, p⟩ := q
    unfold evE at p
    obtain ⟨d, ed, p2⟩ := p.pureBind getV_exc
    obtain ⟨v, e1, e2⟩ := sl.at_ i d (getV_ok ed)
    exact ⟨v, e1, p2.here S v e2⟩
  | .con d, x, sc, X, W, c, tk, h => by
    cases x <;> try simp only [mE, Bool.false_eq_true] at h
    suffices pe : PE X _ (tE X.K ca W G _) from both pe rfl
    rename_i k j pos
    unfold okC at h
    split at h
    · exact PEm pe_non fun σ H Q ⟨L, f, r, hh, S, sl, p⟩ => p.here S _ .non
    · rename_i a b
      have : a = b := by simpa using h
      subst this
      exact PEm pe_bl fun σ H Q ⟨L, f, r, hh, S, sl, p⟩ => p.here S _ (.bl _)
    · rename_i a b
      have : a = b := by simpa using h
      subst this
      exact PEm pe_int fun σ H Q ⟨L, f, r, hh, S, sl, p⟩ => p.here S _ (.int _)
    · rename_i a b
      simp only [Bool.and_eq_true, beq_iff_eq, decide_eq_true_eq] at h
      obtain ⟨⟨rfl, h2⟩, h3⟩ := h
      exact PEm pe_str fun σ H Q ⟨L, f, r, hh, S, sl, p⟩ => p.here S _ (.str _ h2 (by rw [sizeLine_eq]; omega))
    · cases h
  | .glob k, x, sc, X, W, c, tk, h => by
    cases x <;> simp only [mE, Bool.and_eq_true, Bool.false_eq_true, decide_eq_true_eq] at h
    obtain ⟨⟨h1, h2⟩, h3⟩ := h
    obtain ⟨a, b, _⟩ := okNm_of h3
    suffices pe : PE X _ (tE X.K ca W G _) from both pe rfl
    cases ek : G.con k with
    | none =>
      exact ⟨fun pins s σ H Q I q => by
        obtain ⟨L, f, r, hh, S, sl, p⟩ := q
        unfold evE at p
        rw [ek] at p
        exact p.elim⟩
    | some d =>
      obtain ⟨v, u, e1, e2, e3⟩ := c.gam.con k d _ ek h1
      refine PEm (pe_glob (isGl_gl c h2) e1 e2 a) fun σ H Q ⟨L, f, r, hh, S, sl, p⟩ => ?_
      unfold evE at p
      rw [ek] at p
      exact p.here S v (e3 _ _ _)
  | .dic0, x, sc, X, W, c, tk, h => by
    cases x <;> try simp only [mE, Bool.false_eq_true] at h
    suffices pe : PE X _ (tE X.K ca W G _) from both pe rfl
    rename_i ks vs pos
    cases ks <;> cases vs <;> simp only [mE, Bool.false_eq_true] at h
    refine PEm pe_dnewK fun σ H Q ⟨L, f, r, hh, S, sl, p⟩ => ?_
    intro q hq
    obtain ⟨l, S', n1, n2⟩ := S.alloc (o := .dK []) hq
    exact p f _ l S' _ (.dic (ks := []) (vs := []) upd_same rfl n1 n2 .nil)
  | .dicc s0 i0, x, sc, X, W, c, tk, h => by
    obtain ⟨c1, j1, p1, c2, j2, p2, pos, rfl, hq⟩ := inv_dicc h
    simp only [Bool.and_eq_true] at hq
    obtain ⟨h1, h2⟩ := hq
    suffices pe : PE X _ (tE X.K ca W G _) from both pe rfl
    obtain rfl : c1 = .str ⟨s0.toArray⟩ := by
      cases c1 <;> simp only [okC, Bool.false_eq_true] at h1
      simp only [Bool.and_eq_true, beq_iff_eq] at h1
      rw [h1.1.1]
    obtain rfl : c2 = .int i0 := by
      cases c2 <;> simp only [okC, Bool.false_eq_true] at h2
      simp only [beq_iff_eq] at h2
      rw [h2]
    refine PEm (pe_disp (pps_cons pe_str pe_int pps_nil) rfl rfl (by simp) (by simp)) fun σ H Q ⟨L, f, r, hh, S, sl, p⟩ => ?_
    intro q hq
    obtain ⟨l, S', n1, n2⟩ := S.alloc (o := .dK [(.inr ⟨s0.toArray⟩, .int i0)]) hq
    refine ⟨upd_same, [(.inr ⟨s0.toArray⟩, .int i0)], rfl, by simp, ?_⟩
    have : upd (upd H q (.dK [])) q (.dK (mergeK [] [(.inr ⟨s0.toArray⟩, .int i0)])) = upd H q (.dK [(.inr ⟨s0.toArray⟩, .int i0)]) := upd_upd
    rw [this]
    unfold evE at p
    exact p f _ l S' _ (.dic (ks := [s0]) (vs := [.int i0]) upd_same rfl n1 n2 (.cons (.int _) .nil))
  | .fld a n, x, sc, X, W, c, tk, h => by
    obtain ⟨y, m, pos, rfl, hq⟩ := inv_fld h
    simp only [Bool.and_eq_true, decide_eq_true_eq] at hq
    obtain ⟨⟨h1, rfl⟩, h3⟩ := hq
    suffices pe : PE X _ (tE X.K ca W G _) from both pe rfl
    refine PEm (pe_xw (soundE a c tk h3).1 (base_of h1)) fun σ H Q ⟨L, f, r, hh, S, sl, p⟩ => ?_
    unfold evE at p
    refine tE_of S sl ((p.bind S).mono fun d f1 h1 H1 l1 S1 p1 v rv => ?_)
    obtain ⟨z, ez, p2⟩ := p1.pureBind (fldD_exc _ _ _)
    replace ez : fldD G d n = .ok z := ez
    unfold fldD at ez
    split at ez
    · split at ez
      · rename_i he
        have el := ofO_ok ez
        cases rv with
        | exc e cn nl nf hz x rr =>
          obtain ⟨xf, fi⟩ := c.gam.efl _ _ _ he cn
          obtain ⟨v', lv, rv'⟩ := zip_look hz rr el
          rcases x with ⟨_, hn⟩ | ⟨dd, rfl, ed, _, _⟩
          · rw [hn] at lv
            cases lv
          · exact ⟨_, _, dd, _, v', rfl, e, ed, xf, fi, lv, p2.here S1 v' rv'⟩
      · cases ez
    · cases ez
  | .isc a k, x, sc, X, W, c, tk, h => by
    obtain ⟨fn, pp, y, z, qq, pos, rfl, hq⟩ := inv_isc h
    simp only [Bool.and_eq_true, decide_eq_true_eq] at hq
    obtain ⟨⟨⟨⟨h1, h2⟩, h3⟩, h4⟩, h5⟩ := hq
    obtain ⟨rfl, g1, g2, g3, g4⟩ := glName_of c h1 (by decide)
    obtain ⟨a1, a2, a3⟩ := okNm_of h4
    suffices pe : PE X _ (tE X.K ca W G _) from both pe rfl
    have pz : ∃ tz : TE, PE X (.Name z qq) tz ∧ ∀ c0 b C, G.esub c0 k = some b → clsNm X.K C = some c0 → ∃ v cv, tz = tC v ∧ ClsV v cv ∧ EcK X.K C ∧ PySem.W.kitOne X.K (.ref C) cv = some b := by
      by_cases hx : ∃ c0 b, G.esub c0 k = some b
      · obtain ⟨v, cv, q1, q2, q3, q4⟩ := c.gam.esub k z hx h2
        refine ⟨tC v, ?_, fun c0 b C e1 e2 => ⟨v, cv, rfl, q1, q4 c0 b C e1 e2⟩⟩
        rcases q3 with q3 | ⟨q3, q5⟩
        · exact pe_glob (isGl_gl c h3) q3 q2 a1
        · exact pe_bltn (isGl_gl c h3) q3 q5 q2 a3 a1
      · exact ⟨fun _ _ _ => False, ⟨fun _ _ _ _ _ _ z => z.elim⟩, fun c0 b C e1 _ => absurd ⟨c0, b, e1⟩ hx⟩
    obtain ⟨tz, pz, hz⟩ := pz
    refine PEm (pe_callB call_isw g1 g2 (by decide +kernel) (pa_cons (soundE a c tk h5).1 (pa_cons pz pa_nil (by rfl)) (star_cons (mE_plain h5).1)) (by decide) (by decide) (star_cons (mE_plain h5).1) (by rfl)) fun σ H Q ⟨L, f, r, hh, S, sl, p⟩ => ?_
    unfold evE at p
    refine tE_of S sl ((p.bind S).mono fun d f1 h1 H1 l1 S1 p1 v rv => ?_)
    obtain ⟨w, ew, p2⟩ := p1.pureBind (iscD_exc _ _ _)
    replace ew : iscD G d k = .ok w := ew
    unfold iscD at ew
    split at ew
    · rename_i c0 ns ds
      obtain ⟨b, eb, e3⟩ := bind_ok ew
      cases e3
      have eb := ofO_ok eb
      cases rv with
      | exc e cn nl nf hl x rr =>
        obtain ⟨cw, cv, e4, k1, k2, k3⟩ := hz _ _ _ eb cn
        subst e4
        rcases x with ⟨rfl, hn⟩ | ⟨dd, rfl, ed, _, _⟩
        · exact ⟨_, _, none, [], cw, cv, b, rfl, e, rfl, k2, k1, k3, p2.here S1 _ (.bl b)⟩
        · exact ⟨_, _, some dd, _, cw, cv, b, rfl, e, ed, k2, k1, k3, p2.here S1 _ (.bl b)⟩
    · cases ew
  | .mkx k es, x, sc, X, W, c, tk, h => by
    obtain ⟨y, pp, xs, pos, rfl, hq⟩ := inv_mkx h
    simp only [Bool.and_eq_true, decide_eq_true_eq] at hq
    obtain ⟨⟨⟨h1, h2⟩, h3⟩, h4⟩ := hq
    obtain ⟨a1, a2, a3⟩ := okNm_of h3
    have ha := soundEs es c tk h4
    suffices pe : PE X _ (tE X.K ca W G _) from both pe rfl
    cases eg : G.mkc k with
    | none =>
      exact ⟨fun pins s σ H Q I ⟨L, f, r, hh, S, sl, p⟩ => by
        unfold evE at p
        rw [eg] at p
        exact p.elim⟩
    | some m =>
      obtain ⟨cn, o⟩ := m
      have hm := c.gam.mkc k y cn o eg h1
      cases hs : mkSh o es with
      | false =>
        exact ⟨fun pins s σ H Q I ⟨L, f, r, hh, S, sl, p⟩ => by
          unfold evE at p
          rw [eg] at p
          simp only [hs, Bool.false_eq_true, if_false] at p
          exact p.elim⟩
      | true =>
        cases o with
        | none =>
          cases es with
          | cons _ _ => simp [mkSh] at hs
          | nil =>
            cases xs with
            | cons _ _ => simp [mEs] at h4
            | nil =>
              obtain ⟨C, bmB, B, nw, ii, F, q, gC, kC, b1, t1, nmc, _⟩ := hm
              refine PEm (pe_of_pmk (pmk_own0 F q gC kC (raises_own b1 t1) (isGl_gl c h2) a1)) fun σ H Q ⟨L, f, r, hh, S, sl, p⟩ => ?_
              intro q hq
              obtain ⟨l, S', n1, n2⟩ := S.alloc (o := exw q (.ref C) none) hq
              unfold evE at p
              rw [eg] at p
              simp only [hs, if_true, evEs, Res.bind_ok, mkxD] at p
              exact p f _ l S' _ (.exc upd_same nmc n1 n2 rfl (.inl ⟨rfl, rfl⟩) .nil)
        | some fl =>
          cases es with
          | nil => simp [mkSh] at hs
          | cons e0 es =>
            cases es with
            | cons _ _ => simp [mkSh] at hs
            | nil =>
              cases xs with
              | nil => simp [mEs] at h4
              | cons x0 xs =>
                cases xs with
                | cons _ _ => simp [mEs] at h4
                | nil =>
                  obtain ⟨hlv, C, fI, fd, ps, oex, fi, ti, Fi, bi, gC, nmc, _⟩ := hm
                  have hr : Room 2 X.A := c.room.mono hlv
                  simp only [mEs, Bool.and_eq_true] at h4
                  refine PEm (pe_of_pmk (pmk_oex (CX := L2.CX X.prog X.w) oex fi ti Fi hr bi .nil (fun _ _ _ _ _ _ _ z => by
                    obtain ⟨_, _, _, _, _, _, _, _, _, _, _, _, z⟩ := z
                    exact z.elim) (isGl_gl c h2) gC ha a1 (star_cons (mE_plain h4.1).1) rfl)) fun σ H Q ⟨L, f, r, hh, S, sl, p⟩ => ?_
                  unfold evE at p
                  rw [eg] at p
                  simp only [hs, if_true] at p
                  refine ⟨L, f, r, hh, S, sl, (p.bind S).mono fun ds f1 h1 H1 l1 S1 p1 vs rv => ?_⟩
                  obtain ⟨z, ez, p2⟩ := p1.pureBind (mkxD_exc _ _)
                  obtain ⟨x1, rfl⟩ : ∃ x1, ds = [x1] := by
                    replace ez : mkxD (cn, some fl) ds = .ok z := ez
                    cases ds with
                    | nil => simp [mkxD] at ez
                    | cons x1 ds =>
                      cases ds with
                      | nil => exact ⟨_, rfl⟩
                      | cons _ _ => simp [mkxD] at ez
                  cases ez
                  cases rv with
                  | @cons v vs _ _ rv rvs =>
                    cases rvs
                    refine ⟨by simp, fun a ha => ⟨a, v, rfl, upd_same, fun d hd hne => ⟨rfl, d, [(fl, v)], upd_same, (upd_ne hne).trans upd_same, ?_, fun a2 ha2 => ?_⟩⟩⟩
                    · rw [upd_ne hne] at hd
                      exact hd
                    · have hd' : H1 d = none := by
                        rw [upd_ne hne] at hd
                        exact hd
                      have heq : upd (del (upd (upd (upd H1 a (exo a C none)) d (exd d [(fl, v)])) a (exo a C (some d))) a) d (.xd [(fl, v)]) = upd H1 d (.xd [(fl, v)]) := by
                        funext b
                        by_cases z1 : b = d
                        · rw [z1, upd_same, upd_same]
                        · rw [upd_ne z1, upd_ne z1]
                          by_cases z2 : b = a
                          · rw [z2, del_same, ha]
                          · rw [del_ne z2, upd_ne z2, upd_ne z1, upd_ne z2]
                      rw [heq] at ha2 ⊢
                      obtain ⟨l2, S2, m1, m2⟩ := S1.alloc (o := .xd [(fl, v)]) hd'
                      obtain ⟨l3, S3, n1, n2⟩ := S2.alloc (o := exw a2 (.ref C) (some d)) ha2
                      have hda : d ≠ a2 := fun z => by rw [← z, upd_same] at ha2; cases ha2
                      exact p2 f1 _ (Le.trans S1 S2 l2 l3) S3 _ (.exc upd_same nmc n1 n2 rfl (.inr ⟨d, rfl, (upd_ne hda).trans upd_same, m1, m2⟩) (.cons ((rv.mono S1 l2).mono S2 l3) .nil))
  | .tup es, x, sc, X, W, c, tk, h => by
    cases x <;> try simp only [mE, Bool.false_eq_true] at h
    suffices pe : PE X _ (tE X.K ca W G _) from both pe rfl
    refine PEm (pe_tup (soundEs es c tk h)) fun σ H Q ⟨L, f, r, hh, S, sl, p⟩ => ?_
    unfold evE at p
    refine ⟨L, f, r, hh, S, sl, (p.bind S).mono fun ds f1 h1 H1 l1 S1 p1 vs rv => ?_⟩
    obtain ⟨z, ez, p2⟩ : ∃ z, ofB (okN ds.length) (D.tup ds, h1) = .ok z ∧ PostR X.K L f1 H1 ca (fun c d H' => W c d σ H') (.ok z) fun d f' _ H' => ∀ v, Rep X.K L f' H' v d → Q v H' := by
      have := p1
      cases ez : ofB (okN ds.length) (D.tup ds, h1) with
      | ok z => exact ⟨z, rfl, by simpa only [ez] using this⟩
      | exc c xs h' => exact absurd ez (ofB_exc _ _ _)
      | no => simp only [ez] at this; exact this.elim
    obtain ⟨hc, rfl⟩ := ofB_ok ez
    refine ⟨by rw [rv.length]; exact of_decide_eq_true hc, fun q hq => ?_⟩
    exact fin_tup S1 rv (fun H' v l S' r' => p2 f1 H' l S' v r') hq
  | .lst es, x, sc, X, W, c, tk, h => by
    cases x <;> try simp only [mE, Bool.false_eq_true] at h
    suffices pe : PE X _ (tE X.K ca W G _) from both pe rfl
    refine PEm (pe_lst (soundEs es c tk h)) fun σ H Q ⟨L, f, r, hh, S, sl, p⟩ => ?_
    unfold evE at p
    refine ⟨L, f, r, hh, S, sl, (p.bind S).mono fun ds f1 h1 H1 l1 S1 p1 vs rv => ?_⟩
    obtain ⟨z, ez, p2⟩ : ∃ z, ofB (okN ds.length) (D.lst ds, h1) = .ok z ∧ PostR X.K L f1 H1 ca (fun c d H' => W c d σ H') (.ok z) fun d f' _ H' => ∀ v, Rep X.K L f' H' v d → Q v H' := by
      have := p1
      cases ez : ofB (okN ds.length) (D.lst ds, h1) with
      | ok z => exact ⟨z, rfl, by simpa only [ez] using this⟩
      | exc c xs h' => exact absurd ez (ofB_exc _ _ _)
      | no => simp only [ez] at this; exact this.elim
    obtain ⟨hc, rfl⟩ := ofB_ok ez
    refine ⟨by rw [rv.length]; exact of_decide_eq_true hc, fun q hq => ?_⟩
    obtain ⟨l, S', n1, n2⟩ := S1.alloc (o := .lst vs) hq
    exact p2 f1 _ l S' _ (.lst upd_same n1 n2 (RepL.mono S1 l rv))
  | .newl es, x, sc, X, W, c, tk, h => by
    cases x <;> try simp only [mE, Bool.false_eq_true] at h
    suffices pe : PE X _ (tE X.K ca W G _) from both pe rfl
    refine PEm (pe_lst (soundEs es c tk h)) fun σ H Q ⟨L, f, r, hh, S, sl, p⟩ => ?_
    unfold evE at p
    refine ⟨L, f, r, hh, S, sl, (p.bind S).mono fun ds f1 h1 H1 l1 S1 p1 vs rv => ?_⟩
    obtain ⟨z, ez, p2⟩ : ∃ z, ofB (okN ds.length) (D.ref h1.length, h1 ++ [D.lst ds]) = .ok z ∧ PostR X.K L f1 H1 ca (fun c d H' => W c d σ H') (.ok z) fun d f' _ H' => ∀ v, Rep X.K L f' H' v d → Q v H' := by
      have := p1
      cases ez : ofB (okN ds.length) (D.ref h1.length, h1 ++ [D.lst ds]) with
      | ok z => exact ⟨z, rfl, by simpa only [ez] using this⟩
      | exc c xs h' => exact absurd ez (ofB_exc _ _ _)
      | no => simp only [ez] at this; exact this.elim
    obtain ⟨hc, rfl⟩ := ofB_ok ez
    refine ⟨by rw [rv.length]; exact of_decide_eq_true hc, fun q hq => ?_⟩
    obtain ⟨l, S'⟩ := S1.push hq rv
    refine p2 _ _ l S' _ (.ref ?_)
    rw [← S1.len]
    simp
  | .bin o a b, x, sc, X, W, c, tk, h => by
    cases x <;> simp only [mE, Bool.and_eq_true, Bool.false_eq_true, decide_eq_true_eq] at h
    obtain ⟨⟨rfl, h1⟩, h2⟩ := h
    suffices pe : PE X _ (tE X.K ca W G _) from both pe rfl
    refine PEm (pe_op (op_binD o) (soundE a c tk h1).1 (soundE b c tk h2).1) fun σ H Q ⟨L, f, r, hh, S, sl, p⟩ => ?_
    unfold evE at p
    exact bin_go (binD_exc o) S sl p
  | .neg a, x, sc, X, W, c, tk, h => by
    cases x <;> try simp only [mE, Bool.false_eq_true] at h
    rename_i o y pos
    cases o <;> try simp only [mE, Bool.false_eq_true] at h
    suffices pe : PE X _ (tE X.K ca W G _) from both pe rfl
    refine PEm (pe_un un_neg (soundE a c tk h).1) fun σ H Q ⟨L, f, r, hh, S, sl, p⟩ => ?_
    unfold evE at p
    refine tE_of S sl ((p.bind S).mono fun d f1 h1 H1 l1 S1 p1 v rv => ?_)
    cases d <;> simp only at p1 <;> try exact p1.elim
    exact ⟨_, rv.intE, p1.here S1 _ (.int _)⟩
  | .cmp o a b, x, sc, X, W, c, tk, h => by
    cases x <;> try simp only [mE, Bool.false_eq_true] at h
    rename_i x1 os ys pos
    cases os with
    | nil => simp [mE] at h
    | cons o1 os =>
      cases os with
      | cons _ _ => simp [mE] at h
      | nil =>
        cases ys with
        | nil => simp [mE] at h
        | cons y ys =>
          cases ys with
          | cons _ _ => simp [mE] at h
          | nil =>
            simp only [mE, Bool.and_eq_true, decide_eq_true_eq, Bool.not_eq_true'] at h
            obtain ⟨⟨⟨rfl, h0⟩, h1⟩, h2⟩ := h
            have go : ∀ σ H Q, tE X.K ca W G (.cmp o a b) σ H Q → tOp (rD X.K fun x y _ => cmpD o x y) (tE X.K ca W G a) (tE X.K ca W G b) σ H Q := fun σ H Q ⟨L, f, r, hh, S, sl, p⟩ => by
              unfold evE at p
              exact bin_go (cmpD_exc o) S sl p
            exact ⟨PEm (pe_cmpR (op_cmpD c.hu o) (soundE a c tk h1).1 (soundE b c tk h2).1 h0) go, PTm (pt_cmpR (op_cmpD c.hu o) (soundE a c tk h1).1 (soundE b c tk h2).1 h0) fun σ H Q q => go _ _ _ (tT_tE q)⟩
  | .cmp2 o o2 a b w, x, sc, X, W, c, tk, h => by
    obtain ⟨x1, o1, o3, y1, y2, pos, rfl, hq⟩ := inv_cmp2 h
    simp only [Bool.and_eq_true, decide_eq_true_eq, Bool.not_eq_true'] at hq
    obtain ⟨⟨⟨⟨⟨rfl, rfl⟩, h0⟩, h1⟩, h2⟩, h3⟩ := hq
    have go : ∀ σ H Q, tE X.K ca W G (.cmp2 o o2 a b w) σ H Q → tChain (rD X.K fun x y _ => cmpD o x y) (rD X.K fun x y _ => cmpD o2 x y) (tE X.K ca W G a) (tE X.K ca W G b) (tE X.K ca W G w) σ H Q := fun σ H Q ⟨L, f, r, hh, S, sl, p⟩ => by
      unfold evE at p
      refine tE_of S sl ((p.bind S).mono fun d f1 h1 H1 l1 S1 p1 v rv => ?_)
      refine tE_of S1 (sl.mono S l1) ((p1.bind S1).mono fun e f2 h2 H2 l2 S2 p2 u ru => ?_)
      obtain ⟨z, ez, p3⟩ := p2.pureBind (cmpD_exc o _ _ h2)
      obtain ⟨b, eb, p4⟩ := p3.pureBind boolD_exc
      have ez : cmpD o d e = .ok z := ez
      have := boolD_ok eb
      subst this
      refine ⟨L, f2, h2, d, e, S2, rv.mono S1 l2, ru, ?_⟩
      simp only [ez]
      intro H3 v3 l3 S3 r3
      refine ⟨b, r3.blE, ?_⟩
      cases b with
      | false =>
        refine iteF ?_
        exact p4 f2 H3 l3 S3 _ (.bl _)
      | true =>
        refine iteT ?_
        simp only [if_true] at p4
        have p5 : PostR X.K L f2 H2 ca (fun c d H' => W c d σ H') ((evE G w r h2).bind fun w => (cmpD o2 e w.1).bind fun e => .ok (e, w.2)) fun d f' _ H' => ∀ v, Rep X.K L f' H' v d → Q v H' := p4
        have p6 : PostR X.K L f2 H3 ca (fun c d H' => W c d σ H') ((evE G w r h2).bind fun w => (cmpD o2 e w.1).bind fun e => .ok (e, w.2)) fun d f' _ H' => ∀ v, Rep X.K L f' H' v d → Q v H' := p5.later S2 S3 l3
        refine tE_of S3 (((sl.mono S l1).mono S1 l2).mono S2 l3) ((p6.bind S3).mono fun e4 f4 h4 H4 l4 S4 p7 u4 r4 => ?_)
        obtain ⟨z4, ez4, p8⟩ := p7.pureBind (cmpD_exc o2 _ _ h4)
        have ez4 : cmpD o2 e e4 = .ok z4 := ez4
        refine ⟨L, f4, h4, e, e4, S4, (ru.mono S2 l3).mono S3 l4, r4, ?_⟩
        simp only [ez4]
        exact fun H5 v5 l5 S5 r5 => p8 f4 H5 l5 S5 v5 r5
    exact ⟨PEm (pe_chain (op_cmpD c.hu o) (op_cmpD c.hu o2) (soundE a c tk h1).1 (soundE b c tk h2).1 (soundE w c tk h3).1 h0) go,
      PTm (pt_chain (op_cmpD c.hu o) (op_cmpD c.hu o2) (soundE a c tk h1).1 (soundE b c tk h2).1 (soundE w c tk h3).1 h0) fun σ H Q q => go _ _ _ (tT_tE q)⟩
  | .isn a, x, sc, X, W, c, tk, h => by
    obtain ⟨y, j, pp, pos, rfl, hq⟩ := inv_isn h
    have go : ∀ σ H Q, tE X.K ca W G (.isn a) σ H Q → tIsN (tE X.K ca W G a) σ H Q := fun σ H Q ⟨L, f, r, hh, S, sl, p⟩ => by
      unfold evE at p
      refine tE_of S sl ((p.bind S).mono fun d f1 h1 H1 l1 S1 p1 v rv => ?_)
      cases rv <;> exact p1.here S1 _ (.bl _)
    exact ⟨PEm (pe_cmp (pc_isN (soundE a c tk hq).1)) go, PTm (pt_cmp (pc_isN (soundE a c tk hq).1)) fun σ H Q q => go _ _ _ (tT_tE q)⟩
  | .notn a, x, sc, X, W, c, tk, h => by
    obtain ⟨y, j, pp, pos, rfl, hq⟩ := inv_notn h
    have go : ∀ σ H Q, tE X.K ca W G (.notn a) σ H Q → tNotN (tE X.K ca W G a) σ H Q := fun σ H Q ⟨L, f, r, hh, S, sl, p⟩ => by
      unfold evE at p
      refine tE_of S sl ((p.bind S).mono fun d f1 h1 H1 l1 S1 p1 v rv => ?_)
      cases rv <;> exact p1.here S1 _ (.bl _)
    exact ⟨PEm (pe_cmp (pc_notN (soundE a c tk hq).1)) go, PTm (pt_cmp (pc_notN (soundE a c tk hq).1)) fun σ H Q q => go _ _ _ (tT_tE q)⟩
  | .and es, x, sc, X, W, c, tk, h => by
    cases x <;> try simp only [mE, Bool.false_eq_true] at h
    rename_i o xs pos
    cases o <;> try simp only [mE, Bool.false_eq_true] at h
    have sa := soundA true es c tk h
    refine ⟨PEm (sa.1 pos) fun σ H Q ⟨L, f, r, hh, S, sl, p⟩ => ?_, PTm (sa.2 pos).pt fun σ H Q ⟨L, f, r, hh, S, sl, p⟩ => ?_⟩
    · unfold evE at p
      exact ⟨L, f, r, hh, S, sl, p⟩
    · unfold evE at p
      exact ⟨L, f, r, hh, S, sl, p⟩
  | .or es, x, sc, X, W, c, tk, h => by
    cases x <;> try simp only [mE, Bool.false_eq_true] at h
    rename_i o xs pos
    cases o <;> try simp only [mE, Bool.false_eq_true] at h
    have sa := soundA false es c tk h
    refine ⟨PEm (sa.1 pos) fun σ H Q ⟨L, f, r, hh, S, sl, p⟩ => ?_, PTm (sa.2 pos).pt fun σ H Q ⟨L, f, r, hh, S, sl, p⟩ => ?_⟩
    · unfold evE at p
      exact ⟨L, f, r, hh, S, sl, p⟩
    · unfold evE at p
      exact ⟨L, f, r, hh, S, sl, p⟩
  | .not a, x, sc, X, W, c, tk, h => by
    cases x <;> try simp only [mE, Bool.false_eq_true] at h
    rename_i o y pos
    cases o <;> try simp only [mE, Bool.false_eq_true] at h
    refine ⟨PEm (pe_not (soundE a c tk h).1) fun σ H Q ⟨L, f, r, hh, S, sl, p⟩ => ?_, PTm (pt_not (soundE a c tk h).2) fun σ H Q ⟨L, f, r, hh, S, sl, p⟩ => ?_⟩
    · unfold evE at p
      refine tE_of S sl ((p.bind S).mono fun d f1 h1 H1 l1 S1 p1 v rv => ?_)
      obtain ⟨b, eb, p2⟩ := p1.pureBind boolD_exc
      have := boolD_ok eb
      simp only at this
      subst this
      exact ⟨b, rv.blE, p2.here S1 _ (.bl _)⟩
    · unfold evE at p
      refine ⟨L, f, r, hh, S, sl, ?_⟩
      cases e : evE G a r hh with
      | ok q =>
        rw [e] at p
        simp only [Res.bind_ok] at p ⊢
        cases e2 : boolD q.1 with
        | ok k =>
          rw [e2] at p
          exact p
        | exc c xs h' => exact absurd e2 (boolD_exc _ _ _)
        | no =>
          rw [e2] at p
          exact p.elim
      | exc c xs h' =>
        rw [e] at p
        exact p
      | no =>
        rw [e] at p
        exact p.elim
  | .ife t a b, x, sc, X, W, c, tk, h => by
    cases x <;> try simp only [mE, Bool.and_eq_true, Bool.false_eq_true] at h
    obtain ⟨⟨h1, h2⟩, h3⟩ := h
    have st := (soundE t c tk h1).2
    refine ⟨PEm (pe_ifExp st (soundE a c tk h2).1 (soundE b c tk h3).1) fun σ H Q ⟨L, f, r, hh, S, sl, p⟩ => ?_, PTm (pt_ifExp st (soundE a c tk h2).2 (soundE b c tk h3).2) fun σ H Q ⟨L, f, r, hh, S, sl, p⟩ => ?_⟩
    · unfold evE at p
      refine ⟨L, f, r, hh, S, sl, ?_⟩
      cases e : evE G t r hh with
      | ok q =>
        rw [e] at p
        simp only [Res.bind_ok] at p ⊢
        cases e2 : boolD q.1 with
        | ok k =>
          rw [e2] at p
          intro f1 H1 l1 S1
          cases k with
          | true => exact iteT ⟨L, f1, r, q.2, S1, sl.mono S l1, PostR.later S S1 l1 p⟩
          | false => exact iteF ⟨L, f1, r, q.2, S1, sl.mono S l1, PostR.later S S1 l1 p⟩
        | exc c xs h' => exact absurd e2 (boolD_exc _ _ _)
        | no =>
          rw [e2] at p
          exact p.elim
      | exc c xs h' =>
        rw [e] at p
        exact p
      | no =>
        rw [e] at p
        exact p.elim
    · unfold evE at p
      refine ⟨L, f, r, hh, S, sl, ?_⟩
      cases e : evE G t r hh with
      | ok q =>
        rw [e] at p
        simp only [Res.bind_ok] at p ⊢
        cases e2 : boolD q.1 with
        | ok k =>
          rw [e2] at p
          intro f1 H1 l1 S1
          cases k with
          | true => exact iteT ⟨L, f1, r, q.2, S1, sl.mono S l1, PostR.later S S1 l1 p⟩
          | false => exact iteF ⟨L, f1, r, q.2, S1, sl.mono S l1, PostR.later S S1 l1 p⟩
        | exc c xs h' => exact absurd e2 (boolD_exc _ _ _)
        | no =>
          rw [e2] at p
          exact p.elim
      | exc c xs h' =>
        rw [e] at p
        exact p
      | no =>
        rw [e] at p
        exact p.elim
  | .ix a i, x, sc, X, W, c, tk, h => by
    cases x <;> try simp only [mE, Bool.and_eq_true, Bool.false_eq_true] at h
    obtain ⟨⟨h0, h1⟩, h2⟩ := h
    suffices pe : PE X _ (tE X.K ca W G _) from both pe rfl
    refine PEm (pe_ix ix_D (soundE a c tk h1).1 (soundE i c tk h2).1 (plain_ix h0)) fun σ H Q ⟨L, f, r, hh, S, sl, p⟩ => ?_
    unfold evE at p
    exact bin_go ixD_exc S sl p
  | .sl a lo hi, x, sc, X, W, c, tk, h => by
    obtain ⟨y, l, u, pp, pos, rfl, hq⟩ := inv_sl h
    simp only [Bool.and_eq_true] at hq
    obtain ⟨⟨h1, h2⟩, h3⟩ := hq
    suffices pe : PE X _ (tE X.K ca W G _) from both pe rfl
    refine PEm (pe_slice sl_D (soundE a c tk h1).1 (soundO lo c tk h2) (soundO hi c tk h3)) fun σ H Q ⟨L, f, r, hh, S, sl, p⟩ => ?_
    unfold evE at p
    refine tE_of S sl ((p.bind S).mono fun d f1 h1 H1 l1 S1 p1 v rv => ?_)
    refine ⟨L, f1, r, h1, S1, sl.mono S l1, (p1.bind S1).mono fun o f2 h2 H2 l2 S2 p2 => ?_⟩
    refine ⟨L, f2, r, h2, S2, (sl.mono S l1).mono S1 l2, (p2.bind S2).mono fun o2 f3 h3 H3 l3 S3 p3 => ?_⟩
    obtain ⟨z, ez, p4⟩ := p3.pureBind (slD_exc _ _ _ _)
    refine ⟨L, f3, h3, d, S3, (rv.mono S1 l2).mono S2 l3, ?_⟩
    have ez : slD h3 d o o2 = .ok z := ez
    simp only [ez]
    exact fun H' v l S' rv => p4 f3 H' l S' v rv
  | .isi a t, x, sc, X, W, c, tk, h => by
    obtain ⟨fn, pp, y, z, qq, pos, rfl, hq⟩ := inv_isi h
    simp only [Bool.and_eq_true] at hq
    obtain ⟨⟨h1, h2⟩, h3⟩ := hq
    obtain ⟨rfl, g1, g2, g3, g4⟩ := glName_of c h1 (by decide)
    obtain ⟨rfl, k1, k2, k3, k4⟩ := glName_of c h2 (by cases t <;> decide)
    suffices pe : PE X _ (tE X.K ca W G _) from both pe rfl
    have pt : PE X (.Name t.nm qq) (tC (.ty t.name)) := pe_bltn k1 k2 (by cases t <;> decide +kernel) rfl k4 k3
    refine PEm (pe_callB (c_isi t) g1 g2 (by decide +kernel) (pa_cons (soundE a c tk h3).1 (pa_cons pt pa_nil (by rfl)) (star_cons (mE_plain h3).1)) (by decide) (by decide) (star_cons (mE_plain h3).1) (by rfl)) fun σ H Q ⟨L, f, r, hh, S, sl, p⟩ => ?_
    unfold evE at p
    refine tE_of S sl ((p.bind S).mono fun d f1 h1 H1 l1 S1 p1 v rv => ?_)
    obtain ⟨z, ez, p2⟩ := p1.pureBind (isiD_exc _ _ _)
    refine ⟨v, rfl, L, f1, h1, [d], S1, .cons rv .nil, ?_⟩
    have ez : isiD h1 d t = .ok z := ez
    simp only [ez]
    exact fun H' v l S' rv => p2 f1 H' l S' v rv
  | .bcall g es, x, sc, X, W, c, tk, h => by
    obtain ⟨fn, pp, y, ys, pos, rfl, hq⟩ := inv_bcall h
    simp only [Bool.and_eq_true] at hq
    obtain ⟨h1, h2⟩ := hq
    have ha := soundEs es c tk h2
    obtain ⟨rfl, g1, g2, g3, g4⟩ := glName_of c h1 (by cases g <;> decide)
    suffices pe : PE X _ (tE X.K ca W G _) from both pe rfl
    have hst : starEach (y :: ys) X.env = (false, eval y X.env) :: starEach ys X.env := by
      cases es with
      | nil => simp [mEs] at h2
      | cons e es =>
        simp only [mEs, Bool.and_eq_true] at h2
        exact star_cons (mE_plain h2.1).1
    have hpl : (backTo pos (starEach ys X.env)).any (·.1) = false := by
      cases es with
      | nil => simp [mEs] at h2
      | cons e es =>
        simp only [mEs, Bool.and_eq_true] at h2
        exact mEs_star h2.2 pos
    have go : ∀ σ H Q, tE X.K ca W G (.bcall g es) σ H Q → tCB (rB X.K (bcallD g)) (tEs X.K ca W G es) σ H Q := fun σ H Q ⟨L, f, r, hh, S, sl, p⟩ => by
      unfold evE at p
      refine ⟨L, f, r, hh, S, sl, (p.bind S).mono fun ds f1 h1 H1 l1 S1 p1 vs rv => ?_⟩
      obtain ⟨z, ez, p2⟩ := p1.pureBind (bcallD_exc _ _ _)
      refine ⟨L, f1, h1, ds, S1, rv, ?_⟩
      have ez : bcallD g ds h1 = .ok z := ez
      simp only [ez]
      exact fun H' v l S' rv => p2 f1 H' l S' v rv
    cases g with
    | len => exact PEm (pe_callB c_len g1 g2 (by decide +kernel) ha g4 g3 hst hpl) go
    | abs => exact PEm (pe_callB c_abs g1 g2 (by decide +kernel) ha g4 g3 hst hpl) go
    | int => exact PEm (pe_callTy c_int g1 g2 (by decide +kernel) ha g4 g3 hst hpl) go
    | sum => exact PEm (pe_callB (c_sum c.calm) g1 g2 (by decide +kernel) ha g4 g3 hst hpl) go
    | all => exact PEm (pe_callB (c_all c.calm) g1 g2 (by decide +kernel) ha g4 g3 hst hpl) go
    | any => exact PEm (pe_callB (c_any c.calm) g1 g2 (by decide +kernel) ha g4 g3 hst hpl) go
  | .bmeth m a es, x, sc, X, W, c, tk, h => by
    obtain ⟨y, n, pp, xs, pos, rfl, hq⟩ := inv_bmeth h
    simp only [Bool.and_eq_true, decide_eq_true_eq] at hq
    obtain ⟨⟨⟨⟨⟨h1, rfl⟩, h3⟩, h4⟩, h5⟩, h6⟩ := hq
    have pa := (soundE a c tk h4).1
    have ha := soundEs es c tk h5
    suffices pe : PE X _ (tE X.K ca W G _) from both pe rfl
    have go : ∀ σ H Q, tE X.K ca W G (.bmeth m a es) σ H Q → tE X.K ca W G a σ H fun x H1 => tyV X.K (BM.ty m) x H1 ∧ tEs X.K ca W G es σ H1 fun vs H2 => rM X.K (bmethD m) x vs H2 Q := fun σ H Q ⟨L, f, r, hh, S, sl, p⟩ => by
      unfold evE at p
      refine tE_of S sl ((p.bind S).mono fun d f1 h1 H1 l1 S1 p1 v rv => ?_)
      cases hr : recvD m d with
      | false =>
        simp only [hr] at p1
        exact p1.elim
      | true =>
        simp only [hr, if_true] at p1
        refine ⟨recv_ty S1 rv hr, L, f1, r, h1, S1, sl.mono S l1, (p1.bind S1).mono fun ds f2 h2 H2 l2 S2 p2 vs rvs => ⟨L, f2, h2, d, ds, S2, rv.mono S1 l2, rvs, ?_⟩⟩
        have p3 : PostR X.K L f2 H2 ca (fun c d H' => W c d σ H') (bmethD m d ds h2) fun d f' _ H' => ∀ v, Rep X.K L f' H' v d → Q v H' := p2
        cases ez : bmethD m d ds h2 with
        | ok z =>
          rw [ez] at p3
          exact fun f' H' v l S' rv => p3 f' H' l S' v rv
        | exc c xs h' => exact absurd ez (bmethD_exc _ _ _ _ _ _ _)
        | no =>
          rw [ez] at p3
          exact p3.elim
    have hl : (pp.endLine == pos.line) = true := h3
    cases es with
    | nil =>
      cases xs with
      | cons _ _ => simp [mEs] at h5
      | nil =>
        have go0 : ∀ σ H Q, tE X.K ca W G (.bmeth m a .nil) σ H Q → tBM0 X.K (BM.ty m) (rM X.K (bmethD m)) (tE X.K ca W G a) σ H Q := fun σ H Q q => by
          obtain ⟨L, f, r, hh, S, sl, p⟩ := go σ H Q q
          refine tE_of S sl (p.mono fun d f1 h1 H1 l1 S1 k v rv => ?_)
          obtain ⟨k1, L2, f2, r2, h2, S2, sl2, p2⟩ := k v rv
          exact ⟨k1, p2.here S2 [] .nil⟩
        cases m with
        | join => exact PEm (pe_bm0 PySem.F.plainAttrs_str PySem.F.slot_str_join PySem.F.type_str_join m_join pa (base_of h1) hl) go0
        | append => exact PEm (pe_bm0 PySem.F.plainAttrs_list PySem.F.slot_list_append PySem.F.type_list_append m_append pa (base_of h1) hl) go0
        | pop => exact PEm (pe_bm0 PySem.F.plainAttrs_list PySem.F.slot_list_pop PySem.F.type_list_pop m_pop pa (base_of h1) hl) go0
    | cons e es =>
      cases xs with
      | nil => simp [mEs] at h5
      | cons x xs =>
        have hall := few_of (env := X.env) (pos := pos) h5
        have hfew : ((backTo pos (starEach (x :: xs) X.env)).all (fun x => !x.1) && (backToKw pos (keywordEach [] X.env)).all (fun x => x.1.isSome)
            && decide ((x :: xs).length + ([] : List Keyword).length + (if ([] : List Keyword).isEmpty then 0 else 1) < 30)) = true := by
          rw [hall]
          simp only [List.length_cons] at h6
          simp [backToKw, keywordEach]
          omega
        simp only [mEs, Bool.and_eq_true] at h5
        have hs := star_cons (xs := xs) (env := X.env) (mE_plain h5.1).1
        have hp := mEs_star (env := X.env) h5.2 pos
        cases m with
        | join => exact PEm (pe_bm PySem.F.plainAttrs_str PySem.F.slot_str_join PySem.F.type_str_join m_join pa ha (base_of h1) hfew hl hs hp) go
        | append => exact PEm (pe_bm PySem.F.plainAttrs_list PySem.F.slot_list_append PySem.F.type_list_append m_append pa ha (base_of h1) hfew hl hs hp) go
        | pop => exact PEm (pe_bm PySem.F.plainAttrs_list PySem.F.slot_list_pop PySem.F.type_list_pop m_pop pa ha (base_of h1) hfew hl hs hp) go
  | .call k es, x, sc, X, W, c, tk, h => by
    obtain ⟨y, pp, xs, pos, rfl, hq⟩ := inv_call h
    simp only [Bool.and_eq_true, decide_eq_true_eq] at hq
    obtain ⟨⟨⟨h1, h2⟩, h3⟩, h4⟩ := hq
    obtain ⟨a1, a2, a3⟩ := okNm_of h3
    have ha := soundEs es c tk h4
    suffices pe : PE X _ (tE X.K ca W G _) from both pe rfl
    cases eg : G.fn k with
    | none =>
      exact ⟨fun pins s σ H Q I ⟨L, f, r, hh, S, sl, p⟩ => by
        unfold evE at p
        rw [eg] at p
        exact p.elim⟩
    | some ng =>
      obtain ⟨n, g⟩ := ng
      obtain ⟨fa, fd, ps, e1, e2, e3, e5, e4⟩ := c.gam.fn k n g y eg h1
      have go : ∀ σ H Q, tE X.K ca W G (.call k es) σ H Q → tCallS (spG X.K ca n g) (WE W) (tEs X.K ca W G es) σ H Q := fun σ H Q ⟨L, f, r, hh, S, sl, p⟩ => by
        unfold evE at p
        rw [eg] at p
        refine ⟨L, f, r, hh, S, sl, (p.bind S).mono fun ds f1 h1 H1 l1 S1 p1 vs rv => ?_⟩
        by_cases hn : ds.length = n
        · rw [if_pos hn] at p1
          exact ⟨by rw [rv.length]; exact hn, L, f1, h1, ds, S1, rv, p1⟩
        · rw [if_neg hn] at p1
          exact p1.elim
      cases es with
      | nil =>
        cases xs with
        | cons _ _ => simp [mEs] at h4
        | nil =>
          refine PEm (pe_callS0 e4 c.room (isGl_gl c h2) e1 e2 e3 (fun σ => passAt tk σ) a1) fun σ H Q q => ?_
          · have q' := go σ H Q q
            obtain ⟨L, f, r, hh, S, sl, p⟩ := q'
            exact p.here S [] .nil
      | cons e es =>
        cases xs with
        | nil => simp [mEs] at h4
        | cons x xs =>
          simp only [mEs, Bool.and_eq_true] at h4
          exact PEm (pe_callS e4 c.room (isGl_gl c h2) e1 e2 e3 (fun σ => passAt tk σ) ha a1 (star_cons (mE_plain h4.1).1) (mEs_star h4.2 pos)) go
  | .lc new elt t it ifs own, x, sc, X, W, c, tk, h => by
    obtain ⟨e, t2, iter, fs, scope, pos, rfl, hq⟩ := inv_lc h
    simp only [Bool.and_eq_true, decide_eq_true_eq] at hq
    obtain ⟨⟨⟨⟨⟨⟨⟨h1, h2⟩, h3⟩, h4⟩, h5⟩, h6⟩, h7⟩, h8⟩ := hq
    suffices pe : PE X _ (tE X.K ca W G _) from both pe rfl
    have ok : BlkOk X.N X.env.scope scope (own.map fun i => (N.getD i Str.empty, i)) := by
      rw [c.N, c.sc]
      exact blkOk_by h2
    refine PEm (pe_lc (own := own.map fun i => (N.getD i Str.empty, i)) (g := gD X.K t) (tt := tTs X.K ca (fun _ _ _ _ => False) G ifs) (te := tE X.K ca (fun _ _ _ _ => False) G elt) c.calm c.nd (soundI it c tk h4 t2) ok (fun s H C cl fp => soundTg (X := X.blk s H scope (compEnvC scope cl C X.env) fp) (C := ⟨N, nm⟩) (k := false) c.N c.nd (by show relS scope X.env.scope = _; rw [c.sc]) c.calm (fun z => absurd z Bool.false_ne_true) t t2 h5)
      (fun s H C cl fp => soundTs ifs (blkCOk c s H scope C cl fp) takes0 h7 h6) (fun s H C cl fp => (soundE elt (blkCOk c s H scope C cl fp) takes0 h8).1) (mI_set h4)) fun σ H Q q => ?_
    have e : (own.map fun i => (N.getD i Str.empty, i)).map (·.2) = own := by rw [List.map_map]; exact List.map_id own
    rw [e]
    exact lc_go c new elt t it ifs own h1 q
theorem soundEs : ∀ (es : Exs) {xs : List Expr} {sc : Scope} {X : Cx} {W : WX}, COk nm ca G lv N sc X → Takes X W → mEs ⟨N, nm⟩ sc es xs = true → PA X xs (tEs X.K ca W G es)
  | .nil, [], sc, X, W, c, tk, h => PAm pa_nil fun σ H Q ⟨L, f, r, hh, S, sl, p⟩ => p.here S [] .nil
  | .nil, _ :: _, sc, X, W, c, tk, h => by simp [mEs] at h
  | .cons e es, [], sc, X, W, c, tk, h => by simp [mEs] at h
  | .cons e es, x :: xs, sc, X, W, c, tk, h => by
    simp only [mEs, Bool.and_eq_true] at h
    refine PAm (pa_cons (soundE e c tk h.1).1 (soundEs es c tk h.2) (star_cons (mE_plain h.1).1)) fun σ H Q ⟨L, f, r, hh, S, sl, p⟩ => ?_
    unfold evEs at p
    refine tE_of S sl ((p.bind S).mono fun d f1 h1 H1 l1 S1 p1 v rv => ?_)
    refine ⟨L, f1, r, h1, S1, sl.mono S l1, (p1.bind S1).mono fun ds f2 h2 H2 l2 S2 p2 vs rvs => ?_⟩
    exact p2.here S2 _ (.cons (rv.mono S1 l2) rvs)
theorem soundO : ∀ (o : Ox) {x : Option Expr} {sc : Scope} {X : Cx} {W : WX}, COk nm ca G lv N sc X → Takes X W → mO ⟨N, nm⟩ sc o x = true → PO X x (tO X.K ca W G o)
  | .none, none, sc, X, W, c, tk, h => POm po_none fun σ H Q ⟨L, f, r, hh, S, sl, p⟩ => p.here S
  | .none, some _, sc, X, W, c, tk, h => by simp [mO] at h
  | .some _, none, sc, X, W, c, tk, h => by simp [mO] at h
  | .some e, some x, sc, X, W, c, tk, h => by
    simp only [mO] at h
    refine POm (po_some (soundE e c tk h).1) fun σ H Q ⟨L, f, r, hh, S, sl, p⟩ => ?_
    unfold evO at p
    refine tE_of S sl ((p.bind S).mono fun d f1 h1 H1 l1 S1 p1 v rv => ?_)
    cases d <;> simp only at p1 <;> try exact p1.elim
    exact ⟨_, rv.intE, p1.here S1⟩
theorem soundTs : ∀ (es : Exs) {xs : List Expr} {sc : Scope} {X : Cx} {W : WX}, COk nm ca G lv N sc X → Takes X W → mEs ⟨N, nm⟩ sc es xs = true → xs.length ≤ 1 → PTs X xs (tTs X.K ca W G es)
  | .nil, [], sc, X, W, c, tk, h, _ => PTsm pts_nil fun σ H Q ⟨L, f, r, hh, S, sl, p⟩ => p.here S
  | .nil, _ :: _, sc, X, W, c, tk, h, _ => by simp [mEs] at h
  | .cons e es, [], sc, X, W, c, tk, h, _ => by simp [mEs] at h
  | .cons e es, [x], sc, X, W, c, tk, h, _ => by
    simp only [mEs, Bool.and_eq_true] at h
    refine PTsm (pts_one (soundE e c tk h.1).2) fun σ H Q ⟨L, f, r, hh, S, sl, p⟩ => ?_
    cases es with
    | cons _ _ => simp [mEs] at h
    | nil =>
      unfold evTs at p
      refine ⟨L, f, r, hh, S, sl, ?_⟩
      cases e1 : evE G e r hh with
      | ok q =>
        rw [e1] at p
        simp only [Res.bind_ok] at p ⊢
        cases e2 : boolD q.1 with
        | ok k =>
          rw [e2] at p
          cases k <;> exact p
        | exc c xs h' => exact absurd e2 (boolD_exc _ _ _)
        | no =>
          rw [e2] at p
          exact p.elim
      | exc c xs h' =>
        rw [e1] at p
        exact p
      | no =>
        rw [e1] at p
        exact p.elim
  | .cons e es, x :: y :: xs, sc, X, W, c, tk, h, hl => by simp at hl
theorem soundI : ∀ (it : Z9.It) {x : Expr} {sc : Scope} {X : Cx} {W : WX}, COk nm ca G lv N sc X → Takes X W → mI ⟨N, nm⟩ sc it x = true → ∀ tg, PI X tg x (tI X.K ca W G it)
  | .seq e, x, sc, X, W, c, tk, h, tg => by
    simp only [mI] at h
    have pe := (soundE e c tk h).1
    refine ⟨fun pins s σ H R I ⟨L, f, r, hh, S, sl, p⟩ => ?_⟩
    unfold evI at p
    cases e1 : evE G e r hh with
    | no =>
      rw [e1] at p
      exact p.elim
    | exc c xs h' =>
      rw [e1] at p
      exact (pi_list pe).run pins s σ H R I (tE_of S sl (by rw [e1]; exact p))
    | ok q =>
      rw [e1] at p
      simp only [Res.bind_ok] at p
      obtain ⟨d, h1⟩ := q
      cases d <;> simp only at p <;> try exact p.elim
      · rename_i s'
        refine (pi_str pe).run pins s σ H R I (tE_of S sl (by
          rw [e1]
          intro f1 H1 l1 S1 v rv
          obtain ⟨rfl, o, _⟩ := rv.signs
          exact ⟨_, rfl, p f1 H1 l1 S1 _ (walkD_str o)⟩))
      · refine (pi_tup pe).run pins s σ H R I (tE_of S sl (by
          rw [e1]
          intro f1 H1 l1 S1 v rv
          obtain ⟨a, vs, rfl, ea, rr⟩ := rv.seqT
          exact ⟨a, rfl, ⟨vs, ea⟩, p f1 H1 l1 S1 _ (walkD_tup S1 ea rr)⟩))
      · refine (pi_list pe).run pins s σ H R I (tE_of S sl (by
          rw [e1]
          intro f1 H1 l1 S1 v rv
          obtain ⟨a, vs, rfl, ea, _, nf, rr⟩ := rv.seqL
          exact ⟨a, rfl, ⟨vs, .of ea⟩, p f1 H1 l1 S1 _ (walkD_list S1 ea nf rr)⟩))
  | .range e, x, sc, X, W, c, tk, h, tg => by
    obtain ⟨fn, pp, y, pos, rfl, hq⟩ := inv_range h
    simp only [Bool.and_eq_true] at hq
    obtain ⟨rfl, g1, g2, g3, g4⟩ := glName_of c hq.1 (by decide)
    have pe := (soundE e c tk hq.2).1
    have hs : starEach [y] X.env = [(false, eval y X.env)] := star_cons (mE_plain hq.2).1
    refine ⟨fun pins s σ H R I ⟨L, f, r, hh, S, sl, p⟩ => (pi_range1 g1 g2 (pa_cons pe pa_nil hs) hs).run pins s σ H R I ?_⟩
    unfold evI at p
    refine tE_of S sl ((p.bind S).mono fun d f1 h1 H1 l1 S1 p1 v rv => ?_)
    cases d <;> simp only at p1 <;> try exact p1.elim
    rename_i n
    cases hb : (decide (-1099511627776 < n) && decide (n < 1099511627776)) with
    | false =>
      rw [hb] at p1
      exact p1.elim
    | true =>
      rw [hb] at p1
      simp only [Bool.and_eq_true, decide_eq_true_eq] at hb
      refine ⟨n, by rw [rv.intE], by omega, by omega, ?_⟩
      exact (p1.here S1) _ walkD_range
  | .range2 a b, x, sc, X, W, c, tk, h, tg => by
    obtain ⟨fn, pp, y, z, pos, rfl, hq⟩ := inv_range2 h
    simp only [Bool.and_eq_true] at hq
    obtain ⟨rfl, g1, g2, g3, g4⟩ := glName_of c hq.1.1 (by decide)
    have pa := (soundE a c tk hq.1.2).1
    have pb := (soundE b c tk hq.2).1
    have hs2 : starEach [z] X.env = [(false, eval z X.env)] := star_cons (mE_plain hq.2).1
    have hs : starEach [y, z] X.env = [(false, eval y X.env), (false, eval z X.env)] := by rw [star_cons (mE_plain hq.1.2).1, hs2]
    refine ⟨fun pins s σ H R I ⟨L, f, r, hh, S, sl, p⟩ => (pi_range2 g1 g2 (pa_cons pa (pa_cons pb pa_nil hs2) (star_cons (mE_plain hq.1.2).1)) hs hs2).run pins s σ H R I ?_⟩
    unfold evI at p
    refine tE_of S sl ((p.bind S).mono fun d f1 h1 H1 l1 S1 p1 v rv => ?_)
    refine tE_of S1 (sl.mono S l1) ((p1.bind S1).mono fun d2 f2 h2 H2 l2 S2 p2 v2 rv2 => ?_)
    cases d <;> simp only at p2 <;> try exact p2.elim
    cases d2 <;> simp only at p2 <;> try exact p2.elim
    rename_i m n
    cases hb : (decide (-1099511627776 < m) && decide (m < 1099511627776) && decide (-1099511627776 < n) && decide (n < 1099511627776)) with
    | false =>
      rw [hb] at p2
      exact p2.elim
    | true =>
      rw [hb] at p2
      simp only [Bool.and_eq_true, decide_eq_true_eq] at hb
      refine ⟨m, n, by rw [rv.intE, rv2.intE], ⟨by omega, by omega, by omega, by omega⟩, ?_⟩
      exact (p2.here S2) _ walkD_range
  | .enum e, x, sc, X, W, c, tk, h, tg => by simp [mI] at h
  | .zip a b, x, sc, X, W, c, tk, h, tg => by simp [mI] at h
theorem soundA (k : Bool) : ∀ (es : Exs) {xs : List Expr} {sc : Scope} {X : Cx} {W : WX}, COk nm ca G lv N sc X → Takes X W → mEs ⟨N, nm⟩ sc es xs = true → (∀ pos, PE X (.BoolOp (if k then .And else .Or) xs pos) (tA X.K ca W G k es)) ∧ ∀ pos, PW X (.BoolOp (if k then .And else .Or) xs pos) (tAT X.K ca W G k es)
  | .nil, [], sc, X, W, c, tk, h => ⟨fun pos => ⟨fun pins s σ H Q I ⟨L, f, r, hh, S, sl, p⟩ => p.elim⟩, fun pos => ⟨fun wh pins s σ H Q I ⟨L, f, r, hh, S, sl, p⟩ => p.elim⟩⟩
  | .nil, _ :: _, sc, X, W, c, tk, h => by simp [mEs] at h
  | .cons e es, [], sc, X, W, c, tk, h => by simp [mEs] at h
  | .cons e .nil, x :: xs, sc, X, W, c, tk, h => by
    cases xs with
    | cons _ _ => simp [mEs] at h
    | nil =>
      simp only [mEs, Bool.and_eq_true] at h
      have se := soundE e c tk h.1
      have go : ∀ σ H Q, tA X.K ca W G k (.cons e .nil) σ H Q → tE X.K ca W G e σ H Q := fun σ H Q ⟨L, f, r, hh, S, sl, p⟩ => by
        unfold evA at p
        refine tE_of S sl ((p.bind S).mono fun d f1 h1 H1 l1 S1 p1 v rv => ?_)
        obtain ⟨b, eb, p2⟩ := p1.pureBind boolD_exc
        have := boolD_ok eb
        simp only at this
        subst this
        exact p2.here S1 v rv
      have goT : ∀ σ H Q, tAT X.K ca W G k (.cons e .nil) σ H Q → tT X.K ca W G e σ H Q := fun σ H Q ⟨L, f, r, hh, S, sl, p⟩ => by
        unfold evA at p
        refine ⟨L, f, r, hh, S, sl, ?_⟩
        cases e1 : evE G e r hh with
        | ok q =>
          rw [e1] at p
          simp only [Res.bind_ok] at p ⊢
          cases e2 : boolD q.1 with
          | ok k =>
            rw [e2] at p
            exact p
          | exc c xs h' => exact absurd e2 (boolD_exc _ _ _)
          | no =>
            rw [e2] at p
            exact p.elim
        | exc c xs h' =>
          rw [e1] at p
          exact p
        | no =>
          rw [e1] at p
          exact p.elim
      exact ⟨fun pos => PEm (pe_one se.1) go, fun pos => by
        cases k with
        | true => exact PWm (pw_and1 se.2) goT
        | false => exact PWm (pw_or1 se.2) goT⟩
  | .cons e (.cons e2 es), x :: xs, sc, X, W, c, tk, h => by
    cases xs with
    | nil => simp [mEs] at h
    | cons y xs =>
      have h' := h
      simp only [mEs, Bool.and_eq_true] at h
      have se := soundE e c tk h.1
      have sr := soundA k (.cons e2 es) (xs := y :: xs) c tk (by simp only [mEs, Bool.and_eq_true]; exact h.2)
      have goT : ∀ σ H Q, tAT X.K ca W G k (.cons e (.cons e2 es)) σ H Q → tT X.K ca W G e σ H fun b H1 => if b = k then tAT X.K ca W G k (.cons e2 es) σ H1 Q else Q b H1 := fun σ H Q ⟨L, f, r, hh, S, sl, p⟩ => by
        unfold evA at p
        refine ⟨L, f, r, hh, S, sl, ?_⟩
        cases e1 : evE G e r hh with
        | ok q =>
          rw [e1] at p
          simp only [Res.bind_ok] at p ⊢
          cases e3 : boolD q.1 with
          | ok b =>
            rw [e3] at p
            simp only [Res.bind_ok] at p
            intro f1 H1 l1 S1
            by_cases hb : b = k
            · rw [if_pos hb] at p ⊢
              exact ⟨L, f1, r, q.2, S1, sl.mono S l1, PostR.later S S1 l1 p⟩
            · rw [if_neg hb] at p ⊢
              exact p f1 H1 l1 S1
          | exc c xs h' => exact absurd e3 (boolD_exc _ _ _)
          | no =>
            rw [e3] at p
            exact p.elim
        | exc c xs h' =>
          rw [e1] at p
          exact p
        | no =>
          rw [e1] at p
          exact p.elim
      cases k with
      | true =>
        refine ⟨fun pos => PEm (pe_and se.1 (sr.1 pos)) fun σ H Q ⟨L, f, r, hh, S, sl, p⟩ => ?_, fun pos => PWm (pw_and se.2 (sr.2 pos)) fun σ H Q q => ?_⟩
        · obtain ⟨L', f', r', h2, S', sl', p'⟩ := and_go (es2 := es) rfl S sl p
          refine tE_of S' sl' (p'.mono fun d f1 h1 H1 l1 S1 kk v rv => ?_)
          obtain ⟨b, rfl, q2⟩ := kk v rv
          refine ⟨b, rfl, ?_⟩
          cases b <;> exact q2
        · obtain ⟨L', f', r', h2, S', sl', p'⟩ := goT σ H Q q
          refine ⟨L', f', r', h2, S', sl', p'.mono fun b f1 h1 H1 l1 S1 kk => ?_⟩
          cases b <;> exact kk
      | false =>
        refine ⟨fun pos => PEm (pe_or se.1 (sr.1 pos)) fun σ H Q ⟨L, f, r, hh, S, sl, p⟩ => ?_, fun pos => PWm (pw_or se.2 (sr.2 pos)) fun σ H Q q => ?_⟩
        · obtain ⟨L', f', r', h2, S', sl', p'⟩ := and_go (es2 := es) rfl S sl p
          refine tE_of S' sl' (p'.mono fun d f1 h1 H1 l1 S1 kk v rv => ?_)
          obtain ⟨b, rfl, q2⟩ := kk v rv
          refine ⟨b, rfl, ?_⟩
          cases b <;> exact q2
        · obtain ⟨L', f', r', h2, S', sl', p'⟩ := goT σ H Q q
          refine ⟨L', f', r', h2, S', sl', p'.mono fun b f1 h1 H1 l1 S1 kk => ?_⟩
          cases b <;> exact kk
end
end
end Z9

set_option Elab.async false
set_option linter.all false
set_option maxRecDepth 100000
set_option maxHeartbeats 16000000
/-! E11: statements. -/
namespace Z9
open PySem PySem.Spec PyProof.Rows L2

/-! ### statements against the text -/
def isComp : Expr → Bool
  | .ListComp .. => true
  | .SetComp .. => true
  | .DictComp .. => true
  | _ => false
def isTup : Expr → Bool
  | .Tuple .. => true
  | _ => false
/-- a pair on the right that is stored in order -/
def noSwap (ts : List Expr) : Expr → Bool
  | .Tuple vs _ _ => !(ts.length == 2 || ts.length == 3) || vs.all (foldedForSure 8)
  | _ => true
theorem noSwap_of {ts : List Expr} {k p} {v : Expr} {env : PySem.Env} (h : noSwap ts v = true) : swappedStores [.Tuple ts k p] v env = pure none := by
  cases v with
  | Tuple vs k2 p2 =>
    simp only [noSwap, Bool.or_eq_true] at h
    show (if (!(ts.length == 2 || ts.length == 3) || vs.length != ts.length || env.blockKind != .function) = true then (pure none : Sem (Option (List Str))) else _) = _
    split
    · rfl
    · rename_i hn
      have hf : vs.all (foldedForSure 8) = true := by
        rcases h with h | h
        · exact absurd (by rw [h]; rfl) hn
        · exact h
      simp only [pure_bind]
      split
      · rfl
      · split
        · rfl
        · simp only [hf, if_true]
  | _ => rfl
/-- two plain local names of one row, a pair of which something is reckoned -/
def parOk (sc : Scope) (x y : Str) (p q : Pos) (u v : Expr) : Bool := (match sc.kind with | .function => true | _ => false) && decide (sc.names.lookup x = some .local) && decide (sc.names.lookup y = some .local) && q.line == p.line && !(x == y) && !([u, v].all (foldedForSure 8)) && !([u, v].all (constantsAlone 8))
theorem parOk_of {sc : Scope} {x y : Str} {p q : Pos} {k k2 pt pt2} {u v : Expr} {env : PySem.Env} (hsc : env.scope = sc) (h : parOk sc x y p q u v = true) (hu : ∀ a b, u ≠ .Starred a b) (hv : ∀ a b, v ≠ .Starred a b) :
    swappedStores [.Tuple [.Name x p, .Name y q] k pt] (.Tuple [u, v] k2 pt2) env = pure (some [x, y]) := by
  simp only [parOk, Bool.and_eq_true, decide_eq_true_eq, Bool.not_eq_true', beq_iff_eq] at h
  obtain ⟨⟨⟨⟨⟨⟨h1, h2⟩, h3⟩, h4⟩, h5⟩, h6⟩, h7⟩ := h
  have hk : sc.kind = .function := by
    split at h1
    · assumption
    · cases h1
  have bk : env.blockKind = .function := by
    unfold Env.blockKind
    rw [hsc, hk]
    rfl
  have hx : env.kindOf x = some .local := by rw [Env.kindOf, hsc]; exact h2
  have hy : env.kindOf y = some .local := by rw [Env.kindOf, hsc]; exact h3
  have e5 : (y == x) = false := by
    cases hxy : (y == x) with
    | false => rfl
    | true =>
      have := eq_of_beq hxy
      subst this
      rw [beq_self_eq_true] at h5
      cases h5
  have st : ([u, v].any fun | .Starred .. => true | _ => false) = false := by
    cases u <;> first | exact absurd rfl (hu _ _) | (cases v <;> first | exact absurd rfl (hv _ _) | rfl)
  unfold swappedStores
  simp only [pure_bind, List.length_cons, List.length_nil, bk, st, h6, h7, List.head?_cons, Option.map_some, Option.getD_some, List.filterMap_cons, List.filterMap_nil, Expr.pos, hx, hy, h4, beq_self_eq_true, Bool.and_self, if_true, Bool.false_eq_true, if_false]
  simp [List.eraseDups, List.eraseDupsBy, List.eraseDupsBy.loop, e5, h5]
def nilBoth : Exs → List Expr → Bool
  | .nil, [] => true
  | _, _ => false
def notNil {α : Type} : List α → Bool
  | [] => false
  | _ => true
/-- a statement of an except suite -/
def hotS : Sm → Bool
  | .set _ (.con _) => true
  | .ret (.con _) => true
  | .pass => true
  | _ => false
def hotSs : Sms → Bool
  | .nil => true
  | .cons s ss => hotS s && hotSs ss
mutual
def mS (C : Mc) (sc : Scope) : Sm → Stmt → Bool
  | .set i e, .Assign [.Name x _] v _ => decide (C.N[i]? = some x) && okNm x && isSt true sc x && mE C sc e v
  | .par i j es, .Assign [.Tuple [.Name x p, .Name y q] _ _] (.Tuple [u, v] _ _) _ => decide (i ≠ j) && decide (C.N[i]? = some x) && decide (C.N[j]? = some y) && okNm x && okNm y && parOk sc x y p q u v && mEs C sc es [u, v]
  | .asg t e, .Assign [.Tuple ts k p] v _ => mT C true sc t (.Tuple ts k p) && noSwap ts v && !isComp v && mE C sc e v
  | .seti o i e, .Assign [.Subscript a b _] v _ => noSlice b && !isComp v && mE C sc o a && mE C sc i b && mE C sc e v
  | .aug i o e, .AugAssign (.Name x _) o' v _ => decide (o = o') && decide (o = .Add) && decide (C.N[i]? = some x) && okNm x && isSt true sc x && mE C sc e v
  | .expr e, .Expr v _ => !isComp v && mE C sc e v
  | .ret e, .Return (some v) _ => mE C sc e v
  | .retn, .Return none _ => true
  | .iff c a b, .If x y z _ => mE C sc c x && mSs C sc a y && mSs C sc b z
  | .forr t it b, .For tg iter body [] _ => mT C true sc t tg && mI C sc it iter && mSs C sc b body
  | .whil c b, .While x body [] _ => mE C sc c x && mSs C sc b body
  | .brk, .Break _ => true
  | .cont, .Continue _ => true
  | .pass, .Pass _ => true
  | .rais k es, .Raise (some (.Call (.Name x _) xs [] _)) none _ => decide (C.nm[k]? = some x) && isGl sc x && okNm x && nilBoth es xs
  | .rai1 k e, .Raise (some (.Call (.Name x _) [y] [] _)) none _ => decide (C.nm[k]? = some x) && isGl sc x && okNm x && mE C sc e y
  | .tryy b hs, .Try body hds [] [] _ => notNil hds && mSs C sc b body && mH C sc hs hds
  | _, _ => false
def mSs (C : Mc) (sc : Scope) : Sms → List Stmt → Bool
  | .nil, [] => true
  | .cons s ss, x :: xs => mS C sc s x && mSs C sc ss xs
  | _, _ => false
def mH (C : Mc) (sc : Scope) : Hds → List ExceptHandler → Bool
  | .nil, [] => true
  | .cons k b hs, .ExceptHandler (some (.Name x _)) none suite _ :: hds => decide (C.nm[k]? = some x) && isGl sc x && okNm x && hotSs b && notNil suite && mSs C sc b suite && mH C sc hs hds
  | _, _ => false
end

/-! ### what a statement asks -/
def PostS (K : PySem.W.Frag) (L : Addr → Prop) (f : List Addr) (H : Hp) (ca : Nat → Value) (W : WX) (D : Ends) (res : Res Out) : Prop :=
  match res with
  | .ok (.nx r h) => ∀ (f' : List Addr) (H' : Hp) (σ' : L2.St), Le f H f' H' → SRel K L f' h H' → SlR K L f' H' r σ' → D.nx σ' H'
  | .ok (.rt d h) => ∀ (f' : List Addr) (H' : Hp) (v : V), Le f H f' H' → SRel K L f' h H' → Rep K L f' H' v d → D.rt v H'
  | .ok (.bk r h) => ∀ (f' : List Addr) (H' : Hp) (σ' : L2.St), Le f H f' H' → SRel K L f' h H' → SlR K L f' H' r σ' → D.bk σ' H'
  | .ok (.ct r h) => ∀ (f' : List Addr) (H' : Hp) (σ' : L2.St), Le f H f' H' → SRel K L f' h H' → SlR K L f' H' r σ' → D.ct σ' H'
  | .ok (.ex c _ r h) => ∀ (f' : List Addr) (H' : Hp) (σ' : L2.St) (dd : Option Addr), Le f H f' H' → SRel K L f' h H' → SlR K L f' H' r σ' → W (ca c) dd σ' H'
  | _ => False
section
variable {K : PySem.W.Frag} {L : Addr → Prop} {f f' : List Addr} {h h' : Hh} {H H' : Hp} {ca : Nat → Value} {W : WX} {D : Ends}
theorem PostS.later {res : Res Out} (S : SRel K L f h H) (S' : SRel K L f' h' H') (l : Le f H f' H') (p : PostS K L f H ca W D res) : PostS K L f' H' ca W D res := by
  cases res with
  | ok o => cases o with
    | nx => exact fun f2 H2 σ' l2 S2 => p f2 H2 σ' (Le.trans S S' l l2) S2
    | rt => exact fun f2 H2 σ' l2 S2 => p f2 H2 σ' (Le.trans S S' l l2) S2
    | bk => exact fun f2 H2 σ' l2 S2 => p f2 H2 σ' (Le.trans S S' l l2) S2
    | ct => exact fun f2 H2 σ' l2 S2 => p f2 H2 σ' (Le.trans S S' l l2) S2
    | ex => exact fun f2 H2 σ' dd l2 S2 => p f2 H2 σ' dd (Le.trans S S' l l2) S2
  | exc => exact p
  | no => exact p
theorem PostS.bs {α : Type} {m : Res (α × Hh)} {r : Z9.Env} {σ : L2.St} {g : α × Hh → Res Out} (S : SRel K L f h H) (sl : SlR K L f H r σ) (p : PostS K L f H ca W D (m.bs r g)) :
    PostR K L f H ca (fun c d H' => W c d σ H') m fun a f1 h1 H1 => PostS K L f1 H1 ca W D (g (a, h1)) := by
  cases m with
  | ok q => exact fun f1 H1 l1 S1 => PostS.later S S1 l1 p
  | exc c xs h' => exact fun f1 H1 dd l1 S1 => p f1 H1 σ dd l1 S1 (sl.mono S l1)
  | no => exact p
theorem PostS.pureBs {γ : Type} {m : Res γ} {r : Z9.Env} {g : γ → Res Out} (p : PostS K L f H ca W D (m.bs r g)) (hm : ∀ c xs h', m ≠ .exc c xs h') : ∃ z, m = .ok z ∧ PostS K L f H ca W D (g z) := by
  cases m with
  | ok z => exact ⟨z, rfl, p⟩
  | exc c xs h' => exact absurd rfl (hm _ _ _)
  | no => exact p.elim
theorem PostS.here {r : Z9.Env} {σ : L2.St} (S : SRel K L f h H) (sl : SlR K L f H r σ) (p : PostS K L f H ca W D (.ok (.nx r h))) : D.nx σ H := p f H σ .refl S sl
end
section
variable (K : PySem.W.Frag) (ca : Nat → Value) (W : WX) (G : Gam)
def tS (s : Sm) : TS := fun D σ H => ∃ (L : Addr → Prop) (f : List Addr) (r : Z9.Env) (h : Hh), SRel K L f h H ∧ SlR K L f H r σ ∧ PostS K L f H ca W D (evS G s r h)
def tSs (s : Sms) : TS := fun D σ H => ∃ (L : Addr → Prop) (f : List Addr) (r : Z9.Env) (h : Hh), SRel K L f h H ∧ SlR K L f H r σ ∧ PostS K L f H ca W D (evSs G s r h)
end
theorem PSm {X : Cx} {e : Stmt} {t t' : TS} (h : PS X e t) (k : ∀ D σ H, t' D σ H → t D σ H) : PS X e t' := ⟨fun pins s σ H D I q => h.run pins s σ H D I (k D σ H q)⟩
theorem PSsm {X : Cx} {e : List Stmt} {t t' : TS} (h : PSs X e t) (k : ∀ D σ H, t' D σ H → t D σ H) : PSs X e t' := ⟨fun pins s σ H D I q => h.run pins s σ H D I (k D σ H q)⟩

mutual
theorem setT_exc : ∀ (t : Tg) (d : D) (r : Z9.Env) (c : Nat) (xs : List D) (h' : Hh), setT t d r ≠ .exc c xs h'
  | .var i, d, r, c, xs, h' => by simp [setT]
  | .tup ts, d, r, c, xs, h' => by
    simp only [setT]
    split
    · exact setTs_exc ts _ _ _ _ _
    · exact setTs_exc ts _ _ _ _ _
    · simp
theorem setTs_exc : ∀ (t : Tgs) (d : List D) (r : Z9.Env) (c : Nat) (xs : List D) (h' : Hh), setTs t d r ≠ .exc c xs h'
  | .nil, [], r, c, xs, h' => by simp [setTs]
  | .nil, _ :: _, r, c, xs, h' => by simp [setTs]
  | .cons t ts, [], r, c, xs, h' => by simp [setTs]
  | .cons t ts, d :: ds, r, c, xs, h' => by
    simp only [setTs]
    exact bindC_exc (setT_exc t d r) (fun a => setTs_exc ts ds a) c xs h'
end
theorem setiD_exc (o i v : D) (h : Hh) : ∀ c xs h', setiD o i v h ≠ .exc c xs h' := by
  intro c xs h'
  unfold setiD
  split
  · split
    · split <;> simp
    · simp
  · simp
/-- o[i] = v, by values -/
def rSetD' (K : PySem.W.Frag) : TSet := fun o i v H Q => ∃ (L : Addr → Prop) (f : List Addr) (h : Hh) (d e w : D), SRel K L f h H ∧ Rep K L f H o d ∧ Rep K L f H i e ∧ Rep K L f H v w ∧
  match setiD d e w h with
  | .ok h' => ∀ (f' : List Addr) (H' : Hp), Le f H f' H' → SRel K L f' h' H' → Q H'
  | _ => False
theorem set_D {X : Cx} : PSet X (rSetD' X.K) := by
  intro pins s σ H o i v ov iv u Q I ro ri rv hh
  obtain ⟨L, f, h, d, e, w, S, rd, re, rw', q⟩ := hh
  obtain ⟨h', eh, q⟩ : ∃ h', setiD d e w h = .ok h' ∧ ∀ (f' : List Addr) (H' : Hp), Le f H f' H' → SRel X.K L f' h' H' → Q H' := by
    cases k : setiD d e w h with
    | ok h' =>
      rw [k] at q
      exact ⟨h', rfl, q⟩
    | exc c xs h' =>
      rw [k] at q
      exact q.elim
    | no =>
      rw [k] at q
      exact q.elim
  unfold setiD at eh
  split at eh
  · rename_i r j
    split at eh
    · rename_i ys ei
      split at eh
      · rename_i hj
        cases eh
        obtain ⟨a, ds, ws, e1, e2, e3, rr⟩ := S.obj r _ ei
        cases e2
        cases rd with
        | ref e4 =>
          rw [e1] at e4
          cases e4
          have hi : r < h.length := (List.getElem?_eq_some_iff.mp ei).1
          obtain ⟨l, S'⟩ := S.change hi e1 (RepL.set rw' j.toNat rr)
          refine set_list pins s σ H _ _ v ov iv u Q I ro ri rv ⟨a, ws, j, j.toNat, rfl, re.intE, e3, ?_, q _ _ l S'⟩
          show (if 0 ≤ j then (if j < ws.length then some j.toNat else none) else _) = _
          rw [if_pos hj.1, if_pos (by rw [rr.length]; exact hj.2)]
      · cases eh
    · cases eh
  · cases eh
/-- x += v -/
def rAugD (K : PySem.W.Frag) : TIp := fun x y H Q => ∃ (L : Addr → Prop) (f : List Addr) (h : Hh) (d e : D), SRel K L f h H ∧ Rep K L f H x d ∧ Rep K L f H y e ∧
  match augD d e with
  | .ok z => ∀ (H' : Hp) (v : V), Le f H f H' → SRel K L f h H' → Rep K L f H' v z → Q v H'
  | _ => False
theorem ip_D {X : Cx} : PIp X .Add (rAugD X.K) := by
  intro pins s σ H x y v u Q I rx ry hh
  obtain ⟨L, f, h, d, e, S, rd, re, q0⟩ := hh
  obtain ⟨z, hz, q⟩ := rD_ok q0
  unfold augD at hz
  split at hz
  · cases rd; cases re; cases hz
    exact iop_add pins s σ H _ _ v u Q I rx ry ⟨_, _, rfl, rfl, q H _ .refl S (.int _)⟩
  · rename_i a b
    obtain ⟨hc, rfl⟩ := ofB_ok hz
    have hz : a.length + b.length ≤ sizeLine := of_decide_eq_true hc
    obtain ⟨rfl, _, _⟩ := rd.signs
    obtain ⟨rfl, _, _⟩ := re.signs
    exact iop_add_str pins s σ H _ _ v u Q I rx ry ⟨_, _, rfl, rfl, by rw [str_len, str_len]; exact hz, q H _ .refl S (rd.app re hz)⟩
  · cases hz
theorem augD_exc (d e : D) : ∀ c xs h', augD d e ≠ .exc c xs h' := by
  intro c xs h'
  unfold augD
  split <;> first | exact ofB_exc _ _ _ | simp

theorem whileN_more (c : Z9.Env → Hh → Res (Bool × Hh)) (g : Z9.Env → Hh → Res Out) : ∀ (n : Nat) (r : Z9.Env) (h : Hh), whileN c g n r h ≠ .no → whileN c g (n + 1) r h = whileN c g n r h
  | 0, r, h, k => absurd rfl k
  | n + 1, r, h, k => by
    rw [whileN]
    conv => rhs; rw [whileN]
    rw [whileN] at k
    cases e : c r h with
    | no => rfl
    | exc => rfl
    | ok b =>
      rw [e] at k
      simp only [Res.bs_ok] at k ⊢
      cases hb : b.1 with
      | false => rfl
      | true =>
        simp only [hb, if_true] at k ⊢
        cases e2 : g r b.2 with
        | no => rfl
        | exc => rfl
        | ok o =>
          rw [e2] at k
          cases o with
          | nx r' h' => exact whileN_more c g n r' h' k
          | ct r' h' => exact whileN_more c g n r' h' k
          | bk => rfl
          | rt => rfl
          | ex => rfl
end Z9

set_option Elab.async false
set_option linter.all false
set_option maxRecDepth 100000
set_option maxHeartbeats 16000000
/-! E12: every statement's run is the text's. -/
namespace Z9
open PySem PySem.Spec PyProof.Rows L2

section
variable {nm : List Str} {ca : Nat → Value} {G : Gam} {lv : Nat} {N : List Str}

/-- where a statement is read: a def's own body -/
structure SOk (nm : List Str) (ca : Nat → Value) (G : Gam) (lv : Nat) (N : List Str) (sc : Scope) (X : Cx) : Prop extends COk nm ca G lv N sc X where
  fnn : ∀ x, X.fn x = true
  stk : X.stack = X.env :: X.outer
  frm : X.env.frame = some X.env.locals
  own : PassesOwn (model X.prog X.w) X.A X.env X.xe
  exs : ∀ k x, G.exk k = true → nm[k]? = some x → ∃ (C : Addr) (bmB : List Value) (B newId initId : String), ExcBaseFacts B newId initId bmB ∧ PySem.W.excIn X.K C bmB newId = true ∧ X.mg x = some (.ref C) ∧ PySem.W.keepIn X.K (.ref C) = true ∧ Raises X (.ref C) ∧ ca k = .ref C
  hnd : ∀ c k x b, G.sub c k = some b → nm[k]? = some x → PySem.W.exmOne X.K (ca c) (ca k) = some b
  hcl : ∀ k x, nm[k]? = some x → G.cls k = true → X.mg x = some (ca k) ∨ (X.mg x = none ∧ bootBuiltins x = some (ca k) ∧ x ≠ "__name__")

theorem swaps_plain {e : Expr} {t : Option Expr} {l : Nat} {env : PySem.Env} (h : isComp e = false) : swapsWith e t l env = pure false := by
  cases e <;> first
    | rfl
    | (simp [isComp] at h)
theorem swaps_sole {e t : Expr} {l : Nat} {env : PySem.Env} (h : isComp e = false) : swapsWithSole [t] e l env = pure false := swaps_plain (t := some t) h
/-- a suite of the simple kind -/
theorem soundHot {sc : Scope} {X : Cx} (hN : X.N = N) (nd : X.N.Nodup) (hsc : X.env.scope = sc) (hf : ∀ x, X.fn x = true) : ∀ (s : Sms) {xs : List Stmt}, hotSs s = true → mSs ⟨N, nm⟩ sc s xs = true → PSs X xs (tSs X.K ca (fun _ _ _ _ => False) G s)
  | .nil, [], _, _ => PSsm pss_nil fun D σ H ⟨L, f, r, hh, S, sl, p⟩ => p.here S sl
  | .nil, _ :: _, _, h => by simp [mSs] at h
  | .cons s ss, [], _, h => by simp [mSs] at h
  | .cons s ss, x :: xs, hh, h => by
    simp only [mSs, Bool.and_eq_true] at h
    simp only [hotSs, Bool.and_eq_true] at hh
    have one : PS X x (tS X.K ca (fun _ _ _ _ => False) G s) := by
      obtain ⟨h1, _⟩ := h
      obtain ⟨h2, _⟩ := hh
      have con : ∀ (d : D) (v : Expr), mE ⟨N, nm⟩ sc (.con d) v = true → PE X v (tE X.K ca (fun _ _ _ _ => False) G (.con d)) ∧ isComp v = false := by
        intro d v h
        cases v <;> simp only [mE, Bool.false_eq_true] at h
        refine ⟨?_, rfl⟩
        unfold okC at h
        split at h
        · exact PEm pe_non fun σ H Q ⟨L, f, r, hh, S, sl, p⟩ => p.here S _ .non
        · rename_i a b
          have : a = b := by simpa using h
          subst this
          exact PEm pe_bl fun σ H Q ⟨L, f, r, hh, S, sl, p⟩ => p.here S _ (.bl _)
        · rename_i a b
          have : a = b := by simpa using h
          subst this
          exact PEm pe_int fun σ H Q ⟨L, f, r, hh, S, sl, p⟩ => p.here S _ (.int _)
        · rename_i a b
          simp only [Bool.and_eq_true, beq_iff_eq, decide_eq_true_eq] at h
          obtain ⟨⟨rfl, h2⟩, h3⟩ := h
          exact PEm pe_str fun σ H Q ⟨L, f, r, hh, S, sl, p⟩ => p.here S _ (.str _ h2 (by rw [sizeLine_eq]; omega))
        · cases h
      cases s <;> try simp only [hotS, Bool.false_eq_true] at h2
      · rename_i i e
        cases e <;> try simp only [hotS, Bool.false_eq_true] at h2
        rename_i d
        obtain ⟨y, py, v, pos, rfl, hq⟩ : ∃ y py v pos, x = .Assign [.Name y py] v pos ∧ (decide (N[i]? = some y) && okNm y && isSt true sc y && mE ⟨N, nm⟩ sc (.con d) v) = true := by
          unfold mS at h1
          split at h1
          all_goals first
            | (rename_i hh; cases hh; exact ⟨_, _, _, _, rfl, h1⟩)
            | (rename_i hh; cases hh; done)
            | cases h1
        simp only [Bool.and_eq_true, decide_eq_true_eq] at hq
        obtain ⟨⟨⟨k1, k2⟩, k3⟩, k4⟩ := hq
        obtain ⟨hl, hfx⟩ := isSt_of (X := X) hsc (fun _ => hf) k3
        obtain ⟨pe, ic⟩ := con d v k4
        refine PSm (ps_set nd (by rw [hN]; exact k1) hl pe (swaps_plain ic) hfx) fun D σ H ⟨L, f, r, hh, S, sl, p⟩ => ?_
        unfold evS at p
        refine tE_of S sl ((p.bs S sl).mono fun d f1 h1 H1 l1 S1 p1 w rw' => ?_)
        exact p1.here S1 ((sl.mono S l1).set rw')
      · rename_i e
        cases e <;> try simp only [hotS, Bool.false_eq_true] at h2
        rename_i d
        obtain ⟨v, pos, rfl, hq⟩ : ∃ v pos, x = .Return (some v) pos ∧ (mE ⟨N, nm⟩ sc (.con d) v) = true := by
          unfold mS at h1
          split at h1
          all_goals first
            | (rename_i hh; cases hh; exact ⟨_, _, rfl, h1⟩)
            | (rename_i hh; cases hh; done)
            | cases h1
        obtain ⟨pe, ic⟩ := con d v hq
        refine PSm (ps_ret pe) fun D σ H ⟨L, f, r, hh, S, sl, p⟩ => ?_
        unfold evS at p
        refine tE_of S sl ((p.bs S sl).mono fun d f1 h1 H1 l1 S1 p1 w rw' => ?_)
        exact p1 f1 H1 w .refl S1 rw'
      · obtain ⟨pos, rfl⟩ : ∃ pos, x = .Pass pos := by
          unfold mS at h1
          split at h1
          all_goals first
            | (rename_i hh; cases hh; done)
            | exact ⟨_, rfl⟩
            | cases h1
        exact PSm ps_pass fun D σ H ⟨L, f, r, hh, S, sl, p⟩ => p f H σ .refl S sl
    refine PSsm (pss_cons one (soundHot hN nd hsc hf ss hh.2 h.2)) fun D σ H ⟨L, f, r, hh, S, sl, p⟩ => ?_
    unfold evSs at p
    refine ⟨L, f, r, hh, S, sl, ?_⟩
    cases e : evS G s r hh with
    | exc c xs h' =>
      rw [e] at p
      exact p.elim
    | no =>
      rw [e] at p
      exact p.elim
    | ok o =>
      rw [e] at p
      simp only [Res.bind_ok] at p
      cases o with
      | nx r' h' => exact fun f' H' σ' l S' sl' => ⟨L, f', r', h', S', sl', PostS.later S S' l p⟩
      | rt => exact p
      | bk => exact p
      | ct => exact p
      | ex => exact p
/-- the clauses, and their suites -/
def hdL (K : PySem.W.Frag) (ca : Nat → Value) (G : Gam) : Hds → List (Value × (Addr → Value → Option Addr → TS))
  | .nil => []
  | .cons k b hs => (ca k, fun _ _ _ => tSs K ca (fun _ _ _ _ => False) G b) :: hdL K ca G hs
theorem hot_noex {G : Gam} : ∀ (s : Sms), hotSs s = true → ∀ (r : Z9.Env) (h : Hh) c xs r' h', evSs G s r h ≠ .ok (.ex c xs r' h')
  | .nil, _, r, h, c, xs, r', h' => by simp [evSs]
  | .cons s ss, hh, r, h, c, xs, r', h' => by
    simp only [hotSs, Bool.and_eq_true] at hh
    have ih := hot_noex (G := G) ss hh.2
    cases s <;> try simp [hotS] at hh
    · rename_i i e
      cases e <;> try simp [hotS] at hh
      simp only [evSs, evS, evE, Res.bs_ok, Res.bind_ok]
      exact ih _ _ _ _ _ _
    · rename_i e
      cases e <;> try simp [hotS] at hh
      simp [evSs, evS, evE]
    · simp only [evSs, evS, Res.bind_ok]
      exact ih _ _ _ _ _ _
theorem hds_ok {sc : Scope} {X : Cx} (c : SOk nm ca G lv N sc X) : ∀ (hs : Hds) {hds : List ExceptHandler}, hsOk G hs = true → mH ⟨N, nm⟩ sc hs hds = true → HdsOk X hds (hdL X.K ca G hs)
  | .nil, [], _, _ => .nil
  | .nil, _ :: _, _, h => by simp [mH] at h
  | .cons k b hs, hds, hk, h => by
    simp only [hsOk, Bool.and_eq_true] at hk
    obtain ⟨y, p, suite, pos, hds', rfl, hq⟩ : ∃ y p suite pos hds', hds = .ExceptHandler (some (.Name y p)) none suite pos :: hds' ∧ (decide (nm[k]? = some y) && isGl sc y && okNm y && hotSs b && notNil suite && mSs ⟨N, nm⟩ sc b suite && mH ⟨N, nm⟩ sc hs hds') = true := by
      unfold mH at h
      split at h
      all_goals first
        | (rename_i hh; cases hh; exact ⟨_, _, _, _, _, rfl, h⟩)
        | (rename_i hh; cases hh; done)
        | cases h
    simp only [Bool.and_eq_true, decide_eq_true_eq] at hq
    obtain ⟨⟨⟨⟨⟨⟨h1, h2⟩, h3⟩, h4⟩, h5⟩, h6⟩, h7⟩ := hq
    cases suite with
    | nil => cases h5
    | cons s0 suite =>
      obtain ⟨a1, _, _⟩ := okNm_of h3
      refine .cons ⟨isGl_gl c.toCOk h2, a1, c.hcl k y h1 hk.1⟩ (fun a oe cls d pn _ _ => ?_) (hds_ok c hs hk.2 h7)
      exact soundHot (X := X.suite a ((a, oe) :: pn)) c.N c.nd c.sc c.fnn b h4 h6
theorem handle_go {sc : Scope} {X : Cx} {W : WX} {L : Addr → Prop} {f : List Addr} {h : Hh} {H : Hp} {r : Z9.Env} {σ : L2.St} {cc : Nat} {ys : List D} {D : Ends} {dd : Option Addr} (c : SOk nm ca G lv N sc X) : ∀ (hs : Hds) {hds : List ExceptHandler}, mH ⟨N, nm⟩ sc hs hds = true → SRel X.K L f h H → SlR X.K L f H r σ →
    PostS X.K L f H ca W D (evH G hs cc ys r h) → wMany X.K W D (hdL X.K ca G hs) (ca cc) dd σ H
  | .nil, _, _, S, sl, p => p f H σ dd .refl S sl
  | .cons k b hs, hds, hm, S, sl, p => by
    obtain ⟨y, pp, suite, pos, hds', rfl, hq⟩ : ∃ y p suite pos hds', hds = .ExceptHandler (some (.Name y p)) none suite pos :: hds' ∧ (decide (nm[k]? = some y) && isGl sc y && okNm y && hotSs b && notNil suite && mSs ⟨N, nm⟩ sc b suite && mH ⟨N, nm⟩ sc hs hds') = true := by
      unfold mH at hm
      split at hm
      all_goals first
        | (rename_i hh; cases hh; exact ⟨_, _, _, _, _, rfl, hm⟩)
        | (rename_i hh; cases hh; done)
        | cases hm
    simp only [Bool.and_eq_true, decide_eq_true_eq] at hq
    obtain ⟨⟨⟨⟨⟨⟨h1, h2⟩, h3⟩, h4⟩, h5⟩, h6⟩, h7⟩ := hq
    unfold evH at p
    cases es : G.sub cc k with
    | none =>
      rw [es] at p
      exact p.elim
    | some bb =>
      rw [es] at p
      refine ⟨bb, c.hnd cc k y bb es h1, fun hb => ?_, fun hb => ?_⟩
      · subst hb
        intro a _
        refine ⟨L, f, r, h, S, sl, ?_⟩
        have hx := hot_noex (G := G) b h4 r h
        revert hx p
        cases evSs G b r h with
        | ok o => cases o <;> first
          | exact fun p _ => p
          | exact fun _ hx => absurd rfl (hx _ _ _ _)
        | exc => exact fun p _ => p
        | no => exact fun p _ => p
      · subst hb
        exact handle_go c hs h7 S sl p
mutual
theorem soundS : ∀ (s : Sm) {x : Stmt} {sc : Scope} {X : Cx} {W : WX}, SOk nm ca G lv N sc X → Takes X W → mS ⟨N, nm⟩ sc s x = true → PS X x (tS X.K ca W G s)
  | .set i e, x, sc, X, W, c, tk, h => by
    obtain ⟨y, py, v, pos, rfl, hq⟩ : ∃ y py v pos, x = .Assign [.Name y py] v pos ∧ (decide (N[i]? = some y) && okNm y && isSt true sc y && mE ⟨N, nm⟩ sc e v) = true := by
      unfold mS at h
      split at h
      all_goals first
        | (rename_i hh; cases hh; exact ⟨_, _, _, _, rfl, h⟩)
        | (rename_i hh; cases hh; done)
        | cases h
    simp only [Bool.and_eq_true, decide_eq_true_eq] at hq
    obtain ⟨⟨⟨h1, h2⟩, h3⟩, h4⟩ := hq
    obtain ⟨hl, hf⟩ := isSt_of (X := X) c.sc (fun _ => c.fnn) h3
    have hN : X.N[i]? = some y := by rw [c.N]; exact h1
    have pe := (soundE e c.toCOk tk h4).1
    have go : ∀ D σ H, tS X.K ca W G (.set i e) D σ H → tAsg (tE X.K ca W G e) (gName i) D σ H := fun D σ H ⟨L, f, r, hh, S, sl, p⟩ => by
      unfold evS at p
      refine tE_of S sl ((p.bs S sl).mono fun d f1 h1 H1 l1 S1 p1 w rw' => ?_)
      exact p1.here S1 ((sl.mono S l1).set rw')
    have plain : swapsWith v (some (.Name y py)) pos.line X.env = pure false → PS X (.Assign [.Name y py] v pos) (tS X.K ca W G (.set i e)) := fun hs => PSm (ps_set c.nd hN hl pe hs hf) go
    cases v with
    | ListComp elt gs scope lpos =>
      have hsw : swapsWith (.ListComp elt gs scope lpos) (some (.Name y py)) pos.line X.env = pure (X.env.blockKind == .function && X.env.kindOf y == some .local && py.line == lpos.line && !(scope.names.any fun (n, k) => n == y && (k == .local || k == .cell))) := rfl
      cases hB : (X.env.blockKind == .function && X.env.kindOf y == some .local && py.line == lpos.line && !(scope.names.any fun (n, k) => n == y && (k == .local || k == .cell))) with
      | false => exact plain (by rw [hsw, hB])
      | true =>
        have hyl : X.env.scope.names.lookup y = some .local := by
          simp only [Bool.and_eq_true, beq_iff_eq] at hB
          exact hB.1.1.2
        cases e <;> try simp only [mE, Bool.false_eq_true] at h4
        rename_i new elt' t it ifs own
        obtain ⟨e2, t2, iter, fs, scope', pos', eq, hq⟩ := inv_lc h4
        cases eq
        simp only [Bool.and_eq_true, decide_eq_true_eq] at hq
        obtain ⟨⟨⟨⟨⟨⟨⟨h1', h2'⟩, h3'⟩, h4'⟩, h5'⟩, h6'⟩, h7'⟩, h8'⟩ := hq
        have ok : BlkOk X.N X.env.scope scope (own.map fun i => (N.getD i Str.empty, i)) := by
          rw [c.N, c.sc]
          exact blkOk_by h2'
        refine PSm (ps_setLc (own := own.map fun i => (N.getD i Str.empty, i)) (g := gD X.K t) (tt := tTs X.K ca (fun _ _ _ _ => False) G ifs) (te := tE X.K ca (fun _ _ _ _ => False) G elt') c.calm c.nd hN hyl (by rw [hsw, hB]) (soundI it c.toCOk tk h4' t2) ok
          (fun s H C cl fp => soundTg (X := X.blk s H scope (compEnvC scope cl C X.env) fp) (C := ⟨N, nm⟩) (k := false) c.N c.nd (by show relS scope X.env.scope = _; rw [c.sc]) c.calm (fun z => absurd z Bool.false_ne_true) t t2 h5')
          (fun s H C cl fp => soundTs ifs (blkCOk c.toCOk s H scope C cl fp) takes0 h7' h6') (fun s H C cl fp => (soundE elt' (blkCOk c.toCOk s H scope C cl fp) takes0 h8').1) (mI_set h4')) fun D σ H q => ?_
        have e : (own.map fun i => (N.getD i Str.empty, i)).map (·.2) = own := by rw [List.map_map]; exact List.map_id own
        rw [e]
        exact lc_go c.toCOk new elt' t it ifs own h1' (go D σ H q)
    | SetComp => cases e <;> simp [mE] at h4
    | DictComp => cases e <;> simp [mE] at h4
    | _ => exact plain rfl
  | .asg t e, x, sc, X, W, c, tk, h => by
    obtain ⟨ts, k, p, v, pos, rfl, hq⟩ : ∃ ts k p v pos, x = .Assign [.Tuple ts k p] v pos ∧ (mT ⟨N, nm⟩ true sc t (.Tuple ts k p) && noSwap ts v && !isComp v && mE ⟨N, nm⟩ sc e v) = true := by
      unfold mS at h
      split at h
      all_goals first
        | (rename_i hh; cases hh; exact ⟨_, _, _, _, _, rfl, h⟩)
        | (rename_i hh; cases hh; done)
        | cases h
    simp only [Bool.and_eq_true, Bool.not_eq_true'] at hq
    obtain ⟨⟨⟨h1, h2⟩, h3⟩, h4⟩ := hq
    have pe := (soundE e c.toCOk tk h4).1
    have pg := soundTg (C := ⟨N, nm⟩) (k := true) c.N c.nd c.sc c.calm (fun _ => c.fnn) t _ h1
    refine PSm (ps_asg pe pg (swaps_sole h3) (noSwap_of h2) rfl) fun D σ H ⟨L, f, r, hh, S, sl, p⟩ => ?_
    unfold evS at p
    refine tE_of S sl ((p.bs S sl).mono fun d f1 h1 H1 l1 S1 p1 w rw' => ?_)
    obtain ⟨r', er, p2⟩ := p1.pureBs (setT_exc _ _ _)
    exact ⟨L, f1, h1, r, r', d, S1, sl.mono S l1, rw', er, fun σ' s' _ => p2.here S1 s'⟩
  | .par i j es, x, sc, X, W, c, tk, h => by
    obtain ⟨y, p1, z, p2, k, p, u, v, k2, pt2, pos, rfl, hq⟩ : ∃ y p1 z p2 k p u v k2 pt2 pos, x = .Assign [.Tuple [.Name y p1, .Name z p2] k p] (.Tuple [u, v] k2 pt2) pos ∧ (decide (i ≠ j) && decide (N[i]? = some y) && decide (N[j]? = some z) && okNm y && okNm z && parOk sc y z p1 p2 u v && mEs ⟨N, nm⟩ sc es [u, v]) = true := by
      unfold mS at h
      split at h
      all_goals first
        | (rename_i hh; cases hh; exact ⟨_, _, _, _, _, _, _, _, _, _, _, rfl, h⟩)
        | (rename_i hh; cases hh; done)
        | cases h
    simp only [Bool.and_eq_true, decide_eq_true_eq] at hq
    obtain ⟨⟨⟨⟨⟨⟨h1, h2⟩, h3⟩, h4⟩, h5⟩, h6⟩, h7⟩ := hq
    have pa := soundEs es c.toCOk tk h7
    have hu : (∀ a b, u ≠ .Starred a b) ∧ ∀ a b, v ≠ .Starred a b := by
      match es, h7 with
      | .cons e1 (.cons e2 .nil), h7 =>
        simp only [mEs, Bool.and_eq_true] at h7
        exact ⟨(mE_plain h7.1).1, (mE_plain h7.2.1).1⟩
      | .cons e1 .nil, h7 => simp [mEs] at h7
      | .nil, h7 => simp [mEs] at h7
      | .cons e1 (.cons e2 (.cons e3 e4)), h7 => simp [mEs] at h7
    have hp := id h6
    simp only [parOk, Bool.and_eq_true, decide_eq_true_eq] at hp
    refine PSm (ps_par c.calm c.nd (by rw [c.N]; exact h2) (by rw [c.N]; exact h3) h1 (by rw [c.sc]; exact hp.1.1.1.1.1.2) (by rw [c.sc]; exact hp.1.1.1.1.2) pa (parOk_of c.sc h6 hu.1 hu.2) (swaps_sole rfl)) fun D σ H ⟨L, f, r, hh, S, sl, p⟩ => ?_
    unfold evS at p
    refine ⟨L, f, r, hh, S, sl, (p.bs S sl).mono fun ds f1 h1 H1 l1 S1 p1 vs rv => ?_⟩
    match ds, vs, rv, p1 with
    | [d1, d2], [w1, w2], .cons r1 (.cons r2 .nil), p1 =>
      refine ⟨w1, w2, rfl, ?_⟩
      exact PostS.here S1 (((sl.mono S l1).set r1).set r2) p1
    | [], _, _, p1 => exact p1.elim
    | [_], _, _, p1 => exact p1.elim
    | _ :: _ :: _ :: _, _, _, p1 => exact p1.elim
  | .seti o i e, x, sc, X, W, c, tk, h => by
    obtain ⟨a, b, p, v, pos, rfl, hq⟩ : ∃ a b p v pos, x = .Assign [.Subscript a b p] v pos ∧ (noSlice b && !isComp v && mE ⟨N, nm⟩ sc o a && mE ⟨N, nm⟩ sc i b && mE ⟨N, nm⟩ sc e v) = true := by
      unfold mS at h
      split at h
      all_goals first
        | (rename_i hh; cases hh; exact ⟨_, _, _, _, _, rfl, h⟩)
        | (rename_i hh; cases hh; done)
        | cases h
    simp only [Bool.and_eq_true, Bool.not_eq_true'] at hq
    obtain ⟨⟨⟨⟨h1, h2⟩, h3⟩, h4⟩, h5⟩ := hq
    have pe := (soundE e c.toCOk tk h5).1
    have po := (soundE o c.toCOk tk h3).1
    have pi := (soundE i c.toCOk tk h4).1
    have ha : ∀ v, assign (.Subscript a b p) X.env v = (do
      let ov ← holding [v] (eval a X.env)
      let iv ← holding [v, ov] (eval b X.env)
      standAt p
      holding [v, ov, iv] (setItem ov iv v)
      release [v, ov, iv] []) := by
      intro v
      cases b <;> first
        | rfl
        | (simp [noSlice] at h1)
    refine PSm (ps_asg pe (pg_sub po pi set_D ha) (swaps_sole h2) rfl rfl) fun D σ H ⟨L, f, r, hh, S, sl, p⟩ => ?_
    unfold evS at p
    refine tE_of S sl ((p.bs S sl).mono fun d f1 h1 H1 l1 S1 p1 w rw' => ?_)
    refine tE_of S1 (sl.mono S l1) ((p1.bs S1 (sl.mono S l1)).mono fun d2 f2 h2 H2 l2 S2 p2 w2 rw2 => ?_)
    refine tE_of S2 ((sl.mono S l1).mono S1 l2) ((p2.bs S2 ((sl.mono S l1).mono S1 l2)).mono fun d3 f3 h3 H3 l3 S3 p3 w3 rw3 => ?_)
    obtain ⟨h4, e4, p4⟩ := p3.pureBs (setiD_exc _ _ _ _)
    refine ⟨L, f3, h3, d2, d3, d, S3, rw2.mono S2 l3, rw3, (rw'.mono S1 l2).mono S2 l3, ?_⟩
    have e4 : setiD d2 d3 d h3 = .ok h4 := e4
    simp only [e4]
    exact fun f' H' l S' => p4 f' H' σ l S' ((((sl.mono S l1).mono S1 l2).mono S2 l3).mono S3 l)
  | .aug i o e, x, sc, X, W, c, tk, h => by
    obtain ⟨y, py, o', v, pos, rfl, hq⟩ : ∃ y py o' v pos, x = .AugAssign (.Name y py) o' v pos ∧ (decide (o = o') && decide (o = .Add) && decide (N[i]? = some y) && okNm y && isSt true sc y && mE ⟨N, nm⟩ sc e v) = true := by
      unfold mS at h
      split at h
      all_goals first
        | (rename_i hh; cases hh; exact ⟨_, _, _, _, _, rfl, h⟩)
        | (rename_i hh; cases hh; done)
        | cases h
    simp only [Bool.and_eq_true, decide_eq_true_eq] at hq
    obtain ⟨⟨⟨⟨⟨rfl, rfl⟩, h1⟩, h2⟩, h3⟩, h4⟩ := hq
    obtain ⟨hl, hf⟩ := isSt_of (X := X) c.sc (fun _ => c.fnn) h3
    have hN : X.N[i]? = some y := by rw [c.N]; exact h1
    have pe := (soundE e c.toCOk tk h4).1
    refine PSm (ps_aug c.nd hN hl pe ip_D hf) fun D σ H ⟨L, f, r, hh, S, sl, p⟩ => ?_
    unfold evS at p
    obtain ⟨d0, e0, p0⟩ := p.pureBs getV_exc
    obtain ⟨v0, e1, r0⟩ := sl.at_ i d0 (getV_ok e0)
    refine ⟨v0, e1, tE_of S sl ((p0.bs S sl).mono fun d f1 h1 H1 l1 S1 p1 w rw' => ?_)⟩
    obtain ⟨z, ez, p2⟩ := p1.pureBs (augD_exc _ _)
    refine ⟨L, f1, h1, d0, d, S1, r0.mono S l1, rw', ?_⟩
    have ez : augD d0 d = .ok z := ez
    simp only [ez]
    exact fun H' v l S' rv => p2 f1 H' _ l S' (((sl.mono S l1).mono S1 l).set rv)
  | .expr e, x, sc, X, W, c, tk, h => by
    obtain ⟨v, pos, rfl, hq⟩ : ∃ v pos, x = .Expr v pos ∧ (!isComp v && mE ⟨N, nm⟩ sc e v) = true := by
      unfold mS at h
      split at h
      all_goals first
        | (rename_i hh; cases hh; exact ⟨_, _, rfl, h⟩)
        | (rename_i hh; cases hh; done)
        | cases h
    simp only [Bool.and_eq_true, Bool.not_eq_true'] at hq
    refine PSm (ps_expr (soundE e c.toCOk tk hq.2).1 (swaps_plain hq.1)) fun D σ H ⟨L, f, r, hh, S, sl, p⟩ => ?_
    unfold evS at p
    refine tE_of S sl ((p.bs S sl).mono fun d f1 h1 H1 l1 S1 p1 w rw' => ?_)
    exact p1.here S1 (sl.mono S l1)
  | .ret e, x, sc, X, W, c, tk, h => by
    obtain ⟨v, pos, rfl, hq⟩ : ∃ v pos, x = .Return (some v) pos ∧ (mE ⟨N, nm⟩ sc e v) = true := by
      unfold mS at h
      split at h
      all_goals first
        | (rename_i hh; cases hh; exact ⟨_, _, rfl, h⟩)
        | (rename_i hh; cases hh; done)
        | cases h
    refine PSm (ps_ret (soundE e c.toCOk tk hq).1) fun D σ H ⟨L, f, r, hh, S, sl, p⟩ => ?_
    unfold evS at p
    refine tE_of S sl ((p.bs S sl).mono fun d f1 h1 H1 l1 S1 p1 w rw' => ?_)
    exact p1 f1 H1 w .refl S1 rw'
  | .retn, x, sc, X, W, c, tk, h => by
    obtain ⟨pos, rfl⟩ : ∃ pos, x = .Return none pos := by
      unfold mS at h
      split at h
      all_goals first
        | (rename_i hh; cases hh; done)
        | exact ⟨_, rfl⟩
        | cases h
    exact PSm ps_retN fun D σ H ⟨L, f, r, hh, S, sl, p⟩ => p f H .non .refl S .non
  | .iff t a b, x, sc, X, W, c, tk, h => by
    obtain ⟨v, y, z, pos, rfl, hq⟩ : ∃ v y z pos, x = .If v y z pos ∧ (mE ⟨N, nm⟩ sc t v && mSs ⟨N, nm⟩ sc a y && mSs ⟨N, nm⟩ sc b z) = true := by
      unfold mS at h
      split at h
      all_goals first
        | (rename_i hh; cases hh; exact ⟨_, _, _, _, rfl, h⟩)
        | (rename_i hh; cases hh; done)
        | cases h
    simp only [Bool.and_eq_true] at hq
    obtain ⟨⟨h1, h2⟩, h3⟩ := hq
    refine PSm (ps_if (soundE t c.toCOk tk h1).2 (soundSs a c tk h2) (soundSs b c tk h3)) fun D σ H ⟨L, f, r, hh, S, sl, p⟩ => ?_
    unfold evS at p
    refine ⟨L, f, r, hh, S, sl, ?_⟩
    cases e : evE G t r hh with
    | ok q =>
      rw [e] at p
      simp only [Res.bs_ok] at p
      simp only [Res.bind_ok]
      cases e2 : boolD q.1 with
      | ok k =>
        rw [e2] at p
        intro f1 H1 l1 S1
        cases k with
        | true => exact iteT ⟨L, f1, r, q.2, S1, sl.mono S l1, PostS.later S S1 l1 p⟩
        | false => exact iteF ⟨L, f1, r, q.2, S1, sl.mono S l1, PostS.later S S1 l1 p⟩
      | exc c xs h' => exact absurd e2 (boolD_exc _ _ _)
      | no =>
        rw [e2] at p
        exact p.elim
    | exc c xs h' =>
      rw [e] at p
      exact fun f1 H1 dd l1 S1 => p f1 H1 σ dd l1 S1 (sl.mono S l1)
    | no =>
      rw [e] at p
      exact p.elim
  | .forr t it b, x, sc, X, W, c, tk, h => by
    obtain ⟨tg, iter, body, pos, rfl, hq⟩ : ∃ tg iter body pos, x = .For tg iter body [] pos ∧ (mT ⟨N, nm⟩ true sc t tg && mI ⟨N, nm⟩ sc it iter && mSs ⟨N, nm⟩ sc b body) = true := by
      unfold mS at h
      split at h
      all_goals first
        | (rename_i hh; cases hh; exact ⟨_, _, _, _, rfl, h⟩)
        | (rename_i hh; cases hh; done)
        | cases h
    simp only [Bool.and_eq_true] at hq
    obtain ⟨⟨h1, h2⟩, h3⟩ := hq
    have pg := soundTg (C := ⟨N, nm⟩) (k := true) c.N c.nd c.sc c.calm (fun _ => c.fnn) t _ h1
    refine PSm (ps_for c.own c.calm (soundI it c.toCOk tk h2 tg) pg (soundSs b c tk h3) (mI_set h2)) fun D σ H ⟨L, f, r, hh, S, sl, p⟩ => ?_
    unfold evS at p
    refine ⟨L, f, r, hh, S, sl, (p.bs S sl).mono fun xs f1 h1 H1 l1 S1 p1 J wd => ?_⟩
    obtain ⟨Gd, Y, wk, hG, hY⟩ := wd
    generalize hF : (fun (x : Z9.D) (r1 : Z9.Env) (h1 : Hh) => (setT t x r1).bs r1 fun r2 => evSs G b r2 h1) = F at p1
    refine for_it (G := Gd) (Y := Y) wk (fun i τ H2 => ∃ (f2 : List Addr) (r2 : Z9.Env) (h2 : Hh), Le f1 H1 f2 H2 ∧ SRel X.K L f2 h2 H2 ∧ SlR X.K L f2 H2 r2 τ ∧ PostS X.K L f2 H2 ca W D (forD F (xs.drop i) r2 h2))
      ⟨f1, r, h1, .refl, S1, sl.mono S l1, by simpa using p1⟩ (fun i τ H2 _ ⟨f2, r2, h2, l2, S2, _, _⟩ => hG _ f2 h2 H2 .refl l2 S2) ?_ ?_
    · rintro i x τ H2 H3 hi ⟨f2, r2, h2, l2, S2, sl2, p2⟩ hy
      obtain ⟨d, ed, l3, S3, rd⟩ := hY _ i f2 h2 H2 x H3 hi .refl l2 S2 hy
      have l13 := Le.trans S1 S2 l2 l3
      have ed' : xs[i] = d := by
        rw [List.getElem?_eq_getElem hi] at ed
        exact Option.some.inj ed
      rw [List.drop_eq_getElem_cons hi, ed'] at p2
      unfold forD at p2
      have eF : F d r2 h2 = (setT t d r2).bs r2 fun r2 => evSs G b r2 h2 := by rw [← hF]
      cases k1 : setT t d r2 with
      | no =>
        rw [eF, k1] at p2
        exact p2.elim
      | exc c ys h' => exact absurd k1 (setT_exc _ _ _ _ _ _)
      | ok r3 =>
        rw [k1] at eF
        simp only [Res.bs_ok] at eF
        refine ⟨L, f2, h2, r2, r3, d, S3, sl2.mono S2 l3, rd, k1, fun τ2 sl3 _ => ⟨L, f2, r3, h2, S3, sl3, ?_⟩⟩
        rw [eF] at p2
        have p3 := PostS.later S2 S3 l3 p2
        cases k2 : evSs G b r3 h2 with
        | no =>
          rw [k2] at p3
          exact p3.elim
        | exc c ys h' =>
          rw [k2] at p3
          exact p3.elim
        | ok o =>
          rw [k2] at p3
          cases o with
          | nx r4 h4 => exact fun f4 H4 τ4 l4 S4 sl4 => ⟨f4, r4, h4, Le.trans S1 S3 l13 l4, S4, sl4, PostS.later S3 S4 l4 p3⟩
          | ct r4 h4 => exact fun f4 H4 τ4 l4 S4 sl4 => ⟨f4, r4, h4, Le.trans S1 S3 l13 l4, S4, sl4, PostS.later S3 S4 l4 p3⟩
          | bk r4 h4 => exact p3
          | rt d4 h4 => exact p3
          | ex => exact p3
    · rintro τ H2 ⟨f2, r2, h2, l2, S2, sl2, p2⟩
      rw [List.drop_length] at p2
      exact p2.here S2 sl2
  | .whil t b, x, sc, X, W, c, tk, h => by
    obtain ⟨v, body, pos, rfl, hq⟩ : ∃ v body pos, x = .While v body [] pos ∧ (mE ⟨N, nm⟩ sc t v && mSs ⟨N, nm⟩ sc b body) = true := by
      unfold mS at h
      split at h
      all_goals first
        | (rename_i hh; cases hh; exact ⟨_, _, _, rfl, h⟩)
        | (rename_i hh; cases hh; done)
        | cases h
    simp only [Bool.and_eq_true] at hq
    refine PSm (ps_while c.own (soundE t c.toCOk tk hq.1).2 (soundSs b c tk hq.2)) fun D σ H ⟨L, f, r, hh, S, sl, p⟩ => ?_
    unfold evS at p
    generalize hC : (fun (r1 : Z9.Env) (h1 : Hh) => (evE G t r1 h1).bind fun p => (boolD p.1).bind fun k => Res.ok (k, p.2)) = cF at p
    generalize hB : (fun (r1 : Z9.Env) (h1 : Hh) => evSs G b r1 h1) = bF at p
    unfold whileD at p
    split at p
    · rename_i hex
      refine ⟨fun m τ H2 => ∃ (L : Addr → Prop) (f2 : List Addr) (r2 : Z9.Env) (h2 : Hh), SRel X.K L f2 h2 H2 ∧ SlR X.K L f2 H2 r2 τ ∧ PostS X.K L f2 H2 ca W D (whileN cF bF m r2 h2), ⟨_, L, f, r, hh, S, sl, p⟩, ?_⟩
      rintro m τ H2 ⟨L, f2, r2, h2, S2, sl2, p2⟩
      cases m with
      | zero => exact p2.elim
      | succ m =>
        rw [whileN] at p2
        refine ⟨L, f2, r2, h2, S2, sl2, ?_⟩
        have eC : cF r2 h2 = (evE G t r2 h2).bind fun p => (boolD p.1).bind fun k => Res.ok (k, p.2) := by rw [← hC]
        rw [← eC]
        refine (p2.bs S2 sl2).mono fun k f3 h3 H3 l3 S3 p3 => ?_
        cases k with
        | false => exact iteF (p3.here S3 (sl2.mono S2 l3))
        | true =>
          refine iteT ⟨fun τ' H' => ∃ (L : Addr → Prop) (f2 : List Addr) (r2 : Z9.Env) (h2 : Hh), SRel X.K L f2 h2 H' ∧ SlR X.K L f2 H' r2 τ' ∧ PostS X.K L f2 H' ca W D (whileN cF bF m r2 h2), fun τ' H' q => ⟨m, Nat.lt_succ_self m, q⟩, L, f3, r2, h3, S3, sl2.mono S2 l3, ?_⟩
          simp only [if_true] at p3
          have eB : bF r2 h3 = evSs G b r2 h3 := by rw [← hB]
          rw [eB] at p3
          cases k2 : evSs G b r2 h3 with
          | no =>
            rw [k2] at p3
            exact p3.elim
          | exc c ys h' =>
            rw [k2] at p3
            exact p3.elim
          | ok o =>
            rw [k2] at p3
            cases o with
            | nx r4 h4 => exact fun f4 H4 τ4 l4 S4 sl4 => ⟨L, f4, r4, h4, S4, sl4, PostS.later S3 S4 l4 p3⟩
            | ct r4 h4 => exact fun f4 H4 τ4 l4 S4 sl4 => ⟨L, f4, r4, h4, S4, sl4, PostS.later S3 S4 l4 p3⟩
            | bk r4 h4 => exact p3
            | rt d4 h4 => exact p3
            | ex => exact p3
    · exact p.elim
  | .brk, x, sc, X, W, c, tk, h => by
    obtain ⟨pos, rfl⟩ : ∃ pos, x = .Break pos := by
      unfold mS at h
      split at h
      all_goals first
        | (rename_i hh; cases hh; done)
        | exact ⟨_, rfl⟩
        | cases h
    exact PSm ps_break fun D σ H ⟨L, f, r, hh, S, sl, p⟩ => p f H σ .refl S sl
  | .cont, x, sc, X, W, c, tk, h => by
    obtain ⟨pos, rfl⟩ : ∃ pos, x = .Continue pos := by
      unfold mS at h
      split at h
      all_goals first
        | (rename_i hh; cases hh; done)
        | exact ⟨_, rfl⟩
        | cases h
    exact PSm ps_continue fun D σ H ⟨L, f, r, hh, S, sl, p⟩ => p f H σ .refl S sl
  | .pass, x, sc, X, W, c, tk, h => by
    obtain ⟨pos, rfl⟩ : ∃ pos, x = .Pass pos := by
      unfold mS at h
      split at h
      all_goals first
        | (rename_i hh; cases hh; done)
        | exact ⟨_, rfl⟩
        | cases h
    exact PSm ps_pass fun D σ H ⟨L, f, r, hh, S, sl, p⟩ => p f H σ .refl S sl
  | .rais k es, x, sc, X, W, c, tk, h => by
    obtain ⟨y, p1, xs, p2, pos, rfl, hq⟩ : ∃ y p1 xs p2 pos, x = .Raise (some (.Call (.Name y p1) xs [] p2)) none pos ∧ (decide (nm[k]? = some y) && isGl sc y && okNm y && nilBoth es xs) = true := by
      unfold mS at h
      split at h
      all_goals first
        | (rename_i hh; cases hh; exact ⟨_, _, _, _, _, rfl, h⟩)
        | (rename_i hh; cases hh; done)
        | cases h
    simp only [Bool.and_eq_true, decide_eq_true_eq] at hq
    obtain ⟨⟨⟨h1, h2⟩, h3⟩, h4⟩ := hq
    obtain ⟨a1, _, _⟩ := okNm_of h3
    unfold nilBoth at h4
    split at h4
    · cases ek : G.exk k with
      | false =>
        exact ⟨fun pins s σ H D I ⟨L, f, r, hh, S, sl, p⟩ => by
          unfold evS at p
          rw [ek] at p
          exact p.elim⟩
      | true =>
        obtain ⟨C, bmB, B, nw, ii, F, q, gC, kC, rs, ec⟩ := c.exs k y ek h1
        refine PSm (ps_raise c.calm tk (pmk_own0 F q gC kC rs (isGl_gl c.toCOk h2) a1)) fun D σ H ⟨L, f, r, hh, S, sl, p⟩ => ?_
        unfold evS at p
        rw [ek] at p
        simp only [if_true, evEs, Res.bs_ok] at p
        have := p f H σ none .refl S sl
        rw [ec] at this
        exact this
    · cases h4
  | .rai1 k e, x, sc, X, W, c, tk, h => by
    obtain ⟨y, p1, y1, p2, pos, rfl, hq⟩ : ∃ y p1 y1 p2 pos, x = .Raise (some (.Call (.Name y p1) [y1] [] p2)) none pos ∧ (decide (nm[k]? = some y) && isGl sc y && okNm y && mE ⟨N, nm⟩ sc e y1) = true := by
      unfold mS at h
      split at h
      all_goals first
        | (rename_i hh; cases hh; exact ⟨_, _, _, _, _, rfl, h⟩)
        | (rename_i hh; cases hh; done)
        | cases h
    simp only [Bool.and_eq_true, decide_eq_true_eq] at hq
    obtain ⟨⟨⟨h1, h2⟩, h3⟩, h4⟩ := hq
    obtain ⟨a1, _, _⟩ := okNm_of h3
    have no : (∀ cn fl, G.mkc k ≠ some (cn, some fl)) → PS X (.Raise (some (.Call (.Name y p1) [y1] [] p2)) none pos) (tS X.K ca W G (.rai1 k e)) := fun hn => ⟨fun pins s σ H D I ⟨L, f, r, hh, S, sl, p⟩ => by
      unfold evS at p
      split at p
      · rename_i cn fl eg
        exact absurd eg (hn _ _)
      · exact p.elim⟩
    cases eg : G.mkc k with
    | none => exact no fun _ _ z => by rw [eg] at z; cases z
    | some m =>
      obtain ⟨cn, o⟩ := m
      cases o with
      | none => exact no fun _ _ z => by rw [eg] at z; cases z
      | some fl =>
        obtain ⟨hlv, C, fI, fd, ps, oex, fi, ti, Fi, bi, gC, nmc, ec⟩ := c.gam.mkc k y cn _ eg h1
        have hr : Room 2 X.A := c.room.mono hlv
        have pa := pa_cons (soundE e c.toCOk tk h4).1 pa_nil (star_cons (mE_plain h4).1)
        refine PSm (ps_raise c.calm tk (pmk_oex (CX := L2.CX X.prog X.w) oex fi ti Fi hr bi .nil (fun _ _ _ _ _ _ _ z => by
          obtain ⟨_, _, _, _, _, _, _, _, _, _, _, _, z⟩ := z
          exact z.elim) (isGl_gl c.toCOk h2) gC pa a1 (star_cons (mE_plain h4).1) rfl)) fun D σ H ⟨L, f, r, hh, S, sl, p⟩ => ?_
        unfold evS at p
        rw [eg] at p
        refine tE_of S sl ((p.bs S sl).mono fun d0 f1 h1 H1 l1 S1 p1 v rv => ?_)
        refine ⟨by simp, fun a ha => ⟨a, v, rfl, upd_same, fun d hd hne => ⟨rfl, d, [(fl, v)], upd_same, (upd_ne hne).trans upd_same, ?_, ?_⟩⟩⟩
        · rw [upd_ne hne] at hd
          exact hd
        · have hd' : H1 d = none := by
            rw [upd_ne hne] at hd
            exact hd
          have heq : upd (del (upd (upd (upd H1 a (exo a C none)) d (exd d [(fl, v)])) a (exo a C (some d))) a) d (.xd [(fl, v)]) = upd H1 d (.xd [(fl, v)]) := by
            funext b
            by_cases z1 : b = d
            · rw [z1, upd_same, upd_same]
            · rw [upd_ne z1, upd_ne z1]
              by_cases z2 : b = a
              · rw [z2, del_same, ha]
              · rw [del_ne z2, upd_ne z2, upd_ne z1, upd_ne z2]
          rw [heq]
          obtain ⟨l2, S2, m1, m2⟩ := S1.alloc (o := .xd [(fl, v)]) hd'
          have := p1 f1 _ σ (some d) l2 S2 ((sl.mono S l1).mono S1 l2)
          rw [ec] at this
          exact this
  | .tryy b hs, x, sc, X, W, c, tk, h => by
    obtain ⟨body, hds, pos, rfl, hq⟩ : ∃ body hds pos, x = .Try body hds [] [] pos ∧ (notNil hds && mSs ⟨N, nm⟩ sc b body && mH ⟨N, nm⟩ sc hs hds) = true := by
      unfold mS at h
      split at h
      all_goals first
        | (rename_i hh; cases hh; exact ⟨_, _, _, rfl, h⟩)
        | (rename_i hh; cases hh; done)
        | cases h
    simp only [Bool.and_eq_true] at hq
    obtain ⟨⟨h1, h2⟩, h3⟩ := hq
    cases hds with
    | nil => cases h1
    | cons h0 hds =>
      cases hk : hsOk G hs with
      | false =>
        exact ⟨fun pins s σ H D I ⟨L, f, r, hh, S, sl, p⟩ => by
          unfold evS at p
          rw [hk] at p
          exact p.elim⟩
      | true =>
      refine PSm (ps_try_many (tb := fun W' => tSs X.K ca W' G b) c.stk c.frm tk (fun W' pn xe tk' po => soundSs b (X := X.tr pn xe) ⟨⟨c.N, c.nd, c.sc, c.calm, c.room, c.gam⟩, c.fnn, c.stk, c.frm, po, c.exs, c.hnd, c.hcl⟩ tk' h2) (hds_ok c hs hk h3)) fun D σ H ⟨L, f, r, hh, S, sl, p⟩ => ?_
      unfold evS at p
      rw [hk] at p
      simp only [if_true] at p
      refine ⟨L, f, r, hh, S, sl, ?_⟩
      cases e : evSs G b r hh with
      | no =>
        rw [e] at p
        exact p.elim
      | exc cc ys h' =>
        rw [e] at p
        exact p.elim
      | ok o =>
        rw [e] at p
        cases o with
        | nx => exact p
        | rt => exact p
        | bk => exact p
        | ct => exact p
        | ex cc ys r' h' => exact fun f' H' σ' dd l' S' sl' => handle_go c hs h3 S' sl' (PostS.later S S' l' p)
theorem soundSs : ∀ (s : Sms) {x : List Stmt} {sc : Scope} {X : Cx} {W : WX}, SOk nm ca G lv N sc X → Takes X W → mSs ⟨N, nm⟩ sc s x = true → PSs X x (tSs X.K ca W G s)
  | .nil, [], sc, X, W, c, tk, h => PSsm pss_nil fun D σ H ⟨L, f, r, hh, S, sl, p⟩ => p.here S sl
  | .nil, _ :: _, sc, X, W, c, tk, h => by simp [mSs] at h
  | .cons s ss, [], sc, X, W, c, tk, h => by simp [mSs] at h
  | .cons s ss, x :: xs, sc, X, W, c, tk, h => by
    simp only [mSs, Bool.and_eq_true] at h
    refine PSsm (pss_cons (soundS s c tk h.1) (soundSs ss c tk h.2)) fun D σ H ⟨L, f, r, hh, S, sl, p⟩ => ?_
    unfold evSs at p
    refine ⟨L, f, r, hh, S, sl, ?_⟩
    cases e : evS G s r hh with
    | exc c xs h' =>
      rw [e] at p
      exact p.elim
    | no =>
      rw [e] at p
      exact p.elim
    | ok o =>
      rw [e] at p
      simp only [Res.bind_ok] at p
      cases o with
      | nx r' h' => exact fun f' H' σ' l S' sl' => ⟨L, f', r', h', S', sl', PostS.later S S' l p⟩
      | rt => exact p
      | bk => exact p
      | ct => exact p
      | ex => exact p
end
end
end Z9

set_option Elab.async false
set_option linter.all false
set_option maxRecDepth 100000
set_option maxHeartbeats 4000000
/-! E13: defs and the law's end. -/
namespace Z9
open PySem PySem.Spec PyProof.Rows L2

mutual
/-- no changing place within -/
def pureD : D → Bool
  | .ref _ => false
  | .tup xs => pureDs xs
  | .lst xs => pureDs xs
  | .dic _ xs => pureDs xs
  | .exc _ _ xs => pureDs xs
  | _ => true
def pureDs : List D → Bool
  | [] => true
  | x :: xs => pureD x && pureDs xs
end
/-- data that stays: a changing list of such is read off -/
def frzD (h : Hh) (d : D) : Option D := if pureD d then some d else match d with
  | .ref i => match h[i]? with
    | some (.lst xs) => if pureDs xs then some (.lst xs) else none
    | _ => none
  | _ => none
/-- a def that is called with what stays, and gives what stays: the state is not asked -/
def pureF (g : List D → Hh → Res (D × Hh)) (ds : List D) (h : Hh) : Res (D × Hh) :=
  if pureDs ds then match g ds [] with
    | .ok (d, h') => match frzD h' d with
      | some d' => .ok (d', h)
      | none => .no
    | .exc c xs _ => .exc c xs h
    | .no => .no
  else .no
/-- g' says what g says, where it says something -/
def LeF (g' g : List D → Hh → Res (D × Hh)) : Prop := ∀ ds h, g' ds h ≠ .no → g ds h = g' ds h

section
variable {K : PySem.W.Frag} {L : Addr → Prop} {f : List Addr} {h : Hh} {H : Hp}
mutual
theorem Rep.iso : ∀ {v : V} {d : D}, pureD d = true → Rep K L f H v d → Rep K (fun a => L a ∨ a ∈ f) [] H v d
  | _, _, _, .non => .non
  | _, _, _, .bl b => .bl b
  | _, _, _, .int i => .int i
  | _, _, _, .str s a b => .str s a b
  | _, _, p, .tup hs r => .tup hs (RepL.iso (by simpa [pureD] using p) r)
  | _, _, p, .lst e nl nf r => .lst e (fun x => x.elim nl nf) (by simp) (RepL.iso (by simpa [pureD] using p) r)
  | _, _, p, .ref e => by simp [pureD] at p
  | _, _, p, .dic e l nl nf r => .dic e l (fun x => x.elim nl nf) (by simp) (RepL.iso (by simpa [pureD] using p) r)
  | _, _, p, .exc e c nl nf z x r => .exc e c (fun x => x.elim nl nf) (by simp) z (x.imp id fun ⟨d, e1, e, nl, nf⟩ => ⟨d, e1, e, (fun x => x.elim nl nf), by simp⟩) (RepL.iso (by simpa [pureD] using p) r)
  | _, _, _, .scr hs => .scr (by
      rcases hs with ⟨e, nl, nf⟩ | k
      · exact .inl ⟨e, fun x => x.elim nl nf, by simp⟩
      · exact .inr k)
theorem RepL.iso : ∀ {vs : List V} {ds : List D}, pureDs ds = true → RepL K L f H vs ds → RepL K (fun a => L a ∨ a ∈ f) [] H vs ds
  | _, _, _, .nil => .nil
  | _, _, p, .cons r t => by
    simp only [pureDs, Bool.and_eq_true] at p
    exact .cons (Rep.iso p.1 r) (RepL.iso p.2 t)
end
mutual
theorem Rep.out {f2 : List Addr} : ∀ {v : V} {d : D}, pureD d = true → Rep K (fun a => L a ∨ a ∈ f) f2 H v d → Rep K L f H v d
  | _, _, _, .non => .non
  | _, _, _, .bl b => .bl b
  | _, _, _, .int i => .int i
  | _, _, _, .str s a b => .str s a b
  | _, _, p, .tup hs r => .tup hs (RepL.out (by simpa [pureD] using p) r)
  | _, _, p, .lst e nl nf r => .lst e (fun x => nl (.inl x)) (fun x => nl (.inr x)) (RepL.out (by simpa [pureD] using p) r)
  | _, _, p, .ref e => by simp [pureD] at p
  | _, _, p, .dic e l nl nf r => .dic e l (fun x => nl (.inl x)) (fun x => nl (.inr x)) (RepL.out (by simpa [pureD] using p) r)
  | _, _, p, .exc e c nl nf z x r => .exc e c (fun x => nl (.inl x)) (fun x => nl (.inr x)) z (x.imp id fun ⟨d, e1, e, nl, nf⟩ => ⟨d, e1, e, (fun x => nl (.inl x)), (fun x => nl (.inr x))⟩) (RepL.out (by simpa [pureD] using p) r)
  | _, _, _, .scr hs => .scr (by
      rcases hs with ⟨e, nl, nf⟩ | k
      · exact .inl ⟨e, fun x => nl (.inl x), fun x => nl (.inr x)⟩
      · exact .inr k)
theorem RepL.out {f2 : List Addr} : ∀ {vs : List V} {ds : List D}, pureDs ds = true → RepL K (fun a => L a ∨ a ∈ f) f2 H vs ds → RepL K L f H vs ds
  | _, _, _, .nil => .nil
  | _, _, p, .cons r t => by
    simp only [pureDs, Bool.and_eq_true] at p
    exact .cons (Rep.out p.1 r) (RepL.out p.2 t)
end
theorem frz_rep {f2 : List Addr} {h2 : Hh} {v : V} {d d' : D} (S : SRel K (fun a => L a ∨ a ∈ f) f2 h2 H) (r : Rep K (fun a => L a ∨ a ∈ f) f2 H v d) (e : frzD h2 d = some d') : Rep K L f H v d' := by
  unfold frzD at e
  split at e
  · rename_i hp
    cases e
    exact r.out hp
  · split at e
    · rename_i i _
      split at e
      · rename_i xs ei
        split at e
        · rename_i hp
          cases e
          obtain ⟨a, ds, vs, e1, e2, e3, rr⟩ := S.obj i _ ei
          cases e2
          cases r with
          | ref e4 =>
            rw [e1] at e4
            cases e4
            have nl := S.dis a (List.mem_of_getElem? e1)
            exact .lst e3 (fun x => nl (.inl x)) (fun x => nl (.inr x)) (RepL.out hp rr)
        · cases e
      · cases e
    · cases e
end

section
variable {P : Program} {w : World} {K : PySem.W.Frag} {mg : Str → Option Value} {base : Heap} {ca : Nat → Value}
theorem spG_le {n : Nat} {g g' : List D → Hh → Res (D × Hh)} (hl : LeF g' g) {vs : List V} {H : Hp} {Q : VK} {E : XK} (q : spG K ca n g' vs H Q E) : spG K ca n g vs H Q E := by
  obtain ⟨hn, L, f, h, ds, S, r, p⟩ := q
  refine ⟨hn, L, f, h, ds, S, r, ?_⟩
  have ne : g' ds h ≠ .no := fun z => by
    rw [z] at p
    exact p.elim
  rw [hl ds h ne]
  exact p
theorem spG_pure {n : Nat} {g : List D → Hh → Res (D × Hh)} {vs : List V} {H : Hp} {Q : VK} {E : XK} (q : spG K ca n (pureF g) vs H Q E) : spG K ca n g vs H Q E := by
  obtain ⟨hn, L, f, h, ds, S, r, p⟩ := q
  unfold pureF at p
  by_cases hp : pureDs ds = true
  · rw [if_pos hp] at p
    refine ⟨hn, fun a => L a ∨ a ∈ f, [], [], ds, ⟨rfl, List.nodup_nil, fun a x => x.elim (S.out a) fun m => ?_, fun a m => by simp at m, fun i d e => by simp at e⟩, RepL.iso hp r, ?_⟩
    · obtain ⟨vs, e⟩ := S.at m
      rw [e]
      exact fun z => nomatch z
    · have back : ∀ {f2 : List Addr} {H2 : Hp}, Le [] H f2 H2 → Le f H f H2 ∧ SRel K L f h H2 := fun {f2 H2} l2 => by
        have l : Le f H f H2 := ⟨⟨[], by simp, by simp⟩, fun a o e _ => l2.keep a o e (by simp)⟩
        refine ⟨l, S.len, S.nd, fun a x z => ?_, S.dis, fun i d e => ?_⟩
        · have := S.out a x
          cases k : H a with
          | none => exact this k
          | some o =>
            rw [l2.keep a o k (by simp)] at z
            cases z
        · obtain ⟨a, ds, vs, e1, e2, e3, rr⟩ := S.obj i d e
          exact ⟨a, ds, vs, e1, e2, l2.keep _ _ e3 (by simp), RepL.mono S l rr⟩
      cases k : g ds [] with
      | ok z =>
        obtain ⟨d, h'⟩ := z
        rw [k] at p
        simp only at p
        cases k2 : frzD h' d with
        | none =>
          rw [k2] at p
          exact p.elim
        | some d' =>
          rw [k2] at p
          intro f2 H2 l2 S2 v rv
          obtain ⟨l, S'⟩ := back l2
          exact p f H2 l S' v (frz_rep S2 rv k2)
      | exc c xs h' =>
        rw [k] at p
        intro f2 H2 dd l2 S2
        obtain ⟨l, S'⟩ := back l2
        exact p f H2 dd l S'
      | no =>
        rw [k] at p
        exact p.elim
  · rw [if_neg hp] at p
    exact p.elim

/-- a def that gives g, as it is called by its name -/
def DefAt (P : Program) (w : World) (K : PySem.W.Frag) (mg : Str → Option Value) (base : Heap) (ca : Nat → Value) (lv : Nat) (x : Str) (n : Nat) (g : List D → Hh → Res (D × Hh)) : Prop :=
  ∃ (fa : Addr) (fd : FuncData) (ps : List Str), mg x = some (.ref fa) ∧ PySem.W.keepIn K (.ref fa) = true ∧ Binds K fd ps [] ∧ ps.length = n ∧ FnOk P w K mg base (L2.CX P w) lv fa fd ps (spG K ca n g)
theorem DefAt.up {lv lv' : Nat} {x : Str} {n : Nat} {g : List D → Hh → Res (D × Hh)} (d : DefAt P w K mg base ca lv x n g) (h : lv ≤ lv') : DefAt P w K mg base ca lv' x n g :=
  let ⟨fa, fd, ps, a, b, c, e, F⟩ := d
  ⟨fa, fd, ps, a, b, c, e, F.mono h⟩
theorem DefAt.le {lv : Nat} {x : Str} {n : Nat} {g g' : List D → Hh → Res (D × Hh)} (d : DefAt P w K mg base ca lv x n g) (h : LeF g' g) : DefAt P w K mg base ca lv x n g' :=
  let ⟨fa, fd, ps, a, b, c, e, F⟩ := d
  ⟨fa, fd, ps, a, b, c, e, F.imp fun _ _ _ _ q => spG_le h q⟩
theorem DefAt.pure {lv : Nat} {x : Str} {n : Nat} {g : List D → Hh → Res (D × Hh)} (d : DefAt P w K mg base ca lv x n g) : DefAt P w K mg base ca lv x n (pureF g) :=
  let ⟨fa, fd, ps, a, b, c, e, F⟩ := d
  ⟨fa, fd, ps, a, b, c, e, F.imp fun _ _ _ _ q => spG_pure q⟩

/-- a def of the text, where it stands -/
def Stands (K : PySem.W.Frag) (mg : Str → Option Value) (x : Str) (st : Stmt) (ps : List Str) : Prop :=
  ∃ (f : Addr) (fd : FuncData), mg x = some (.ref f) ∧ Fun K x x st f fd ∧ Binds K fd ps []
/-- what is known of the classes of errors -/
structure XOk (nm : List Str) (ca : Nat → Value) (exk cls : Nat → Bool) (sub : Nat → Nat → Option Bool) (K : PySem.W.Frag) (mg : Str → Option Value) : Prop where
  exs : ∀ k x, exk k = true → nm[k]? = some x → ∃ (C : Addr) (bmB : List Value) (B newId initId : String), ExcBaseFacts B newId initId bmB ∧ PySem.W.excIn K C bmB newId = true ∧ mg x = some (.ref C) ∧ PySem.W.keepIn K (.ref C) = true ∧
    (PySem.W.subIn K (.ref C) (.type "BaseException") = some true ∧ PySem.W.typeIn K (.ref C) = some (.type "type")) ∧ ca k = .ref C
  hnd : ∀ c k x b, sub c k = some b → nm[k]? = some x → PySem.W.exmOne K (ca c) (ca k) = some b
  hcl : ∀ k x, nm[k]? = some x → cls k = true → mg x = some (ca k) ∨ (mg x = none ∧ bootBuiltins x = some (ca k) ∧ x ≠ "__name__")

/-- THE RULE for a def -/
theorem def_fn {nm : List Str} {G : Gam} {lv : Nat} {x : Str} {st : Stmt} {f : Addr} {fd : FuncData} {N ps : List Str} {ir : Sms} (F : Fun K x x st f fd) (sc : FnScope N ps (defScope st)) (hm : mSs ⟨N, nm⟩ (defScope st) ir (defBody st) = true)
    (g : GOk nm ca G lv P w K mg base) (xo : XOk nm ca G.exk G.cls G.sub K mg) : FnOk P w K mg base (L2.CX P w) (lv + 1) f fd ps (spG K ca ps.length (runD G N.length ir)) := by
  refine F.okX sc (fun vs H Q E h => h.1) fun cdv A outer s H vs Q E hr h => ?_
  obtain ⟨hn, L, fl, hh, ds, S, r, p⟩ := h
  refine ⟨_, soundSs (W := fun cls d _ H => E cls d H) ir ⟨⟨rfl, sc.nd, rfl, rfl, hr, g⟩, fun _ => rfl, rfl, rfl, passes_of rfl, fun k x a b => ?_, xo.hnd, xo.hcl⟩ (takes_of rfl rfl rfl rfl) hm, ?_⟩
  · obtain ⟨C, bmB, B, nw, ii, h1, h2, h3, h4, h5, h6⟩ := xo.exs k x a b
    exact ⟨C, bmB, B, nw, ii, h1, h2, h3, h4, raises_own h5.1 h5.2, h6⟩
  · refine ⟨L, fl, ds.map some ++ List.replicate (N.length - ds.length) none, hh, S, ?_, ?_⟩
    · have hl := r.length
      have hN : ps.length ≤ N.length := by
        have := congrArg List.length sc.pre
        rw [List.length_take] at this
        omega
      refine ⟨by simp [L2.start, hl], fun i d e => ?_⟩
      by_cases hi : i < ds.length
      · rw [List.getElem?_append_left (by simpa using hi), List.getElem?_map] at e
        cases k : ds[i]? with
        | none => rw [k] at e; cases e
        | some d' =>
          rw [k] at e
          cases e
          obtain ⟨v, h1, h2⟩ := r.get k
          refine ⟨v, ?_, h2⟩
          unfold L2.start
          rw [List.getElem?_append_left (by simpa [hl] using hi), List.getElem?_map, h1]
          rfl
      · rw [List.getElem?_append_right (by simpa using hi)] at e
        rw [List.getElem?_replicate] at e
        split at e <;> cases e
    · have p' := p
      unfold runD at p'
      cases k : evSs G ir (ds.map some ++ List.replicate (N.length - ds.length) none) hh with
      | no =>
        rw [k] at p'
        exact p'.elim
      | exc c xs h' =>
        rw [k] at p'
        exact p'.elim
      | ok o =>
        rw [k] at p'
        cases o with
        | nx r' h' => exact fun f' H' σ' l S' sl' => p' f' H' l S' .non .non
        | rt d h' => exact fun f' H' v l S' rv => p' f' H' l S' v rv
        | bk r' h' => exact p'.elim
        | ct r' h' => exact p'.elim
        | ex c xs r' h' => exact fun f' H' σ' dd l S' sl' => p' f' H' dd l S'
theorem def_at {nm : List Str} {G : Gam} {lv : Nat} {x : Str} {st : Stmt} {N ps : List Str} {ir : Sms} (T : Stands K mg x st ps) (sc : FnScope N ps (defScope st)) (hm : mSs ⟨N, nm⟩ (defScope st) ir (defBody st) = true)
    (g : GOk nm ca G lv P w K mg base) (xo : XOk nm ca G.exk G.cls G.sub K mg) : DefAt P w K mg base ca (lv + 1) x ps.length (runD G N.length ir) :=
  let ⟨f, fd, hmg, F, hb⟩ := T
  ⟨f, fd, ps, hmg, F.kp, hb, rfl, def_fn F sc hm g xo⟩
end
end Z9

set_option Elab.async false
set_option linter.all false
set_option maxRecDepth 100000
set_option maxHeartbeats 4000000
/-! E14: tables of known things, the law's end. -/
namespace Z9
open PySem PySem.Spec PyProof.Rows L2

abbrev Fn := List D → Hh → Res (D × Hh)
/-- classes of errors: number and base's numbers -/
def subOf (t : List (Nat × List Nat)) (c k : Nat) : Option Bool := if (t.map (·.1)).contains k then (t.lookup c).map fun l => l.contains k else none
/-- errors as values: those that are made (number, name, field), what is of which class (name, number, whether), fields -/
structure XTab where
  mks : List (Nat × Str × Option Str) := []
  ks : List Nat := []
  cs : List (Str × List Nat) := []
  fl : List (Str × Str) := []
def mkG (fns : List (Nat × Nat × Fn)) (cons : List (Nat × D)) (t : List (Nat × List Nat)) (ex : List Nat) (xt : XTab := {}) : Gam where
  mkc k := xt.mks.lookup k
  esub c k := if xt.ks.contains k then (xt.cs.lookup c).map fun l => l.contains k else none
  efl c n := xt.fl.contains (c, n)
  fn k := fns.lookup k
  con k := cons.lookup k
  sub := subOf t
  exk k := ex.contains k
  cls k := (t.map (·.1)).contains k
theorem mem_of_look {α : Type} : ∀ {l : List (Nat × α)} {k : Nat} {a : α}, l.lookup k = some a → (k, a) ∈ l
  | [], _, _, h => by cases h
  | (j, b) :: l, k, a, h => by
    rw [List.lookup_cons] at h
    split at h
    · rename_i e
      cases h
      have : k = j := by simpa using e
      subst this
      exact List.mem_cons_self
    · exact List.mem_cons_of_mem _ (mem_of_look h)
section
variable {nm : List Str} {P : Program} {w : World} {K : PySem.W.Frag} {mg : Str → Option Value} {base : Heap} {ca : Nat → Value} {lv : Nat}
/-- what is known of the constants -/
def ConOk (nm : List Str) (K : PySem.W.Frag) (mg : Str → Option Value) (cons : List (Nat × D)) : Prop := ∀ p ∈ cons, ∀ x, nm[p.1]? = some x → ∃ v u, mg x = some u ∧ RelV v u ∧ ∀ L f H, Rep K L f H v p.2
theorem mem_of_look2 {α β : Type} [BEq α] [LawfulBEq α] : ∀ {l : List (α × β)} {k : α} {a : β}, l.lookup k = some a → (k, a) ∈ l
  | [], _, _, h => by cases h
  | (j, b) :: l, k, a, h => by
    rw [List.lookup_cons] at h
    split at h
    · rename_i e
      cases h
      rw [eq_of_beq e]
      exact List.mem_cons_self
    · exact List.mem_cons_of_mem _ (mem_of_look2 h)
/-- what is known of the errors that are values -/
structure XtOk (nm : List Str) (P : Program) (w : World) (K : PySem.W.Frag) (mg : Str → Option Value) (base : Heap) (ca : Nat → Value) (lv : Nat) (xt : XTab) : Prop where
  mks : ∀ p ∈ xt.mks, ∀ x, nm[p.1]? = some x → MkcAt P w K mg base lv (ca p.1) x p.2.1 p.2.2
  sub : ∀ k ∈ xt.ks, ∀ x, nm[k]? = some x → ∃ v cv, ClsV v cv ∧ RelV v cv ∧ (mg x = some cv ∨ (mg x = none ∧ bootBuiltins x = some cv)) ∧ ∀ p ∈ xt.cs, ∀ C, clsNm K C = some p.1 → EcK K C ∧ PySem.W.kitOne K (.ref C) cv = some (p.2.contains k)
  fl : ∀ p ∈ xt.fl, ∀ C, clsNm K C = some p.1 → XfC K C ∧ PySem.W.findIn K (.ref C) p.2 = some none
theorem xt_nil : XtOk nm P w K mg base ca lv {} := ⟨(fun _ m => by cases m), (fun _ m => by cases m), (fun _ m => by cases m)⟩
theorem gok_of {fns : List (Nat × Nat × Fn)} {cons : List (Nat × D)} {t : List (Nat × List Nat)} {ex : List Nat} {xt : XTab} (hf : ∀ p ∈ fns, ∃ x, nm[p.1]? = some x ∧ DefAt P w K mg base ca lv x p.2.1 p.2.2)
    (hc : ConOk nm K mg cons) (hb : ∀ x ∈ bnames, mg x = none) (hx : XtOk nm P w K mg base ca lv xt := by exact xt_nil) : GOk nm ca (mkG fns cons t ex xt) lv P w K mg base where
  mkc k x c o e hn := hx.mks _ (mem_of_look2 e) x hn
  esub k x e hn := by
    obtain ⟨c, b, e⟩ := e
    have e : (if xt.ks.contains k then (xt.cs.lookup c).map fun l => l.contains k else none) = some b := e
    split at e
    · rename_i hk
      obtain ⟨v, cv, h1, h2, h3, h4⟩ := hx.sub k (List.contains_iff_mem.mp hk) x hn
      refine ⟨v, cv, h1, h2, h3, fun c b C e2 hc => ?_⟩
      have e2 : (if xt.ks.contains k then (xt.cs.lookup c).map fun l => l.contains k else none) = some b := e2
      rw [if_pos hk] at e2
      cases el : xt.cs.lookup c with
      | none => rw [el] at e2; cases e2
      | some l =>
        rw [el] at e2
        cases e2
        exact h4 (c, l) (mem_of_look2 el) C hc
    · cases e
  efl c n C e hc := hx.fl (c, n) (List.contains_iff_mem.mp e) C hc
  fn k n g x e hx := by
    obtain ⟨y, h1, h2⟩ := hf _ (mem_of_look e)
    rw [hx] at h1
    cases h1
    exact h2
  con k d x e hx := hc _ (mem_of_look e) x hx
  blt := hb
/-- a text as a constant of the module -/
theorem con_str {x : Str} {s : List Nat} (h : ∃ t, mg x = some (.str ⟨s.toArray⟩ t)) (ho : ∀ c ∈ s, c < 0x110000) (hz : s.length ≤ sizeLine) : ∃ v u, mg x = some u ∧ RelV v u ∧ ∀ L f H, Rep K L f H v (.str s) :=
  let ⟨t, e⟩ := h
  ⟨.str ⟨s.toArray⟩, _, e, ⟨t, rfl⟩, fun _ _ _ => .strOf ho hz⟩
theorem con_int {x : Str} {i : Int} (h : ∃ t, mg x = some (.int i t)) : ∃ v u, mg x = some u ∧ RelV v u ∧ ∀ L f H, Rep K L f H v (.int i) :=
  let ⟨t, e⟩ := h
  ⟨.int i, _, e, ⟨t, rfl⟩, fun _ _ _ => .int i⟩
/-- an error's class, where it stands -/
def XAt (K : PySem.W.Frag) (mg : Str → Option Value) (x : Str) (C : Addr) : Prop := ∃ (bmB : List Value) (B newId initId : String), ExcBaseFacts B newId initId bmB ∧ PySem.W.excIn K C bmB newId = true ∧ mg x = some (.ref C) ∧ PySem.W.keepIn K (.ref C) = true ∧
    (PySem.W.subIn K (.ref C) (.type "BaseException") = some true ∧ PySem.W.typeIn K (.ref C) = some (.type "type"))

/-- law's promise -/
def spLaw (K : PySem.W.Frag) : Sp := fun vs H Q _ => ∃ (a : Addr) (ns : List Int), vs = [.ref a] ∧ SqL K H a (ns.map V.int) ∧ ns.length ≤ 63 ∧ ∀ H', Q (.bl true) H'
theorem law_end {x : Str} {g : Fn} {fa : Addr} {fd : FuncData} {ps : List Str} (F : FnOk P w K mg base (L2.CX P w) lv fa fd ps (spG K ca 1 g)) (hg : ∀ ns : List Int, ns.length ≤ 63 → ∃ h, g [.scr ns] [] = .ok (.bl true, h)) :
    FnOk P w K mg base (L2.CX P w) lv fa fd ps (spLaw K) := by
  refine F.imp fun vs H Q E q => ?_
  obtain ⟨p, ns, rfl, hq, hl, k⟩ := q
  obtain ⟨h, eg⟩ := hg ns hl
  refine ⟨rfl, fun _ => False, [], [], [.scr ns], ⟨rfl, List.nodup_nil, fun _ z => z.elim, fun _ m => by simp at m, fun i d e => by simp at e⟩, .cons (.scr ?_) .nil, ?_⟩
  · rcases hq with r | r
    · exact .inl ⟨r, fun z => z, by simp⟩
    · exact .inr r
  · rw [eg]
    intro f' H' _ _ v rv
    rw [rv.blE]
    exact k H'
end
end Z9

set_option Elab.async false
set_option linter.all false
set_option maxRecDepth 100000
set_option maxHeartbeats 4000000
/-! E15: what the printed texts use. -/
namespace Z9
open PySem PySem.Spec PyProof.Rows L2

theorem all_cons {α : Type} {R : α → Prop} {a : α} {l : List α} (h : R a) (t : ∀ x ∈ l, R x) : ∀ x ∈ a :: l, R x := fun x m => by
  rcases List.mem_cons.mp m with e | e
  · exact e ▸ h
  · exact t x e
theorem all_nil {α : Type} {R : α → Prop} : ∀ x ∈ ([] : List α), R x := fun x m => by cases m
def caL (l : List (Nat × Addr)) (k : Nat) : Value := match l.lookup k with
  | some a => .ref a
  | none => .none
section
variable {nm : List Str} {P : Program} {w : World} {K : PySem.W.Frag} {mg : Str → Option Value} {base : Heap} {ca : Nat → Value} {lv : Nat}
theorem hf_cons {x : Str} {k n : Nat} {g : Fn} {fns : List (Nat × Nat × Fn)} (hx : nm[k]? = some x) (d : DefAt P w K mg base ca lv x n g) (t : ∀ p ∈ fns, ∃ x, nm[p.1]? = some x ∧ DefAt P w K mg base ca lv x p.2.1 p.2.2) :
    ∀ p ∈ (k, n, g) :: fns, ∃ x, nm[p.1]? = some x ∧ DefAt P w K mg base ca lv x p.2.1 p.2.2 := all_cons (R := fun (p : Nat × Nat × Fn) => ∃ x, nm[p.1]? = some x ∧ DefAt P w K mg base ca lv x p.2.1 p.2.2) ⟨x, hx, d⟩ t
theorem hf_nil : ∀ p ∈ ([] : List (Nat × Nat × Fn)), ∃ x, nm[p.1]? = some x ∧ DefAt P w K mg base ca lv x p.2.1 p.2.2 := fun _ m => by cases m
theorem con1 {k : Nat} {d : D} {y : Str} (hx : nm[k]? = some y) (h : ∃ v u, mg y = some u ∧ RelV v u ∧ ∀ L f H, Rep K L f H v d) : ∀ x, nm[k]? = some x → ∃ v u, mg x = some u ∧ RelV v u ∧ ∀ L f H, Rep K L f H v d := fun x e => by
  rw [hx] at e
  cases e
  exact h
theorem ex1 {k : Nat} {x : Str} {C : Addr} (hx : nm[k]? = some x) (hc : ca k = .ref C) (h : XAt K mg x C) : ∃ x C, nm[k]? = some x ∧ XAt K mg x C ∧ ca k = .ref C := ⟨x, C, hx, h, hc⟩
theorem stands_mk {x : Str} {st : Stmt} {f : Addr} {fd : FuncData} {ps : List Str} (h : mg x = some (.ref f)) (F : Fun K x x st f fd) (b : Binds K fd ps []) : Stands K mg x st ps := ⟨f, fd, h, F, b⟩
theorem xok_of {t : List (Nat × List Nat)} {ex : List Nat} (hex : ∀ k ∈ ex, ∃ x C, nm[k]? = some x ∧ XAt K mg x C ∧ ca k = .ref C)
    (hp : ∀ c ∈ t, ∀ k ∈ t, PySem.W.exmOne K (ca c.1) (ca k.1) = some (c.2.contains k.1)) (hc : ∀ k ∈ t, ∃ x, nm[k.1]? = some x ∧ mg x = some (ca k.1)) :
    XOk nm ca (fun k => ex.contains k) (fun k => (t.map (·.1)).contains k) (subOf t) K mg where
  exs k x hk hx := by
    obtain ⟨y, C, e, ⟨bmB, B, nw, ii, h1, h2, h3, h4, h5⟩, e2⟩ := hex k (by simpa using hk)
    rw [hx] at e
    cases e
    exact ⟨C, bmB, B, nw, ii, h1, h2, h3, h4, h5, e2⟩
  hnd c k x b hb hx := by
    unfold subOf at hb
    split at hb
    · rename_i hk
      simp only [List.contains_eq_mem, List.mem_map, decide_eq_true_eq] at hk
      obtain ⟨p, hp1, rfl⟩ := hk
      cases e : t.lookup c with
      | none =>
        rw [e] at hb
        cases hb
      | some l =>
        rw [e] at hb
        cases hb
        exact hp _ (mem_of_look e) _ hp1
    · cases hb
  hcl k x hx hk := by
    simp only [List.contains_eq_mem, List.mem_map, decide_eq_true_eq] at hk
    obtain ⟨p, hp1, rfl⟩ := hk
    obtain ⟨y, e, e2⟩ := hc p hp1
    rw [hx] at e
    cases e
    exact .inl e2
end
/-- what the law's row asks -/
def LawFd (l : PySem.W.OpenLaw) (w : World) (K : PySem.W.Frag) (mg : Str → Option Value) (fa : Addr) (k : Nat) : Prop :=
  ∃ fd : FuncData, (∀ (s : Shared) (u : Value), BindsTo s fd ⟨[u], []⟩ [("_law_script", u)]) ∧ ∀ base : Heap, K.In base → base.Ns mainGlobals mg → FnOk l.prog w K mg base (L2.CX l.prog w) k fa fd ["_law_script"] (spLaw K)
theorem walk_k {k : Nat} {l : PySem.W.OpenLaw} {q : Program} {loose : List Str} {XP : (Str → Option Value) → Heap → Prop} {YP : World → Heap → Prop} {d : DefRec} {K : Params → PySem.W.Frag} (hk : Room k callerA) (hn : l.most = some 63) (hdf : d.params.defaults = [])
    (hY : ∀ (w : World) (h : Heap), YP w h → (K w.params).In h)
    (F : ∀ (w : World) (mg : Str → Option Value) (fa : Addr) (h : Heap), (K w.params).In h → h.Ns mainGlobals mg → mg d.name = some (.ref fa) → LawFd l w (K w.params) mg fa k) :
    PySem.W.WalkO q loose XP YP l.row.toRowW d [] (fun f vs => PySem.call f vs) :=
  L2.walk_of (n := 63) (k := k) (x := "_law_script") (CX := fun w => L2.CX l.prog w) (sp := fun w => spLaw (K w.params)) hn (by decide) hdf hk hY F (fun _ _ a ns hl _ hS => ⟨a, ns, rfl, hS, hl, fun _ => rfl⟩) (fun _ _ _ _ _ z => let ⟨_, _, _, _, _, _, _, _, _, _, _, _, e⟩ := z; e)
end Z9

set_option Elab.async false
set_option linter.all false
set_option maxRecDepth 100000
set_option maxHeartbeats 4000000
/-! E16: rewriting rules for what forms give; the lots. -/
namespace Z9
open PySem PySem.Spec
section
variable (G : Gam) (r : Z9.Env) (h : Hh)
@[simp] theorem getV_z (a : D) (r : Z9.Env) : getV (some a :: r) 0 = .ok a := rfl
@[simp] theorem getV_s (a : Option D) (r : Z9.Env) (i : Nat) : getV (a :: r) (i + 1) = getV r i := by simp [getV]
@[simp] theorem wipeE_n (r : Z9.Env) : wipeE r [] = r := rfl
@[simp] theorem wipeE_c (r : Z9.Env) (v : Nat) (vs : List Nat) : wipeE r (v :: vs) = (wipeE r vs).set v none := rfl
@[simp] theorem ev_var (i) : evE G (.var i) r h = (getV r i).bind fun d => .ok (d, h) := by simp only [evE]
@[simp] theorem ev_con (d) : evE G (.con d) r h = .ok (d, h) := by simp only [evE]
@[simp] theorem ev_glob (k) : evE G (.glob k) r h = (ofO (G.con k)).bind fun d => .ok (d, h) := by simp only [evE]
@[simp] theorem ev_tup (es) : evE G (.tup es) r h = (evEs G es r h).bind fun p => ofB (okN p.1.length) (.tup p.1, p.2) := by simp only [evE]
@[simp] theorem ev_lst (es) : evE G (.lst es) r h = (evEs G es r h).bind fun p => ofB (okN p.1.length) (.lst p.1, p.2) := by simp only [evE]
@[simp] theorem ev_newl (es) : evE G (.newl es) r h = (evEs G es r h).bind fun p => ofB (okN p.1.length) (.ref p.2.length, p.2 ++ [.lst p.1]) := by simp only [evE]
@[simp] theorem ev_bin (o a b) : evE G (.bin o a b) r h = (evE G a r h).bind fun p => (evE G b r p.2).bind fun q => (binD o p.1 q.1).bind fun d => .ok (d, q.2) := by simp only [evE]
theorem negD_eq (p : D × Hh) : (match p.1 with | .int i => (.ok (.int (-i), p.2) : Res (D × Hh)) | _ => .no) = match p.1 with | .int i => .ok (.int (-i), p.2) | _ => .no := rfl
@[simp] theorem ev_neg (i : Int) : evE G (.neg (.con (.int i))) r h = .ok (.int (-i), h) := by simp [evE]
@[simp] theorem ev_cmp (o a b) : evE G (.cmp o a b) r h = (evE G a r h).bind fun p => (evE G b r p.2).bind fun q => (cmpD o p.1 q.1).bind fun d => .ok (d, q.2) := by simp only [evE]
@[simp] theorem ev_cmp2 (o o2 a b c) : evE G (.cmp2 o o2 a b c) r h = (evE G a r h).bind fun p => (evE G b r p.2).bind fun q => (cmpD o p.1 q.1).bind fun d => (boolD d).bind fun t =>
      if t then (evE G c r q.2).bind fun w => (cmpD o2 q.1 w.1).bind fun e => .ok (e, w.2) else .ok (.bl false, q.2) := by simp only [evE]
@[simp] theorem ev_and (es) : evE G (.and es) r h = evA G true es r h := by simp only [evE]
@[simp] theorem ev_or (es) : evE G (.or es) r h = evA G false es r h := by simp only [evE]
@[simp] theorem ev_dicc (s i) : evE G (.dicc s i) r h = .ok (.dic [s] [.int i], h) := by simp only [evE]
@[simp] theorem ev_fld (a n) : evE G (.fld a n) r h = (evE G a r h).bind fun p => (fldD G p.1 n).bind fun d => .ok (d, p.2) := by simp only [evE]
@[simp] theorem ev_isc (a k) : evE G (.isc a k) r h = (evE G a r h).bind fun p => (iscD G p.1 k).bind fun d => .ok (d, p.2) := by simp only [evE]
theorem ev_mkx {k : Nat} {m : Str × Option Str} (e : G.mkc k = some m) (es) (s : mkSh m.2 es = true) : evE G (.mkx k es) r h = (evEs G es r h).bind fun p => (mkxD m p.1).bind fun d => .ok (d, p.2) := by simp only [evE, e, s, if_true]
theorem evS_rai1 {k : Nat} {c f : Str} (e0 : G.mkc k = some (c, some f)) (e) : evS G (.rai1 k e) r h = (evE G e r h).bs r fun p => .ok (.ex k [p.1] r p.2) := by simp only [evS, e0]
@[simp] theorem ev_dic0 : evE G .dic0 r h = .ok (.dic [] [], h) := by simp only [evE]
@[simp] theorem ev_not (a) : evE G (.not a) r h = (evE G a r h).bind fun p => (boolD p.1).bind fun t => .ok (.bl (!t), p.2) := by simp only [evE]
@[simp] theorem ev_ife (c a b) : evE G (.ife c a b) r h = (evE G c r h).bind fun p => (boolD p.1).bind fun t => if t then evE G a r p.2 else evE G b r p.2 := by simp only [evE]
@[simp] theorem ev_ix (a i) : evE G (.ix a i) r h = (evE G a r h).bind fun p => (evE G i r p.2).bind fun q => (ixD q.2 p.1 q.1).bind fun d => .ok (d, q.2) := by simp only [evE]
@[simp] theorem ev_sl (a lo hi) : evE G (.sl a lo hi) r h = (evE G a r h).bind fun p => (evO G lo r p.2).bind fun q => (evO G hi r q.2).bind fun w => (slD w.2 p.1 q.1 w.1).bind fun d => .ok (d, w.2) := by simp only [evE]
@[simp] theorem ev_isi (a t) : evE G (.isi a t) r h = (evE G a r h).bind fun p => (isiD p.2 p.1 t).bind fun d => .ok (d, p.2) := by simp only [evE]
@[simp] theorem ev_bcall (f es) : evE G (.bcall f es) r h = (evEs G es r h).bind fun p => (bcallD f p.1 p.2).bind fun d => .ok (d, p.2) := by simp only [evE]
@[simp] theorem ev_bmeth (m a es) : evE G (.bmeth m a es) r h = (evE G a r h).bind fun p => if recvD m p.1 then (evEs G es r p.2).bind fun q => bmethD m p.1 q.1 q.2 else .no := by simp only [evE]
theorem ev_call {k : Nat} {n : Nat} {g : Fn} (e : G.fn k = some (n, g)) (es) : evE G (.call k es) r h = (evEs G es r h).bind fun p => if p.1.length = n then g p.1 p.2 else .no := by simp only [evE, e]
@[simp] theorem ev_lc (new elt t it ifs own) : evE G (.lc new elt t it ifs own) r h = (evI G it r h).bind fun p =>
      (lcD (fun x h1 => (setT t x (wipeE r own)).bind fun r1 => (evTs G ifs r1 h1).bind fun b => if b.1 then (evE G elt r1 b.2).bind fun y => .ok (some y.1, y.2) else .ok (none, b.2)) p.1 [] p.2).bind fun q =>
        if new then .ok (.ref q.2.length, q.2 ++ [.lst q.1]) else .ok (.lst q.1, q.2) := by simp only [evE]
@[simp] theorem evEs_n : evEs G .nil r h = .ok ([], h) := by simp only [evEs]
@[simp] theorem evEs_c (e es) : evEs G (.cons e es) r h = (evE G e r h).bind fun p => (evEs G es r p.2).bind fun q => .ok (p.1 :: q.1, q.2) := by simp only [evEs]
@[simp] theorem evA_1 (k e) : evA G k (.cons e .nil) r h = (evE G e r h).bind fun p => (boolD p.1).bind fun t => .ok (.bl t, p.2) := by simp only [evA]
@[simp] theorem evA_2 (k e e2 es) : evA G k (.cons e (.cons e2 es)) r h = (evE G e r h).bind fun p => (boolD p.1).bind fun t => if t = k then evA G k (.cons e2 es) r p.2 else .ok (.bl t, p.2) := by rw [evA]
@[simp] theorem evTs_n : evTs G .nil r h = .ok (true, h) := by simp only [evTs]
@[simp] theorem evTs_c (e es) : evTs G (.cons e es) r h = (evE G e r h).bind fun p => (boolD p.1).bind fun t => if t then evTs G es r p.2 else .ok (false, p.2) := by simp only [evTs]
@[simp] theorem evO_n : evO G .none r h = .ok (none, h) := by simp only [evO]
theorem evO_s {e : Ex} {i : Int} {h' : Hh} (k : evE G e r h = .ok (.int i, h')) : evO G (.some e) r h = .ok (some i, h') := by simp [evO, k]
@[simp] theorem evO_con (i : Int) : evO G (.some (.con (.int i))) r h = .ok (some i, h) := by simp [evO]
theorem evI_lst {e : Ex} {xs : List D} {h' : Hh} (k : evE G e r h = .ok (.lst xs, h')) : evI G (.seq e) r h = .ok (xs, h') := by simp [evI, k]
theorem evI_tup {e : Ex} {xs : List D} {h' : Hh} (k : evE G e r h = .ok (.tup xs, h')) : evI G (.seq e) r h = .ok (xs, h') := by simp [evI, k]
theorem evI_str {e : Ex} {s : List Nat} {h' : Hh} (k : evE G e r h = .ok (.str s, h')) : evI G (.seq e) r h = .ok (s.map fun c => .str [c], h') := by simp [evI, k]
theorem evI_range {e : Ex} {n : Nat} {h' : Hh} (k : evE G e r h = .ok (.int n, h')) (hn : n < 1099511627776) : evI G (.range e) r h = .ok ((List.range n).map fun (i : Nat) => .int i, h') := by
  have h1 : -1099511627776 < (n : Int) := by omega
  have h2 : (n : Int) < 1099511627776 := by omega
  unfold evI
  rw [k, Res.bind_ok]
  show ofB (decide _ && decide _) _ = _
  rw [decide_eq_true h1, decide_eq_true h2]
  show Res.ok _ = _
  congr 2
  simp
@[simp] theorem setT_v (i : Nat) (d : D) (r : Z9.Env) : setT (.var i) d r = .ok (r.set i (some d)) := rfl
@[simp] theorem setT_t (ts : Tgs) (xs : List D) (r : Z9.Env) : setT (.tup ts) (.tup xs) r = setTs ts xs r := rfl
@[simp] theorem setT_l (ts : Tgs) (xs : List D) (r : Z9.Env) : setT (.tup ts) (.lst xs) r = setTs ts xs r := rfl
@[simp] theorem setTs_n (r : Z9.Env) : setTs .nil [] r = .ok r := rfl
@[simp] theorem setTs_c (t : Tg) (ts : Tgs) (x : D) (xs : List D) (r : Z9.Env) : setTs (.cons t ts) (x :: xs) r = (setT t x r).bind fun r' => setTs ts xs r' := rfl
@[simp] theorem evS_set (i e) : evS G (.set i e) r h = (evE G e r h).bs r fun p => .ok (.nx (r.set i (some p.1)) p.2) := by simp only [evS]
@[simp] theorem evS_asg (t e) : evS G (.asg t e) r h = (evE G e r h).bs r fun p => (setT t p.1 r).bs r fun r' => .ok (.nx r' p.2) := by simp only [evS]
@[simp] theorem evS_seti (o i e) : evS G (.seti o i e) r h = (evE G e r h).bs r fun p => (evE G o r p.2).bs r fun q => (evE G i r q.2).bs r fun w => (setiD q.1 w.1 p.1 w.2).bs r fun h' => .ok (.nx r h') := by simp only [evS]
@[simp] theorem evS_aug (i o e) : evS G (.aug i o e) r h = (getV r i).bs r fun d => (evE G e r h).bs r fun p => (augD d p.1).bs r fun y => .ok (.nx (r.set i (some y)) p.2) := by simp only [evS]
@[simp] theorem evS_expr (e) : evS G (.expr e) r h = (evE G e r h).bs r fun p => .ok (.nx r p.2) := by simp only [evS]
@[simp] theorem evS_ret (e) : evS G (.ret e) r h = (evE G e r h).bs r fun p => .ok (.rt p.1 p.2) := by simp only [evS]
@[simp] theorem evS_retn : evS G .retn r h = .ok (.rt .non h) := by simp only [evS]
@[simp] theorem evS_iff (c a b) : evS G (.iff c a b) r h = (evE G c r h).bs r fun p => (boolD p.1).bs r fun t => if t then evSs G a r p.2 else evSs G b r p.2 := by simp only [evS]
@[simp] theorem evS_for (t it b) : evS G (.forr t it b) r h = (evI G it r h).bs r fun p => forD (fun x r1 h1 => (setT t x r1).bs r1 fun r2 => evSs G b r2 h1) p.1 r p.2 := by simp only [evS]
@[simp] theorem evS_brk : evS G .brk r h = .ok (.bk r h) := by simp only [evS]
@[simp] theorem evS_cont : evS G .cont r h = .ok (.ct r h) := by simp only [evS]
@[simp] theorem evS_pass : evS G .pass r h = .ok (.nx r h) := by simp only [evS]
@[simp] theorem evS_rais (k es) : evS G (.rais k es) r h = if G.exk k then (evEs G es r h).bs r fun p => .ok (.ex k p.1 r p.2) else .no := by simp only [evS]
/-- after a statement -/
noncomputable def thenS (G : Gam) (ss : Sms) : Out → Res Out
  | .nx r' h' => evSs G ss r' h'
  | o => .ok o
@[simp] theorem thenS_nx (ss r h) : thenS G ss (.nx r h) = evSs G ss r h := rfl
@[simp] theorem thenS_rt (ss d h) : thenS G ss (.rt d h) = .ok (.rt d h) := rfl
@[simp] theorem thenS_ex (ss c xs r h) : thenS G ss (.ex c xs r h) = .ok (.ex c xs r h) := rfl
@[simp] theorem thenS_bk (ss r h) : thenS G ss (.bk r h) = .ok (.bk r h) := rfl
@[simp] theorem thenS_ct (ss r h) : thenS G ss (.ct r h) = .ok (.ct r h) := rfl
@[simp] theorem evSs_n : evSs G .nil r h = .ok (.nx r h) := by simp only [evSs]
@[simp] theorem evSs_c (s ss) : evSs G (.cons s ss) r h = (evS G s r h).bind (thenS G ss) := by
  rw [evSs]
  congr 1
/-- where a try goes on -/
noncomputable def hotD (G : Gam) (hs : Hds) : Res Out → Res Out
  | .ok (.ex c xs r' h') => evH G hs c xs r' h'
  | o => o
theorem evS_try (b hs) (k : hsOk G hs = true) : evS G (.tryy b hs) r h = hotD G hs (evSs G b r h) := by
  simp only [evS, k, if_true]
  cases evSs G b r h with
  | ok o => cases o <;> rfl
  | exc => rfl
  | no => rfl
@[simp] theorem hot_ex (hs c xs r h) : hotD G hs (.ok (.ex c xs r h)) = evH G hs c xs r h := rfl
@[simp] theorem hot_nx (hs r h) : hotD G hs (.ok (.nx r h)) = .ok (.nx r h) := rfl
@[simp] theorem hot_rt (hs d h) : hotD G hs (.ok (.rt d h)) = .ok (.rt d h) := rfl
theorem evH_t {k b hs c xs} (e : G.sub c k = some true) : evH G (.cons k b hs) c xs r h = evSs G b r h := by simp only [evH, e]
theorem evH_f {k b hs c xs} (e : G.sub c k = some false) : evH G (.cons k b hs) c xs r h = evH G hs c xs r h := by simp only [evH, e]
/-- what a body's end gives -/
def endD : Res Out → Res (D × Hh)
  | .ok (.nx _ h') => .ok (.non, h')
  | .ok (.rt d h') => .ok (d, h')
  | .ok (.ex c xs _ h') => .exc c xs h'
  | _ => .no
theorem runD_eq (n b xs) : runD G n b xs h = endD (evSs G b (xs.map some ++ List.replicate (n - xs.length) none) h) := by
  unfold runD endD
  cases evSs G b (xs.map some ++ List.replicate (n - xs.length) none) h with
  | ok o => cases o <;> rfl
  | exc => rfl
  | no => rfl
@[simp] theorem endD_nx (r h) : endD (.ok (.nx r h)) = .ok (.non, h) := rfl
@[simp] theorem endD_rt (d h) : endD (.ok (.rt d h)) = .ok (d, h) := rfl
@[simp] theorem endD_ex (c xs r h) : endD (.ok (.ex c xs r h)) = .exc c xs h := rfl
end
theorem cMul_l {i j : Int} (a : -(2 ^ 64) < i) (b : i < 2 ^ 64) : cMul i j = true := by unfold cMul; rw [decide_eq_true a, decide_eq_true b]; rfl
theorem cMul_r {i j : Int} (a : -(2 ^ 64) < j) (b : j < 2 ^ 64) : cMul i j = true := by unfold cMul; rw [decide_eq_true a, decide_eq_true b]; simp
theorem bin_add (i j : Int) : binD .Add (.int i) (.int j) = .ok (.int (i + j)) := rfl
theorem bin_sub (i j : Int) : binD .Sub (.int i) (.int j) = .ok (.int (i - j)) := rfl
theorem bin_mul_l {i j : Int} (a : -(2 ^ 64) < i) (b : i < 2 ^ 64) : binD .Mult (.int i) (.int j) = .ok (.int (i * j)) := by show ofB _ _ = _; rw [cMul_l a b]; rfl
theorem bin_mul_r {i j : Int} (a : -(2 ^ 64) < j) (b : j < 2 ^ 64) : binD .Mult (.int i) (.int j) = .ok (.int (i * j)) := by show ofB _ _ = _; rw [cMul_r a b]; rfl
theorem bin_mod {i j : Int} (a : 0 < j) : binD .Mod (.int i) (.int j) = .ok (.int (i % j)) := by show ofB _ _ = _; rw [decide_eq_true a]; rfl
theorem bin_div {i j : Int} (a : 0 < j) (b : j < 1073741824) : binD .FloorDiv (.int i) (.int j) = .ok (.int (i / j)) := by show ofB _ _ = _; rw [decide_eq_true a, decide_eq_true b]; rfl
theorem bin_pow {i j : Int} (a : (decide (0 ≤ j) && decide (j ≤ 1000000) && decide (i.natAbs < 2 ^ 64)) = true) : binD .Pow (.int i) (.int j) = .ok (.int (i ^ j.toNat)) := by show ofB _ _ = _; rw [a]; rfl
@[simp] theorem int_lt (i j : Int) : cmpD .Lt (.int i) (.int j) = .ok (.bl (decide (i < j))) := rfl
@[simp] theorem int_le (i j : Int) : cmpD .LtE (.int i) (.int j) = .ok (.bl (decide (i ≤ j))) := rfl
@[simp] theorem int_gt (i j : Int) : cmpD .Gt (.int i) (.int j) = .ok (.bl (decide (j < i))) := rfl
@[simp] theorem int_ge (i j : Int) : cmpD .GtE (.int i) (.int j) = .ok (.bl (decide (j ≤ i))) := rfl
@[simp] theorem canEq_int (i : Int) : canEq (.int i) = true := by simp [canEq, depD]
@[simp] theorem canEq_str (i) : canEq (.str i) = true := by simp [canEq, depD]
@[simp] theorem canEq_bl (i) : canEq (.bl i) = true := by simp [canEq, depD]
@[simp] theorem canEq_non : canEq .non = true := by simp [canEq, depD]
theorem cmp_eq {x y : D} (a : canEq x = true) (b : canEq y = true) : cmpD .Eq x y = .ok (.bl (eqD x y)) := by
  have : ofB (canEq x && canEq y) (D.bl (eqD x y)) = .ok (.bl (eqD x y)) := by rw [a, b]; rfl
  cases x <;> first | exact this | (simp [canEq, depD] at a; done)
theorem cmp_ne {x y : D} (a : canEq x = true) (b : canEq y = true) : cmpD .NotEq x y = .ok (.bl (!eqD x y)) := by unfold cmpD; simp only [a, b]; rfl
@[simp] theorem int_eq (i j : Int) : cmpD .Eq (.int i) (.int j) = .ok (.bl (decide (i = j))) := by rw [cmp_eq (by simp) (by simp)]; rfl
@[simp] theorem int_ne (i j : Int) : cmpD .NotEq (.int i) (.int j) = .ok (.bl (!decide (i = j))) := by rw [cmp_ne (by simp) (by simp)]; rfl
@[simp] theorem str_eq (i j) : cmpD .Eq (.str i) (.str j) = .ok (.bl (decide (i = j))) := by rw [cmp_eq (by simp) (by simp)]; simp [eqD]
@[simp] theorem str_ne (i j) : cmpD .NotEq (.str i) (.str j) = .ok (.bl (!decide (i = j))) := by rw [cmp_ne (by simp) (by simp)]; simp [eqD]
theorem ixN_of {n : Nat} {i : Int} (a : 0 ≤ i) (b : i < n) : ixN n i = some i.toNat := by unfold ixN; rw [if_pos a, if_pos b]
theorem atD_in {α : Type} {xs : List α} {i : Int} (a : 0 ≤ i) (b : i < xs.length) : atD xs i = xs[i.toNat]? := by unfold atD; rw [ixN_of a b]; rfl
theorem atD_nat {α : Type} {xs : List α} {i : Nat} (b : i < xs.length) : atD xs i = xs[i]? := by rw [atD_in (by omega) (by omega)]; simp

def seqD : D × Hh → Res (List D × Hh)
  | (.lst xs, h) => .ok (xs, h)
  | (.tup xs, h) => .ok (xs, h)
  | (.str s, h) => .ok (s.map fun c => .str [c], h)
  | _ => .no
@[simp] theorem seqD_l (xs h) : seqD (.lst xs, h) = .ok (xs, h) := rfl
@[simp] theorem seqD_t (xs h) : seqD (.tup xs, h) = .ok (xs, h) := rfl
@[simp] theorem seqD_s (s h) : seqD (.str s, h) = .ok (s.map fun c => .str [c], h) := rfl
@[simp] theorem evI_seq (G : Gam) (r : Z9.Env) (h : Hh) (e : Ex) : evI G (.seq e) r h = (evE G e r h).bind seqD := by
  simp only [evI]
  congr 1
  funext p
  obtain ⟨d, h⟩ := p
  cases d <;> rfl
def rangeD : D × Hh → Res (List D × Hh)
  | (.int n, h) => ofB (decide (-1099511627776 < n) && decide (n < 1099511627776)) ((List.range n.toNat).map fun (i : Nat) => .int (0 + (i : Int)), h)
  | _ => .no
@[simp] theorem evI_rng (G : Gam) (r : Z9.Env) (h : Hh) (e : Ex) : evI G (.range e) r h = (evE G e r h).bind rangeD := by
  simp only [evI]
  congr 1
  funext p
  obtain ⟨d, h⟩ := p
  cases d <;> rfl
theorem rangeD_n {n : Int} {h : Hh} (a : 0 ≤ n) (b : n < 1099511627776) : rangeD (.int n, h) = .ok ((List.range n.toNat).map fun (i : Nat) => .int (i : Int), h) := by
  have h1 : -1099511627776 < n := by omega
  show ofB (decide _ && decide _) _ = _
  rw [decide_eq_true h1, decide_eq_true b]
  show Res.ok _ = _
  simp only [Int.zero_add]
/-- a comprehension whose turns change nothing -/
theorem lcD_map {f : D → Hh → Res (Option D × Hh)} {F : D → Option D} {h : Hh} : ∀ {xs acc : List D}, (∀ x ∈ xs, f x h = .ok (F x, h)) → acc.length + xs.length ≤ 16777216 → lcD f xs acc h = .ok (acc ++ xs.filterMap F, h)
  | [], acc, _, _ => by simp [lcD]
  | x :: xs, acc, hf, hl => by
    have e := hf x List.mem_cons_self
    have t := fun y m => hf y (List.mem_cons_of_mem _ m)
    simp only [List.length_cons] at hl
    cases k : F x with
    | none =>
      rw [k] at e
      simp only [lcD, e]
      rw [lcD_map t (by omega), List.filterMap_cons, k]
    | some y =>
      rw [k] at e
      simp only [lcD, e]
      rw [if_pos (by omega), lcD_map t (by simp; omega), List.filterMap_cons, k]
      simp
theorem ints_map (xs : List Int) : ints? (xs.map D.int) = some xs := by
  induction xs with
  | nil => rfl
  | cons x xs ih => simp [ints?, ih]
end Z9

set_option Elab.async false
set_option linter.all false
set_option maxRecDepth 100000
set_option maxHeartbeats 4000000
/-! E17: the lots of a law: pot and draw. -/
namespace Z9
open PySem PySem.Spec
def irDraw : Sms := (.cons (.set 2 (.ix (.var 0) (.con (.int 2)))) (.cons (.seti (.var 0) (.con (.int 2)) (.bin .Add (.var 2) (.con (.int 1)))) (.cons (.iff (.cmp .Gt (.bcall .len (.cons (.ix (.var 0) (.con (.int 0))) .nil)) (.con (.int 0))) (.cons (.set 4 (.ix (.ix (.var 0) (.con (.int 0))) (.con (.int 0)))) (.cons (.seti (.ix (.var 0) (.con (.int 0))) (.con (.int 0)) (.bin .FloorDiv (.var 4) (.var 1))) (.cons (.iff (.cmp .Lt (.var 4) (.var 1)) (.cons (.expr (.bmeth .pop (.ix (.var 0) (.con (.int 0))) (.cons (.con (.int 0)) .nil))) .nil) .nil) (.cons (.ret (.bin .Mod (.bcall .int (.cons (.var 4) .nil)) (.var 1))) .nil)))) .nil) (.cons (.set 3 (.bin .Add (.bin .Add (.bin .Mult (.ix (.ix (.var 0) (.con (.int 1))) (.bin .Mod (.bcall .int (.cons (.var 2) .nil)) (.bcall .len (.cons (.ix (.var 0) (.con (.int 1))) .nil)))) (.con (.int 7919))) (.bin .Mult (.con (.int 104729)) (.var 2))) (.bin .Mult (.ix (.var 0) (.con (.int 3))) (.con (.int 31))))) (.cons (.set 4 (.bin .Mod (.bcall .int (.cons (.bin .Add (.bin .Mult (.var 3) (.con (.int 48271))) (.con (.int 11))) .nil)) (.con (.int 2147483647)))) (.cons (.set 4 (.bin .Mod (.bcall .int (.cons (.bin .Mult (.var 4) (.bin .Add (.bin .FloorDiv (.var 4) (.con (.int 1009))) (.con (.int 69621)))) .nil)) (.con (.int 2147483629)))) (.cons (.set 4 (.bin .Mod (.bcall .int (.cons (.bin .Add (.bin .Mult (.var 4) (.bin .Add (.bin .FloorDiv (.var 4) (.con (.int 2003))) (.con (.int 40692)))) (.var 2)) .nil)) (.con (.int 2147483399)))) (.cons (.ret (.bin .Mod (.bcall .int (.cons (.bin .FloorDiv (.var 4) (.con (.int 64))) .nil)) (.var 1))) .nil))))))))
def irPot : Sms := (.cons (.set 1 (.lc false (.bcall .int (.cons (.var 4) .nil)) (.var 4) (.seq (.sl (.var 0) .none (.some (.con (.int 63))))) .nil [4])) (.cons (.set 2 (.lc true (.bcall .abs (.cons (.var 4) .nil)) (.var 4) (.seq (.var 1)) (.cons (.cmp .GtE (.bcall .abs (.cons (.var 4) .nil)) (.bin .Pow (.con (.int 10)) (.con (.int 18)))) .nil) [4])) (.cons (.set 3 (.bin .Add (.lc false (.bin .Mod (.bcall .int (.cons (.var 4) .nil)) (.con (.int 1000000007))) (.var 4) (.seq (.var 1)) (.cons (.cmp .Lt (.bcall .abs (.cons (.var 4) .nil)) (.bin .Pow (.con (.int 10)) (.con (.int 18)))) .nil) [4]) (.lst (.cons (.bin .Add (.bcall .len (.cons (.var 1) .nil)) (.con (.int 1))) .nil)))) (.cons (.ret (.newl (.cons (.var 2) (.cons (.var 3) (.cons (.con (.int 0)) (.cons (.bin .Mod (.bcall .int (.cons (.bcall .sum (.cons (.var 3) .nil)) .nil)) (.con (.int 999983))) .nil)))))) .nil))))
/-- the pot in the heap: great numbers, small ones, the turn, the sum -/
def PotOk (h rest : Hh) : Prop := ∃ (gs ss : List Int) (t s : Int), h = .lst (gs.map .int) :: .lst [.ref 0, .lst (ss.map .int), .int t, .int s] :: rest ∧ 0 < ss.length
theorem bin_mulmod {x m j : Int} (a : 0 < m) (b : m < 2 ^ 64) : binD .Mult (.int (x % m)) (.int j) = .ok (.int (x % m * j)) := bin_mul_l (by have := Int.emod_nonneg x (by omega : m ≠ 0); omega) (by have := Int.emod_lt_of_pos x a; omega)
theorem mod_range (x : Int) {m : Int} (a : 0 < m) : 0 ≤ x % m ∧ x % m < m := ⟨Int.emod_nonneg x (by omega), Int.emod_lt_of_pos x a⟩
theorem at_map {ss : List Int} {i : Int} (a : 0 ≤ i) (b : i < ss.length) : ∃ v, atD (ss.map D.int) i = some (.int v) := by
  rw [atD_in a (by simpa using b), List.getElem?_map]
  have : i.toNat < ss.length := by omega
  rw [List.getElem?_eq_getElem this]
  exact ⟨_, rfl⟩
theorem draw_ok (G : Gam) {h rest : Hh} {m : Int} (p : PotOk h rest) (m0 : 0 < m) (m1 : m < 1073741824) : ∃ k h', runD G 5 irDraw [.ref 1, .int m] h = .ok (.int k, h') ∧ 0 ≤ k ∧ k < m ∧ PotOk h' rest := by
  obtain ⟨gs, ss, t, s, rfl, hs⟩ := p
  rw [runD_eq]
  unfold irDraw
  have hs' : (0 : Int) < ss.length := by omega
  obtain ⟨v, hv⟩ := at_map (ss := ss) (mod_range t hs').1 (mod_range t hs').2
  cases gs with
  | nil =>
    generalize e : endD _ = R
    simp [ixD, lookD, atD_in, setiD, bcallD, bLen, bInt, bin_add, bin_mod hs', hv, bin_mul_r, bin_mul_l, bin_mod, bin_div, bin_mulmod, m0, m1] at e
    subst e
    exact ⟨_, _, rfl, (mod_range _ m0).1, (mod_range _ m0).2, [], ss, t + 1, s, rfl, hs⟩
  | cons g gs =>
    generalize e : endD _ = R
    by_cases hg : g < m
    · simp [ixD, lookD, atD_in, setiD, bcallD, bLen, bInt, bin_add, bin_mod, bin_div, m0, m1, hg, recvD, bmethD, mPop] at e
      subst e
      exact ⟨_, _, rfl, (mod_range _ m0).1, (mod_range _ m0).2, gs, ss, t + 1, s, rfl, hs⟩
    · simp [ixD, lookD, atD_in, setiD, bcallD, bLen, bInt, bin_add, bin_mod, bin_div, m0, m1, hg] at e
      subst e
      exact ⟨_, _, rfl, (mod_range _ m0).1, (mod_range _ m0).2, g / m :: gs, ss, t + 1, s, rfl, hs⟩
theorem lc_ints {f : D → Hh → Res (Option D × Hh)} {F : Int → Option Int} {h : Hh} {xs : List Int} (hf : ∀ i, f (.int i) h = .ok ((F i).map D.int, h)) (hl : xs.length ≤ 16777216) : lcD f (xs.map D.int) [] h = .ok ((xs.filterMap F).map D.int, h) := by
  rw [lcD_map (F := fun d => match d with | .int i => (F i).map D.int | _ => none)]
  · rw [List.nil_append, List.filterMap_map, List.map_filterMap]
    rfl
  · intro x m
    obtain ⟨i, _, rfl⟩ := List.mem_map.mp m
    exact hf i
  · simpa using hl
theorem pow18 : ∃ b : Int, binD .Pow (.int 10) (.int 18) = .ok (.int b) := ⟨_, bin_pow (by decide)⟩
theorem pot_ok (G : Gam) (ns : List Int) : ∃ h', runD G 5 irPot [.scr ns] [] = .ok (.ref 1, h') ∧ PotOk h' [] := by
  rw [runD_eq]
  have hc : (cutD ns none (some 63)).length ≤ 63 := by
    unfold cutD clampD
    simp
    omega
  generalize ecs : cutD ns none (some 63) = cs at hc
  obtain ⟨b, hp⟩ := pow18
  have e1 : ∀ h : Hh, lcD (fun x h1 => (setT (.var 4) x (wipeE [some (D.scr ns), none, none, none, none] [4])).bind fun r1 => (evTs G .nil r1 h1).bind fun b => if b.1 then (evE G (.bcall .int (.cons (.var 4) .nil)) r1 b.2).bind fun y => .ok (some y.1, y.2) else .ok (none, b.2)) (cs.map D.int) [] h = .ok ((cs.filterMap some).map D.int, h) := fun h => by
    refine lc_ints (fun i => ?_) (by omega)
    simp [bcallD, bInt]
  have e2 : ∀ h : Hh, lcD (fun x h1 => (setT (.var 4) x (wipeE [some (D.scr ns), some (.lst (cs.map D.int)), none, none, none] [4])).bind fun r1 => (evTs G (.cons (.cmp .GtE (.bcall .abs (.cons (.var 4) .nil)) (.bin .Pow (.con (.int 10)) (.con (.int 18)))) .nil) r1 h1).bind fun b => if b.1 then (evE G (.bcall .abs (.cons (.var 4) .nil)) r1 b.2).bind fun y => .ok (some y.1, y.2) else .ok (none, b.2)) (cs.map D.int) [] h = .ok ((cs.filterMap fun i => if b ≤ i.natAbs then some (i.natAbs : Int) else none).map D.int, h) := fun h => by
    refine lc_ints (fun i => ?_) (by omega)
    by_cases hi : b ≤ i.natAbs
    · simp [bcallD, bAbs, hp, hi]
    · simp [bcallD, bAbs, hp, hi]
  have e3 : ∀ (gg : D) (h : Hh), lcD (fun x h1 => (setT (.var 4) x (wipeE [some (D.scr ns), some (.lst (cs.map D.int)), some gg, none, none] [4])).bind fun r1 => (evTs G (.cons (.cmp .Lt (.bcall .abs (.cons (.var 4) .nil)) (.bin .Pow (.con (.int 10)) (.con (.int 18)))) .nil) r1 h1).bind fun b => if b.1 then (evE G (.bin .Mod (.bcall .int (.cons (.var 4) .nil)) (.con (.int 1000000007))) r1 b.2).bind fun y => .ok (some y.1, y.2) else .ok (none, b.2)) (cs.map D.int) [] h = .ok ((cs.filterMap fun i => if (i.natAbs : Int) < b then some (i % 1000000007) else none).map D.int, h) := fun gg h => by
    refine lc_ints (fun i => ?_) (by omega)
    by_cases hi : (i.natAbs : Int) < b
    · simp [bcallD, bAbs, bInt, hp, hi, bin_mod]
    · simp [bcallD, bAbs, bInt, hp, hi, bin_mod]
  generalize (fun i : Int => if b ≤ i.natAbs then some (i.natAbs : Int) else none) = F2 at e2
  generalize eF3 : (fun i : Int => if (i.natAbs : Int) < b then some (i % 1000000007) else none) = F3 at e3
  have h3 : (cs.filterMap F3).length ≤ 63 := Nat.le_trans (List.length_filterMap_le _ _) hc
  simp only [List.filterMap_some] at e1
  have add : binD .Add (.lst ((cs.filterMap F3).map D.int)) (.lst [.int (cs.length + 1)]) = .ok (.lst ((cs.filterMap F3 ++ [(cs.length : Int) + 1]).map D.int)) := by
    show ofB (okN _) _ = _
    have : okN (((cs.filterMap F3).map D.int).length + [D.int (cs.length + 1)].length) = true := by unfold okN; simp; omega
    rw [this]
    simp
  generalize hss : cs.filterMap F3 ++ [(cs.length : Int) + 1] = ss at add
  have hs : 0 < ss.length := by rw [← hss]; simp
  generalize e : endD _ = R
  unfold irPot at e
  rw [evSs_c, evS_set, ev_lc] at e
  simp only [evI_seq, ev_sl, ev_var, ev_con, evO_con, evO_n, List.map_cons, List.map_nil, List.cons_append, List.nil_append, List.length_cons, List.length_nil, List.replicate, getV_z, Res.bind_ok, slD, lookD, ecs, seqD_l] at e
  rw [e1] at e
  simp only [Res.bind_ok, Res.bs_ok, thenS_nx, List.set, Bool.false_eq_true, if_false] at e
  rw [evSs_c, evS_set, ev_lc] at e
  simp only [evI_seq, ev_var, getV_z, getV_s, Res.bind_ok, seqD_l] at e
  rw [e2] at e
  simp only [Res.bind_ok, Res.bs_ok, thenS_nx, List.set, if_true, List.length_nil, List.nil_append] at e
  rw [evSs_c, evS_set, ev_bin, ev_lc] at e
  simp only [evI_seq, ev_var, getV_z, getV_s, Res.bind_ok, seqD_l] at e
  rw [e3] at e
  simp [bcallD, bLen, bSum, bInt, lookD, bin_add, add, ints_map, bin_mod, okN] at e
  subst e
  exact ⟨_, rfl, _, ss, 0, _, rfl, hs⟩
end Z9

set_option Elab.async false
set_option linter.all false
set_option maxRecDepth 100000
set_option maxHeartbeats 4000000
/-! E18: pure defs, comprehensions that draw, loops. -/
namespace Z9
open PySem PySem.Spec
theorem pureF_ok {g : Fn} {ds : List D} {d : D} {h h' : Hh} (a : pureDs ds = true) (e : g ds [] = .ok (d, h')) (b : pureD d = true) : pureF g ds h = .ok (d, h) := by
  unfold pureF
  rw [if_pos a, e]
  simp [frzD, b]
theorem pureF_exc {g : Fn} {ds : List D} {c : Nat} {xs : List D} {h h' : Hh} (a : pureDs ds = true) (e : g ds [] = .exc c xs h') : pureF g ds h = .exc c xs h := by
  unfold pureF
  rw [if_pos a, e]
/-- a comprehension whose turns change the state -/
theorem lcD_inv {f : D → Hh → Res (Option D × Hh)} {I : Hh → Prop} {Q : D → Prop} : ∀ {xs acc : List D} {h : Hh}, (∀ x ∈ xs, ∀ h, I h → ∃ y h', f x h = .ok (some y, h') ∧ I h' ∧ Q y) → I h → acc.length + xs.length ≤ 16777216 → (∀ y ∈ acc, Q y) →
    ∃ ys h', lcD f xs acc h = .ok (ys, h') ∧ I h' ∧ ys.length = acc.length + xs.length ∧ ∀ y ∈ ys, Q y
  | [], acc, h, _, hi, _, ha => ⟨acc, h, by simp [lcD], hi, by simp, ha⟩
  | x :: xs, acc, h, hf, hi, hl, ha => by
    obtain ⟨y, h', e, i', q⟩ := hf x List.mem_cons_self h hi
    simp only [List.length_cons] at hl
    obtain ⟨ys, h2, e2, i2, l2, q2⟩ := lcD_inv (acc := acc ++ [y]) (fun x m => hf x (List.mem_cons_of_mem _ m)) i' (by simp; omega) (fun z m => by
      rcases List.mem_append.mp m with m | m
      · exact ha z m
      · rw [List.mem_singleton.mp m]
        exact q)
    refine ⟨ys, h2, ?_, i2, ?_, q2⟩
    · simp only [lcD, e]
      rw [if_pos (by omega)]
      exact e2
    · rw [l2]
      simp
      omega
/-- a for whose turns all go on, by an invariant -/
theorem forD_inv {f : D → Z9.Env → Hh → Res Out} {I : Z9.Env → Hh → Prop} : ∀ {xs : List D} {r : Z9.Env} {h : Hh}, (∀ x ∈ xs, ∀ r h, I r h → ∃ r' h', f x r h = .ok (.nx r' h') ∧ I r' h') → I r h → ∃ r' h', forD f xs r h = .ok (.nx r' h') ∧ I r' h'
  | [], r, h, _, hi => ⟨r, h, rfl, hi⟩
  | x :: xs, r, h, hf, hi => by
    obtain ⟨r', h', e, i'⟩ := hf x List.mem_cons_self r h hi
    obtain ⟨r2, h2, e2, i2⟩ := forD_inv (fun x m => hf x (List.mem_cons_of_mem _ m)) i'
    exact ⟨r2, h2, by simp only [forD, e, e2], i2⟩
theorem strs_map (cs : List (List Nat)) : strs? (cs.map D.str) = some cs := by
  induction cs with
  | nil => rfl
  | cons x xs ih => simp [strs?, ih]
theorem joinS_chars : ∀ cs : List Nat, joinS [] (cs.map fun c => [c]) = cs
  | [] => rfl
  | [c] => rfl
  | c :: d :: cs => by
    have := joinS_chars (d :: cs)
    simp only [List.map_cons] at this
    simp only [List.map_cons, joinS, this]
    rfl
theorem all_ex {α β : Type} {f : β → α} {Q : β → Prop} : ∀ {ys : List α}, (∀ y ∈ ys, ∃ c, y = f c ∧ Q c) → ∃ cs : List β, ys = cs.map f ∧ ∀ c ∈ cs, Q c
  | [], _ => ⟨[], rfl, fun _ m => by cases m⟩
  | y :: ys, h => by
    obtain ⟨c, e, q⟩ := h y List.mem_cons_self
    obtain ⟨cs, e2, q2⟩ := all_ex fun z m => h z (List.mem_cons_of_mem _ m)
    refine ⟨c :: cs, by rw [e, e2]; rfl, fun d m => ?_⟩
    rcases List.mem_cons.mp m with rfl | m
    · exact q
    · exact q2 d m
theorem join_chars {cs : List Nat} {h : Hh} (hl : cs.length ≤ 16777216) : bmethD .join (.str []) [.lst (cs.map fun c => .str [c])] h = .ok (.str cs, h) := by
  have e : (cs.map fun c => D.str [c]) = (cs.map fun c => [c]).map D.str := by rw [List.map_map]; rfl
  have hk : okN ((((cs.map fun c => [c]).map List.length).sum + (cs.map fun c => [c]).length * ([] : List Nat).length)) = true := by
    have : ((cs.map fun c => [c]).map List.length).sum = cs.length := by
      clear hl e
      induction cs with
      | nil => rfl
      | cons c cs ih => simp at ih ⊢; omega
    rw [this]
    unfold okN
    simp
    omega
  rw [e]
  simp only [bmethD, mJoin, strs_map, ofO_some, Res.bind_ok]
  rw [hk, joinS_chars]
  rfl
end Z9

set_option Elab.async false
set_option linter.all false
set_option maxRecDepth 100000
set_option maxHeartbeats 4000000
/-! E19: loops that find, steps, whiles. -/
namespace Z9
open PySem PySem.Spec
def optD : D × Hh → Res (Option Int × Hh)
  | (.int i, h) => .ok (some i, h)
  | _ => .no
@[simp] theorem optD_i (i h) : optD (.int i, h) = .ok (some i, h) := rfl
@[simp] theorem evO_e (G : Gam) (r : Z9.Env) (h : Hh) (e : Ex) : evO G (.some e) r h = (evE G e r h).bind optD := by
  simp only [evO]
  congr 1
  funext p
  obtain ⟨d, h⟩ := p
  cases d <;> rfl
/-- a for that finds something -/
theorem forD_find {f : D → Z9.Env → Hh → Res Out} {I : Z9.Env → Prop} {h : Hh} {d : D} {Bad : D → Prop} : ∀ {xs : List D} {r : Z9.Env}, (∀ x ∈ xs, ∀ r, I r → (Bad x → f x r h = .ok (.rt d h)) ∧ (¬ Bad x → ∃ r', f x r h = .ok (.nx r' h) ∧ I r')) → I r → (∃ x ∈ xs, Bad x) → forD f xs r h = .ok (.rt d h)
  | [], r, _, _, hx => by
    obtain ⟨x, m, _⟩ := hx
    cases m
  | x :: xs, r, hf, hi, hx => by
    by_cases hb : Bad x
    · simp only [forD, (hf x List.mem_cons_self r hi).1 hb]
    · obtain ⟨r', e, i'⟩ := (hf x List.mem_cons_self r hi).2 hb
      simp only [forD, e]
      refine forD_find (fun y m => hf y (List.mem_cons_of_mem _ m)) i' ?_
      obtain ⟨y, m, hy⟩ := hx
      rcases List.mem_cons.mp m with rfl | m
      · exact absurd hy hb
      · exact ⟨y, m, hy⟩
theorem step {G : Gam} {C : Res Out → Prop} {s : Sm} {ss : Sms} {r r1 : Z9.Env} {h h1 : Hh} (e : evS G s r h = .ok (.nx r1 h1)) (k : C (evSs G ss r1 h1)) : C (evSs G (.cons s ss) r h) := by
  rw [evSs_c, e]
  exact k
theorem for_then {G : Gam} {C : Res Out → Prop} (I : Z9.Env → Hh → Prop) {t : Tg} {it : It} {b ss : Sms} {r : Z9.Env} {h h1 : Hh} {xs : List D} (e : evI G it r h = .ok (xs, h1)) (hi : I r h1)
    (hf : ∀ x ∈ xs, ∀ r h, I r h → ∃ r' h', (setT t x r).bs r (fun r2 => evSs G b r2 h) = .ok (.nx r' h') ∧ I r' h') (k : ∀ r' h', I r' h' → C (evSs G ss r' h')) : C (evSs G (.cons (.forr t it b) ss) r h) := by
  obtain ⟨r', h', e2, i⟩ := forD_inv hf hi
  rw [evSs_c, evS_for, e, Res.bs_ok, e2]
  exact k r' h' i
theorem pow30 : ∃ b : Int, binD .Pow (.int 10) (.int 30) = .ok (.int b) ∧ 1000 ≤ b := ⟨_, bin_pow (by decide), by decide⟩
theorem pow20 : ∃ b : Int, binD .Pow (.int 10) (.int 20) = .ok (.int b) ∧ 1000 ≤ b := ⟨_, bin_pow (by decide), by decide⟩
/-- a for that seeks -/
theorem forD_search {f : D → Z9.Env → Hh → Res Out} {I : Z9.Env → Prop} {h : Hh} {P : D → Bool} {V : D → D} : ∀ {xs : List D} {r : Z9.Env}, (∀ x ∈ xs, ∀ r, I r → (P x = true → f x r h = .ok (.rt (V x) h)) ∧ (P x = false → ∃ r', f x r h = .ok (.nx r' h) ∧ I r')) → I r →
    (∀ x, xs.find? P = some x → forD f xs r h = .ok (.rt (V x) h)) ∧ (xs.find? P = none → ∃ r', forD f xs r h = .ok (.nx r' h) ∧ I r')
  | [], r, _, hi => ⟨fun _ e => (by cases e), fun _ => ⟨r, rfl, hi⟩⟩
  | x :: xs, r, hf, hi => by
    have ih := fun r' i' => forD_search (xs := xs) (r := r') (fun y m => hf y (List.mem_cons_of_mem _ m)) i'
    cases hb : P x with
    | true =>
      have e := (hf x List.mem_cons_self r hi).1 hb
      refine ⟨fun y ey => ?_, fun ey => ?_⟩
      · rw [List.find?_cons, hb] at ey
        cases ey
        simp only [forD, e]
      · rw [List.find?_cons, hb] at ey
        cases ey
    | false =>
      obtain ⟨r', e, i'⟩ := (hf x List.mem_cons_self r hi).2 hb
      rw [List.find?_cons, hb]
      simp only [forD, e]
      exact ih r' i'
theorem whileD_eq {c : Z9.Env → Hh → Res (Bool × Hh)} {f : Z9.Env → Hh → Res Out} {r : Z9.Env} {h : Hh} {n : Nat} {R : Res Out} (e : whileN c f n r h = R) (hR : R ≠ .no) : whileD c f r h = R := by
  have ex : ∃ n, whileN c f n r h ≠ .no := ⟨n, by rw [e]; exact hR⟩
  unfold whileD
  rw [dif_pos ex]
  have h1 := Classical.choose_spec ex
  have key : ∀ m k r h, whileN c f m r h ≠ .no → whileN c f (m + k) r h = whileN c f m r h := by
    intro m
    induction m with
    | zero => intro k r h z; exact absurd rfl z
    | succ m ih =>
      intro k r h z
      rw [show m + 1 + k = (m + k) + 1 by omega]
      unfold whileN at z ⊢
      cases hc : c r h with
      | no => rfl
      | exc => rfl
      | ok b =>
        rw [hc] at z
        simp only [Res.bs_ok] at z ⊢
        cases hb : b.1 with
        | false => rfl
        | true =>
          rw [hb] at z
          simp only [if_true] at z ⊢
          cases hf : f r b.2 with
          | no => rfl
          | exc => rfl
          | ok o =>
            rw [hf] at z
            cases o with
            | nx r' h' => exact ih k r' h' z
            | ct r' h' => exact ih k r' h' z
            | bk => rfl
            | rt => rfl
            | ex => rfl
  rw [← key (Classical.choose ex) n r h h1, Nat.add_comm, key n (Classical.choose ex) r h (by rw [e]; exact hR), e]
end Z9

set_option Elab.async false
set_option linter.all false
set_option maxRecDepth 100000
set_option maxHeartbeats 4000000
/-! E20: what forms give, as terms: one rule a form. -/
namespace Z9
open PySem PySem.Spec
section
variable {G : Gam} {r : Z9.Env} {h h1 h2 h3 : Hh}
theorem dvr {i : Nat} {d : D} (e : r[i]? = some (some d)) : evE G (.var i) r h = .ok (d, h) := by
  rw [ev_var]
  unfold getV
  rw [e]
  rfl
theorem dcn (d : D) : evE G (.con d) r h = .ok (d, h) := ev_con _ _ _ _
theorem dgl {k : Nat} {d : D} (e : G.con k = some d) : evE G (.glob k) r h = .ok (d, h) := by
  rw [ev_glob, e]
  rfl
theorem dnn (i : Int) : evE G (.neg (.con (.int i))) r h = .ok (.int (-i), h) := ev_neg _ _ _ _
theorem dsn : evEs G .nil r h = .ok ([], h) := evEs_n _ _ _
theorem dsc {e : Ex} {es : Exs} {x : D} {xs : List D} (a : evE G e r h = .ok (x, h1)) (b : evEs G es r h1 = .ok (xs, h2)) : evEs G (.cons e es) r h = .ok (x :: xs, h2) := by
  rw [evEs_c, a, Res.bind_ok, b, Res.bind_ok]
theorem ds1 {e : Ex} {x : D} (a : evE G e r h = .ok (x, h1)) : evEs G (.cons e .nil) r h = .ok ([x], h1) := dsc a dsn
theorem ds2 {e e2 : Ex} {x y : D} (a : evE G e r h = .ok (x, h1)) (b : evE G e2 r h1 = .ok (y, h2)) : evEs G (.cons e (.cons e2 .nil)) r h = .ok ([x, y], h2) := dsc a (ds1 b)
theorem ds3 {e e2 e3 : Ex} {x y z : D} (a : evE G e r h = .ok (x, h1)) (b : evE G e2 r h1 = .ok (y, h2)) (c : evE G e3 r h2 = .ok (z, h3)) : evEs G (.cons e (.cons e2 (.cons e3 .nil))) r h = .ok ([x, y, z], h3) := dsc a (ds2 b c)
theorem dcall {k n : Nat} {g : Fn} {es : Exs} {xs : List D} (f : G.fn k = some (n, g)) (a : evEs G es r h = .ok (xs, h1)) (l : xs.length = n) : evE G (.call k es) r h = g xs h1 := by
  rw [ev_call (n := n) (g := g) _ _ _ f, a, Res.bind_ok, if_pos l]
theorem okN_of {n : Nat} (h : n ≤ 1000) : okN n = true := by
  unfold okN
  exact decide_eq_true (by omega)
theorem dtup {es : Exs} {xs : List D} (a : evEs G es r h = .ok (xs, h1)) (l : xs.length ≤ 1000) : evE G (.tup es) r h = .ok (.tup xs, h1) := by
  rw [ev_tup, a, Res.bind_ok, okN_of l]
  rfl
theorem dlst {es : Exs} {xs : List D} (a : evEs G es r h = .ok (xs, h1)) (l : xs.length ≤ 1000) : evE G (.lst es) r h = .ok (.lst xs, h1) := by
  rw [ev_lst, a, Res.bind_ok, okN_of l]
  rfl
theorem dbin {o : Operator} {a b : Ex} {x y z : D} (e1 : evE G a r h = .ok (x, h1)) (e2 : evE G b r h1 = .ok (y, h2)) (e3 : binD o x y = .ok z) : evE G (.bin o a b) r h = .ok (z, h2) := by
  rw [ev_bin, e1, Res.bind_ok, e2, Res.bind_ok, e3, Res.bind_ok]
theorem dcmp {o : CmpOp} {a b : Ex} {x y z : D} (e1 : evE G a r h = .ok (x, h1)) (e2 : evE G b r h1 = .ok (y, h2)) (e3 : cmpD o x y = .ok z) : evE G (.cmp o a b) r h = .ok (z, h2) := by
  rw [ev_cmp, e1, Res.bind_ok, e2, Res.bind_ok, e3, Res.bind_ok]
theorem dcmp2 {o o2 : CmpOp} {a b c : Ex} {x y z : D} {t u : Bool} (e1 : evE G a r h = .ok (x, h1)) (e2 : evE G b r h1 = .ok (y, h2)) (e3 : cmpD o x y = .ok (.bl t)) (e4 : evE G c r h2 = .ok (z, h2)) (e5 : cmpD o2 y z = .ok (.bl u)) : evE G (.cmp2 o o2 a b c) r h = .ok (.bl (t && u), h2) := by
  rw [ev_cmp2, e1, Res.bind_ok, e2, Res.bind_ok, e3, Res.bind_ok, boolD_bl, Res.bind_ok]
  cases t with
  | true => rw [if_pos rfl, e4, Res.bind_ok, e5, Res.bind_ok]; rfl
  | false => rw [if_neg Bool.false_ne_true]; rfl
theorem dnot {a : Ex} {b : Bool} (e1 : evE G a r h = .ok (.bl b, h1)) : evE G (.not a) r h = .ok (.bl (!b), h1) := by
  rw [ev_not, e1, Res.bind_ok, boolD_bl, Res.bind_ok]
theorem da1 {k : Bool} {a : Ex} {b : Bool} (e1 : evE G a r h = .ok (.bl b, h1)) : evA G k (.cons a .nil) r h = .ok (.bl b, h1) := by
  rw [evA_1, e1, Res.bind_ok, boolD_bl, Res.bind_ok]
theorem dat {k : Bool} {a a2 : Ex} {as : Exs} {R : Res (D × Hh)} (e1 : evE G a r h = .ok (.bl k, h1)) (e2 : evA G k (.cons a2 as) r h1 = R) : evA G k (.cons a (.cons a2 as)) r h = R := by
  rw [evA_2, e1, Res.bind_ok, boolD_bl, Res.bind_ok, if_pos rfl, e2]
theorem dax {k b : Bool} {a a2 : Ex} {as : Exs} (e1 : evE G a r h = .ok (.bl b, h1)) (n : b ≠ k) : evA G k (.cons a (.cons a2 as)) r h = .ok (.bl b, h1) := by
  rw [evA_2, e1, Res.bind_ok, boolD_bl, Res.bind_ok, if_neg n]
theorem dand {es : Exs} {R : Res (D × Hh)} (e : evA G true es r h = R) : evE G (.and es) r h = R := by rw [ev_and, e]
theorem dor {es : Exs} {R : Res (D × Hh)} (e : evA G false es r h = R) : evE G (.or es) r h = R := by rw [ev_or, e]
/-- and of two, where both may be asked -/
theorem dand2 {a a2 : Ex} {b c : Bool} (e1 : evE G a r h = .ok (.bl b, h)) (e2 : b = true → evE G a2 r h = .ok (.bl c, h)) : evE G (.and (.cons a (.cons a2 .nil))) r h = .ok (.bl (b && c), h) := by
  cases b with
  | true => exact dand (dat e1 (da1 (e2 rfl)))
  | false => exact dand (dax e1 Bool.false_ne_true)
theorem dor2 {a a2 : Ex} {b c : Bool} (e1 : evE G a r h = .ok (.bl b, h)) (e2 : b = false → evE G a2 r h = .ok (.bl c, h)) : evE G (.or (.cons a (.cons a2 .nil))) r h = .ok (.bl (b || c), h) := by
  cases b with
  | false => exact dor (dat e1 (da1 (e2 rfl)))
  | true => exact dor (dax e1 (fun z => by cases z))
theorem dif_t {c a b : Ex} {R : Res (D × Hh)} (e1 : evE G c r h = .ok (.bl true, h1)) (e2 : evE G a r h1 = R) : evE G (.ife c a b) r h = R := by
  rw [ev_ife, e1, Res.bind_ok, boolD_bl, Res.bind_ok, if_pos rfl, e2]
theorem dif_f {c a b : Ex} {R : Res (D × Hh)} (e1 : evE G c r h = .ok (.bl false, h1)) (e2 : evE G b r h1 = R) : evE G (.ife c a b) r h = R := by
  rw [ev_ife, e1, Res.bind_ok, boolD_bl, Res.bind_ok, if_neg Bool.false_ne_true, e2]
theorem dix {a i : Ex} {x y z : D} (e1 : evE G a r h = .ok (x, h1)) (e2 : evE G i r h1 = .ok (y, h2)) (e3 : ixD h2 x y = .ok z) : evE G (.ix a i) r h = .ok (z, h2) := by
  rw [ev_ix, e1, Res.bind_ok, e2, Res.bind_ok, e3, Res.bind_ok]
theorem don : evO G .none r h = .ok (none, h) := evO_n _ _ _
theorem dos {e : Ex} {i : Int} (a : evE G e r h = .ok (.int i, h1)) : evO G (.some e) r h = .ok (some i, h1) := evO_s _ _ _ a
theorem dsl {a : Ex} {lo hi : Ox} {x z : D} {u v : Option Int} (e1 : evE G a r h = .ok (x, h1)) (e2 : evO G lo r h1 = .ok (u, h2)) (e3 : evO G hi r h2 = .ok (v, h3)) (e4 : slD h3 x u v = .ok z) : evE G (.sl a lo hi) r h = .ok (z, h3) := by
  rw [ev_sl, e1, Res.bind_ok, e2, Res.bind_ok, e3, Res.bind_ok, e4, Res.bind_ok]
theorem disi {a : Ex} {t : Ty} {x z : D} (e1 : evE G a r h = .ok (x, h1)) (e2 : isiD h1 x t = .ok z) : evE G (.isi a t) r h = .ok (z, h1) := by
  rw [ev_isi, e1, Res.bind_ok, e2, Res.bind_ok]
theorem dbc {f : BF} {es : Exs} {xs : List D} {z : D} (e1 : evEs G es r h = .ok (xs, h1)) (e2 : bcallD f xs h1 = .ok z) : evE G (.bcall f es) r h = .ok (z, h1) := by
  rw [ev_bcall, e1, Res.bind_ok, e2, Res.bind_ok]
theorem dbm {m : BM} {a : Ex} {es : Exs} {x : D} {xs : List D} {R : Res (D × Hh)} (e1 : evE G a r h = .ok (x, h1)) (k : recvD m x = true) (e2 : evEs G es r h1 = .ok (xs, h2)) (e3 : bmethD m x xs h2 = R) : evE G (.bmeth m a es) r h = R := by
  rw [ev_bmeth, e1, Res.bind_ok, if_pos k, e2, Res.bind_ok, e3]
theorem drange {e : Ex} {n : Nat} (a : evE G e r h = .ok (.int (n : Int), h1)) (hn : n ≤ 1000) : evI G (.range e) r h = .ok ((List.range n).map fun (i : Nat) => .int (i : Int), h1) := by
  have h1 : (0 : Int) ≤ (n : Int) := Int.natCast_nonneg n
  have h2 : (n : Int) ≤ 1000 := by omega
  have h3 : (n : Int) < 1099511627776 := Int.lt_of_le_of_lt h2 (by decide)
  rw [evI_rng, a, Res.bind_ok, rangeD_n h1 h3, Int.toNat_natCast]
theorem dlc {elt : Ex} {t : Tg} {it : It} {ifs : Exs} {own : List Nat} {xs ys : List D} (a : evI G it r h = .ok (xs, h1))
    (b : lcD (fun x h1 => (setT t x (wipeE r own)).bind fun r1 => (evTs G ifs r1 h1).bind fun b => if b.1 then (evE G elt r1 b.2).bind fun y => .ok (some y.1, y.2) else .ok (none, b.2)) xs [] h1 = .ok (ys, h2)) : evE G (.lc false elt t it ifs own) r h = .ok (.lst ys, h2) := by
  rw [ev_lc, a, Res.bind_ok, b, Res.bind_ok, if_neg Bool.false_ne_true]
theorem lc1000 {f : D → Hh → Res (Option D × Hh)} {F : D → Option D} {h : Hh} {xs : List D} (hf : ∀ x ∈ xs, f x h = .ok (F x, h)) (hl : xs.length ≤ 1000) : lcD f xs [] h = .ok (xs.filterMap F, h) := by
  have : ([] : List D).length + xs.length ≤ 16777216 := by
    rw [List.length_nil, Nat.zero_add]
    exact Nat.le_trans hl (by decide)
  have := lcD_map (acc := []) hf this
  rwa [List.nil_append] at this
/-! statements -/
theorem sset {i : Nat} {e : Ex} {d : D} (a : evE G e r h = .ok (d, h1)) : evS G (.set i e) r h = .ok (.nx (r.set i (some d)) h1) := by rw [evS_set, a, Res.bs_ok]
theorem spar {i j : Nat} {es : Exs} {x y : D} (a : evEs G es r h = .ok ([x, y], h1)) : evS G (.par i j es) r h = .ok (.nx ((r.set i (some x)).set j (some y)) h1) := by
  simp only [evS]
  rw [a, Res.bs_ok]
  rfl
theorem sasg {t : Tg} {e : Ex} {d : D} {r1 : Z9.Env} (a : evE G e r h = .ok (d, h1)) (b : setT t d r = .ok r1) : evS G (.asg t e) r h = .ok (.nx r1 h1) := by rw [evS_asg, a, Res.bs_ok, b, Res.bs_ok]
theorem sexp {e : Ex} {d : D} (a : evE G e r h = .ok (d, h1)) : evS G (.expr e) r h = .ok (.nx r h1) := by rw [evS_expr, a, Res.bs_ok]
theorem sret {e : Ex} {d : D} (a : evE G e r h = .ok (d, h1)) : evS G (.ret e) r h = .ok (.rt d h1) := by rw [evS_ret, a, Res.bs_ok]
theorem sit {c : Ex} {x y : Sms} {R : Res Out} (a : evE G c r h = .ok (.bl true, h1)) (b : evSs G x r h1 = R) : evS G (.iff c x y) r h = R := by rw [evS_iff, a, Res.bs_ok, boolD_bl, Res.bs_ok, if_pos rfl, b]
theorem sif {c : Ex} {x y : Sms} {R : Res Out} (a : evE G c r h = .ok (.bl false, h1)) (b : evSs G y r h1 = R) : evS G (.iff c x y) r h = R := by rw [evS_iff, a, Res.bs_ok, boolD_bl, Res.bs_ok, if_neg Bool.false_ne_true, b]
theorem sif0 {c : Ex} {x : Sms} (a : evE G c r h = .ok (.bl false, h1)) : evS G (.iff c x .nil) r h = .ok (.nx r h1) := sif a (evSs_n _ _ _)
theorem qnx {s : Sm} {ss : Sms} {r1 : Z9.Env} {R : Res Out} (a : evS G s r h = .ok (.nx r1 h1)) (b : evSs G ss r1 h1 = R) : evSs G (.cons s ss) r h = R := by rw [evSs_c, a, Res.bind_ok, thenS_nx, b]
theorem qrt {s : Sm} {ss : Sms} {d : D} (a : evS G s r h = .ok (.rt d h1)) : evSs G (.cons s ss) r h = .ok (.rt d h1) := by rw [evSs_c, a, Res.bind_ok, thenS_rt]
theorem qex {s : Sm} {ss : Sms} {c : Nat} {xs : List D} {r1 : Z9.Env} (a : evS G s r h = .ok (.ex c xs r1 h1)) : evSs G (.cons s ss) r h = .ok (.ex c xs r1 h1) := by rw [evSs_c, a, Res.bind_ok, thenS_ex]
theorem qct {s : Sm} {ss : Sms} {r1 : Z9.Env} (a : evS G s r h = .ok (.ct r1 h1)) : evSs G (.cons s ss) r h = .ok (.ct r1 h1) := by rw [evSs_c, a, Res.bind_ok, thenS_ct]
theorem qbk {s : Sm} {ss : Sms} {r1 : Z9.Env} (a : evS G s r h = .ok (.bk r1 h1)) : evSs G (.cons s ss) r h = .ok (.bk r1 h1) := by rw [evSs_c, a, Res.bind_ok, thenS_bk]
theorem qn : evSs G .nil r h = .ok (.nx r h) := evSs_n _ _ _
theorem run_rt {n : Nat} {b : Sms} {xs : List D} {d : D} {e : Z9.Env} (k : e = xs.map some ++ List.replicate (n - xs.length) none) (a : evSs G b e h = .ok (.rt d h1)) : runD G n b xs h = .ok (d, h1) := by
  rw [runD_eq, ← k, a, endD_rt]
theorem run_nx {n : Nat} {b : Sms} {xs : List D} {e r1 : Z9.Env} (k : e = xs.map some ++ List.replicate (n - xs.length) none) (a : evSs G b e h = .ok (.nx r1 h1)) : runD G n b xs h = .ok (.non, h1) := by
  rw [runD_eq, ← k, a, endD_nx]
theorem run_ex {n c : Nat} {b : Sms} {xs ys : List D} {e r1 : Z9.Env} (k : e = xs.map some ++ List.replicate (n - xs.length) none) (a : evSs G b e h = .ok (.ex c ys r1 h1)) : runD G n b xs h = .exc c ys h1 := by
  rw [runD_eq, ← k, a, endD_ex]
/-- the run of a for over numbers, that seeks -/
theorem forD_seek {b : Sms} {i : Nat} {I : Z9.Env → Prop} {P : Nat → Bool} {V : Nat → D} : ∀ {ns : List Nat} {r : Z9.Env}, (∀ q ∈ ns, ∀ r, I r → (P q = true → evSs G b (r.set i (some (.int (q : Int)))) h = .ok (.rt (V q) h)) ∧ (P q = false → ∃ r', evSs G b (r.set i (some (.int (q : Int)))) h = .ok (.nx r' h) ∧ I r')) → I r →
    (∀ q, ns.find? P = some q → forD (fun x r1 h1 => (setT (.var i) x r1).bs r1 fun r2 => evSs G b r2 h1) (ns.map fun (m : Nat) => .int (m : Int)) r h = .ok (.rt (V q) h)) ∧
    (ns.find? P = none → ∃ r', forD (fun x r1 h1 => (setT (.var i) x r1).bs r1 fun r2 => evSs G b r2 h1) (ns.map fun (m : Nat) => .int (m : Int)) r h = .ok (.nx r' h) ∧ I r')
  | [], r, _, hi => ⟨fun _ e => (by cases e), fun _ => ⟨r, rfl, hi⟩⟩
  | q :: ns, r, hf, hi => by
    have ih := fun r' i' => forD_seek (ns := ns) (r := r') (fun y m => hf y (List.mem_cons_of_mem _ m)) i'
    rw [List.map_cons, List.find?_cons]
    unfold forD
    rw [setT_v, Res.bs_ok]
    cases hb : P q with
    | true =>
      rw [(hf q List.mem_cons_self r hi).1 hb]
      exact ⟨fun y ey => by cases ey; rfl, fun ey => by cases ey⟩
    | false =>
      obtain ⟨r', e, i'⟩ := (hf q List.mem_cons_self r hi).2 hb
      rw [e]
      exact ih r' i'
end
end Z9

set_option Elab.async false
set_option linter.all false
set_option maxRecDepth 100000
set_option maxHeartbeats 4000000
/-! E21: what the printed texts use for errors that are values. -/
namespace Z9
open PySem PySem.Spec PyProof.Rows L2 PySem.W NdefX

/-- a def in a class -/
def inCls (st : Stmt) (j : Nat) : Stmt := match st with
  | .ClassDef _ _ _ body _ _ _ _ _ _ _ => body.getD j (.Pass ⟨0, 0, 0, 0⟩)
  | s => s
/-- the one class of this name -/
def uniqCls (K : PySem.W.Frag) (c : Str) : Option Addr := match K.filter (fun p => match p.2.data with
    | .cls cd => cd.name == c
    | _ => false) with
  | [p] => some p.1
  | _ => none
theorem lookup_mem {α : Type} : ∀ {l : List (Addr × α)} {k : Addr} {a : α}, l.lookup k = some a → (k, a) ∈ l
  | [], _, _, h => by cases h
  | (j, b) :: l, k, a, h => by
    rw [List.lookup_cons] at h
    split at h
    · rename_i e
      cases h
      rw [eq_of_beq e]
      exact List.mem_cons_self
    · exact List.mem_cons_of_mem _ (lookup_mem h)
theorem uniq_of {K : PySem.W.Frag} {c : Str} {C C' : Addr} (u : uniqCls K c = some C) (h : clsNm K C' = some c) : C' = C := by
  unfold clsNm at h
  obtain ⟨cd, hc, hn⟩ := Option.map_eq_some_iff.mp h
  unfold clsIn at hc
  split at hc
  · rename_i e
    cases hc
    have m := lookup_mem e
    unfold uniqCls at u
    have mf : (C', _) ∈ K.filter (fun p => match p.2.data with
        | .cls cd => cd.name == c
        | _ => false) := List.mem_filter.mpr ⟨m, (by show (_ == c) = true; rw [hn]; exact beq_self_eq_true _)⟩
    split at u
    · rename_i p ep
      rw [ep] at mf
      cases u
      rw [← List.mem_singleton.mp mf]
    · cases u
  · cases hc
theorem kit_own {K : PySem.W.Frag} {C D : Addr} {b : Bool} (r : subIn K (.ref C) (.ref C) = some true) (s : subIn K (.ref C) (.ref D) = some b) (cl : (clsIn K D).isSome = true) (ty : typeIn K (.ref D) = some (.type "type")) : kitOne K (.ref C) (.ref D) = some b := by
  unfold kitOne
  split
  · rename_i e
    have : Value.ref C = .ref D := eq_of_beq e
    rw [← this, r] at s
    exact s
  · unfold kitCls
    simp only [cl, ty]
    exact s
theorem kit_blt {K : PySem.W.Frag} {C : Addr} {T : String} {b : Bool} (m : kitMeta T = true) (s : subIn K (.ref C) (.type T) = some b) : kitOne K (.ref C) (.type T) = some b := by
  unfold kitOne
  split
  · rename_i e
    cases (eq_of_beq e : Value.ref C = .type T)
  · unfold kitCls
    simp only [m, if_true]
    exact s
theorem ec_mk {K : PySem.W.Frag} {C : Addr} (cl : (clsIn K C).isSome = true) (hg : findIn K (.ref C) "__getattribute__" = some (some (.builtin "BaseException.__getattribute__"))) (hk : findIn K (.ref C) "__getattr__" = some none)
    (hs : subIn K (.ref C) (.type "BaseException") = some true) (hd : hasDictIn K C = true) (ha : findIn K (.ref C) "__class__" = some (some (.builtin "object.__class__"))) (hn : specialIn K (.builtin "object.__class__") "__get__" = some (some (.builtin "getset_descriptor.__get__")))
    (ht : takesIn K (.builtin "object.__class__") = some true) (hm : mroIn K C (.type "object") = some true) : EcK K C := ⟨cl, hg, hk, hs, hd, ha, hn, ht, hm⟩
/-- the text of such an __init__ -/
def supB (st : Stmt) (slf part fld : Str) : Bool :=
  (match (defScope st).kind with | .function => true | _ => false) && !(defScope st).isCoroutine && !(defScope st).isGenerator && decide ([slf, part, ("__class__" : Str)].Nodup)
  && decide ((defScope st).names.lookup slf = some .local) && decide ((defScope st).names.lookup part = some .local) && decide ((defScope st).names.lookup ("__class__" : Str) = some .free)
  && (defScope st).names.all (fun y => decide (y.2 ≠ .cell) && (decide (y.2 ≠ .free) || y.1 == ("__class__" : Str)))
  && decide ((defScope st).names.lookup ("super" : Str) = some .globalImplicit)
  && (match ((defArgs st).posonlyargs ++ (defArgs st).args).head? with | some ar => ar.arg == slf | none => false)
  && okNm slf && okNm part
  && (match defBody st with
    | [.Expr (.Call (.Attribute (.Call (.Name sp _) [] [] _) ini p2) [.Name pt _] [] p4) _, .Assign [.Attribute (.Name s _) fl _] (.Name pt2 _) _] =>
      sp == ("super" : Str) && ini == ("__init__" : Str) && pt == part && s == slf && fl == fld && pt2 == part && p2.endLine == p4.line
    | _ => false)
theorem sup_of {P : Program} {K : PySem.W.Frag} {mg : Str → Option Value} {C f cell c : Addr} {st : Stmt} {slf part fld q : Str} {oI ocd : Value} {dI od : Option Addr} {slI sl : Array (Option Value)} {doc pm ct : Value} {vs : Array Value} {file : Str} {tf : Tok}
    {occ : Value} {occd : Option Addr} {occs : Array (Option Value)}
    (tx : supB st slf part fld = true) (lI : K.lookup f = some ⟨oI, dI, .func (fnX "__init__" q (defArgs st) (defBody st) (defScope st) [(("__class__" : Str), cell)] .none .none doc pm none (.ref c) ct), slI⟩)
    (cI : codeIn K (.ref c) q = true) (ce : K.lookup cell = some ⟨ocd, od, .cell (some (.ref C)), sl⟩) (co : K.lookup c = some ⟨occ, occd, .fields vs, occs⟩) (fi : vs[2]? = some (.str file tf)) (fe : (P.main.file == file) = true)
    (ns : (P.main.scope.names.lookup ("super" : Str)).isSome = false) (mgs : mg "super" = none) (oex : OexC K C) (sub : subIn K (.ref C) (.ref C) = some true) (sve : subIn K (.ref C) (.type "ValueError") = some true)
    (sup : ks_superIn K C C "__init__" = some (some (.builtin "ValueError.__init__"))) (opq : nsIn K cStatics "thirdparty.any" = some none) (exi : excInitIn K C bmVE "ValueError.__new__" = true) (fdf : findIn K (.ref C) fld = some none) :
    SupF P K mg C f ⟨"__init__", q, defArgs st, defBody st, defScope st, [(("__class__" : Str), cell)], c⟩ doc pm ct slf part fld := by
  unfold supB at tx
  simp only [Bool.and_eq_true, Bool.not_eq_true', decide_eq_true_eq] at tx
  obtain ⟨⟨⟨⟨⟨⟨⟨⟨⟨⟨⟨⟨t1, t2⟩, t3⟩, t4⟩, t5⟩, t6⟩, t7⟩, t8⟩, t9⟩, t10⟩, t11⟩, t12⟩, t13⟩ := tx
  have a1 := okNm_of t11
  have a2 := okNm_of t12
  have t8' := List.all_eq_true.mp t8
  refine ⟨⟨_, _, _, lI⟩, ⟨cell, _, _, _, rfl, ce⟩, cI, ⟨_, vs, file, tf, co, rfl, fi, fe⟩, ns, mgs, oex, sub, sve, sup, opq, exi, fdf, ⟨?_, t2, t3, t4, rfl, ?_, ?_, ?_, ?_⟩, t9, ?_, ⟨a1.1, a1.2.1⟩, ⟨a2.1, a2.2.1⟩, ?_⟩
  · show (defScope st).kind = _
    split at t1
    · assumption
    · cases t1
  · intro x m
    rcases List.mem_cons.mp m with rfl | m
    · exact t5
    · rw [List.mem_singleton.mp m]
      exact t6
  · intro y m
    have := t8' y m
    simp only [Bool.and_eq_true, decide_eq_true_eq] at this
    exact this.1
  · intro y m e
    have := t8' y m
    simp only [Bool.and_eq_true, Bool.or_eq_true, decide_eq_true_eq] at this
    rcases this.2 with h | h
    · exact absurd e h
    · rw [eq_of_beq h]
      exact List.mem_singleton.mpr rfl
  · intro x m
    rw [List.mem_singleton.mp m]
    exact t7
  · show ∃ ar, ((defArgs st).posonlyargs ++ (defArgs st).args).head? = some ar ∧ ar.arg = slf
    split at t10
    · rename_i ar e
      exact ⟨ar, e, eq_of_beq t10⟩
    · cases t10
  · show ∃ p0 p1 p2 p3 p4 p5 p6 p7 p8 p9, _ ∧ defBody st = _
    split at t13
    · rename_i e
      simp only [Bool.and_eq_true] at t13
      obtain ⟨⟨⟨⟨⟨⟨b1, b2⟩, b3⟩, b4⟩, b5⟩, b6⟩, b7⟩ := t13
      rw [e, eq_of_beq b1, eq_of_beq b2, eq_of_beq b3, eq_of_beq b4, eq_of_beq b5, eq_of_beq b6]
      exact ⟨_, _, _, _, _, _, _, _, _, _, b7, rfl⟩
    · cases t13
end Z9

set_option Elab.async false
set_option linter.all false
set_option maxRecDepth 100000
set_option maxHeartbeats 4000000
namespace Z9
open PySem PySem.Spec PyProof.Rows L2
def topS (i : Nat) : Stmt := PySem.Challenge.pw_wholewalks_k00_errors_and_their_fields.main.body.getD i (.Pass ⟨0, 0, 0, 0⟩)
abbrev nmL : List Str := [("_law_pot" : Str), ("_law_draw" : Str), ("_law_made" : Str), ("_law_kinds" : Str), ("_law_same" : Str), ("_law_caught" : Str), ("law" : Str), ("WalkError" : Str), ("NoContent" : Str), ("NoPlace" : Str), ("BadPlan" : Str), ("Idle" : Str), ("NoPhase" : Str), ("NoContents" : Str), ("NoNumber" : Str), ("OtherPlan" : Str), ("NoNumbers" : Str), ("BadProgram" : Str), ("NoBound" : Str), ("Over" : Str), ("NoHand" : Str), ("NothingDone" : Str), ("BadScript" : Str), ("TooMany" : Str), ("BadText" : Str), ("NoDealing" : Str), ("NotFree" : Str), ("Free" : Str), ("NoRow" : Str), ("BadQuestion" : Str), ("NoWords" : Str), ("NoLot" : Str), ("NoSorter" : Str), ("OtherQuestion" : Str), ("NoStanding" : Str), ("NoLine" : Str), ("NoName" : Str), ("ValueError" : Str)]
/-- constants, classes of errors, those that are raised -/
abbrev consL : List (Nat × D) := []
abbrev tabL : List (Nat × List Nat) := [(7, [7]), (19, [19, 7]), (23, [23, 7]), (35, [35, 7])]
abbrev exL : List Nat := [19, 35]
/-- errors that are values: made, asked of, fields -/
abbrev xtL : XTab := { mks := [(8, ("NoContent" : Str), none), (9, ("NoPlace" : Str), none), (10, ("BadPlan" : Str), some ("part" : Str)), (11, ("Idle" : Str), some ("ring" : Str)), (12, ("NoPhase" : Str), none), (13, ("NoContents" : Str), none), (14, ("NoNumber" : Str), none), (15, ("OtherPlan" : Str), none), (16, ("NoNumbers" : Str), none), (17, ("BadProgram" : Str), some ("part" : Str)), (18, ("NoBound" : Str), none), (19, ("Over" : Str), none), (20, ("NoHand" : Str), none), (21, ("NothingDone" : Str), none), (22, ("BadScript" : Str), some ("part" : Str)), (23, ("TooMany" : Str), some ("most" : Str)), (24, ("BadText" : Str), some ("line" : Str)), (25, ("NoDealing" : Str), none), (26, ("NotFree" : Str), none), (27, ("Free" : Str), none), (28, ("NoRow" : Str), none), (29, ("BadQuestion" : Str), some ("part" : Str)), (30, ("NoWords" : Str), none), (31, ("NoLot" : Str), none), (32, ("NoSorter" : Str), none), (33, ("OtherQuestion" : Str), none), (34, ("NoStanding" : Str), none), (35, ("NoLine" : Str), none), (36, ("NoName" : Str), some ("name" : Str))], ks := [7, 8, 9, 10, 11, 12, 13, 14, 15, 16, 17, 18, 19, 20, 21, 22, 23, 24, 25, 26, 27, 28, 29, 30, 31, 32, 33, 34, 35, 36, 37], cs := [(("NoContent" : Str), [7, 8, 37]), (("NoPlace" : Str), [7, 9, 37]), (("BadPlan" : Str), [7, 10, 37]), (("Idle" : Str), [7, 11, 37]), (("NoPhase" : Str), [7, 12, 37]), (("NoContents" : Str), [7, 13, 37]), (("NoNumber" : Str), [7, 14, 37]), (("OtherPlan" : Str), [7, 15, 37]), (("NoNumbers" : Str), [7, 16, 37]), (("BadProgram" : Str), [7, 17, 37]), (("NoBound" : Str), [7, 18, 37]), (("Over" : Str), [7, 19, 37]), (("NoHand" : Str), [7, 20, 37]), (("NothingDone" : Str), [7, 21, 37]), (("BadScript" : Str), [7, 22, 37]), (("TooMany" : Str), [7, 23, 37]), (("BadText" : Str), [7, 24, 37]), (("NoDealing" : Str), [7, 25, 37]), (("NotFree" : Str), [7, 26, 37]), (("Free" : Str), [7, 27, 37]), (("NoRow" : Str), [7, 28, 37]), (("BadQuestion" : Str), [7, 29, 37]), (("NoWords" : Str), [7, 30, 37]), (("NoLot" : Str), [7, 31, 37]), (("NoSorter" : Str), [7, 32, 37]), (("OtherQuestion" : Str), [7, 33, 37]), (("NoStanding" : Str), [7, 34, 37]), (("NoLine" : Str), [7, 35, 37]), (("NoName" : Str), [7, 36, 37])], fl := [(("BadPlan" : Str), ("part" : Str)), (("Idle" : Str), ("ring" : Str)), (("BadProgram" : Str), ("part" : Str)), (("BadScript" : Str), ("part" : Str)), (("TooMany" : Str), ("most" : Str)), (("BadText" : Str), ("line" : Str)), (("BadQuestion" : Str), ("part" : Str)), (("NoName" : Str), ("name" : Str))] }
/-! _law_pot -/
abbrev N_law_pot : List Str := ["_law_script", "_law_cells", "_law_greats", "_law_smalls", "_law_item"]
abbrev ir_law_pot : Sms := irPot
theorem m_law_pot : mSs ⟨N_law_pot, nmL⟩ (defScope (topS 32)) ir_law_pot (defBody (topS 32)) = true := by decide +kernel
theorem sc_law_pot : FnScope N_law_pot ["_law_script"] (defScope (topS 32)) := ⟨rfl, rfl, rfl, by decide +kernel, rfl, by decide +kernel, by decide +kernel⟩
noncomputable def G_law_pot : Gam := mkG [] consL tabL exL xtL
noncomputable def r_law_pot : Fn := runD G_law_pot 5 ir_law_pot
noncomputable def g_law_pot : Fn := r_law_pot
/-! _law_draw -/
abbrev N_law_draw : List Str := ["_law_pot_here", "_law_many", "_law_turn", "_law_seed", "_law_number"]
abbrev ir_law_draw : Sms := irDraw
theorem m_law_draw : mSs ⟨N_law_draw, nmL⟩ (defScope (topS 33)) ir_law_draw (defBody (topS 33)) = true := by decide +kernel
theorem sc_law_draw : FnScope N_law_draw ["_law_pot_here", "_law_many"] (defScope (topS 33)) := ⟨rfl, rfl, rfl, by decide +kernel, rfl, by decide +kernel, by decide +kernel⟩
noncomputable def G_law_draw : Gam := mkG [] consL tabL exL xtL
noncomputable def r_law_draw : Fn := runD G_law_draw 5 ir_law_draw
noncomputable def g_law_draw : Fn := r_law_draw
/-! _law_made -/
abbrev N_law_made : List Str := ["_law_value", "_law_made_here"]
def ir_law_made : Sms := (.cons (.set 1 (.lst (.cons (.mkx 8 .nil) (.cons (.mkx 9 .nil) (.cons (.mkx 12 .nil) (.cons (.mkx 13 .nil) (.cons (.mkx 14 .nil) (.cons (.mkx 15 .nil) (.cons (.mkx 16 .nil) (.cons (.mkx 18 .nil) .nil)))))))))) (.cons (.set 1 (.bin .Add (.var 1) (.lst (.cons (.mkx 19 .nil) (.cons (.mkx 20 .nil) (.cons (.mkx 21 .nil) (.cons (.mkx 25 .nil) (.cons (.mkx 26 .nil) (.cons (.mkx 27 .nil) (.cons (.mkx 28 .nil) (.cons (.mkx 30 .nil) .nil))))))))))) (.cons (.set 1 (.bin .Add (.var 1) (.lst (.cons (.mkx 31 .nil) (.cons (.mkx 32 .nil) (.cons (.mkx 33 .nil) (.cons (.mkx 34 .nil) (.cons (.mkx 35 .nil) .nil)))))))) (.cons (.ret (.bin .Add (.var 1) (.lst (.cons (.mkx 10 (.cons (.var 0) .nil)) (.cons (.mkx 11 (.cons (.var 0) .nil)) (.cons (.mkx 17 (.cons (.var 0) .nil)) (.cons (.mkx 22 (.cons (.var 0) .nil)) (.cons (.mkx 23 (.cons (.var 0) .nil)) (.cons (.mkx 24 (.cons (.var 0) .nil)) (.cons (.mkx 29 (.cons (.var 0) .nil)) (.cons (.mkx 36 (.cons (.var 0) .nil)) .nil))))))))))) .nil))))
theorem m_law_made : mSs ⟨N_law_made, nmL⟩ (defScope (topS 34)) ir_law_made (defBody (topS 34)) = true := by decide +kernel
theorem sc_law_made : FnScope N_law_made ["_law_value"] (defScope (topS 34)) := ⟨rfl, rfl, rfl, by decide +kernel, rfl, by decide +kernel, by decide +kernel⟩
noncomputable def G_law_made : Gam := mkG [] consL tabL exL xtL
noncomputable def r_law_made : Fn := runD G_law_made 2 ir_law_made
noncomputable def g_law_made : Fn := pureF r_law_made
/-! _law_kinds -/
abbrev N_law_kinds : List Str := ["_law_e", "_law_kinds_here"]
def ir_law_kinds : Sms := (.cons (.set 1 (.lst (.cons (.isc (.var 0) 8) (.cons (.isc (.var 0) 9) (.cons (.isc (.var 0) 12) .nil))))) (.cons (.set 1 (.bin .Add (.var 1) (.lst (.cons (.isc (.var 0) 13) (.cons (.isc (.var 0) 14) (.cons (.isc (.var 0) 15) .nil)))))) (.cons (.set 1 (.bin .Add (.var 1) (.lst (.cons (.isc (.var 0) 16) (.cons (.isc (.var 0) 18) (.cons (.isc (.var 0) 19) .nil)))))) (.cons (.set 1 (.bin .Add (.var 1) (.lst (.cons (.isc (.var 0) 20) (.cons (.isc (.var 0) 21) (.cons (.isc (.var 0) 25) .nil)))))) (.cons (.set 1 (.bin .Add (.var 1) (.lst (.cons (.isc (.var 0) 26) (.cons (.isc (.var 0) 27) (.cons (.isc (.var 0) 28) .nil)))))) (.cons (.set 1 (.bin .Add (.var 1) (.lst (.cons (.isc (.var 0) 30) (.cons (.isc (.var 0) 31) (.cons (.isc (.var 0) 32) .nil)))))) (.cons (.set 1 (.bin .Add (.var 1) (.lst (.cons (.isc (.var 0) 33) (.cons (.isc (.var 0) 34) (.cons (.isc (.var 0) 35) .nil)))))) (.cons (.set 1 (.bin .Add (.var 1) (.lst (.cons (.isc (.var 0) 10) (.cons (.isc (.var 0) 11) (.cons (.isc (.var 0) 17) .nil)))))) (.cons (.set 1 (.bin .Add (.var 1) (.lst (.cons (.isc (.var 0) 22) (.cons (.isc (.var 0) 23) (.cons (.isc (.var 0) 24) .nil)))))) (.cons (.set 1 (.bin .Add (.var 1) (.lst (.cons (.isc (.var 0) 29) (.cons (.isc (.var 0) 36) .nil))))) (.cons (.ret (.var 1)) .nil)))))))))))
theorem m_law_kinds : mSs ⟨N_law_kinds, nmL⟩ (defScope (topS 35)) ir_law_kinds (defBody (topS 35)) = true := by decide +kernel
theorem sc_law_kinds : FnScope N_law_kinds ["_law_e"] (defScope (topS 35)) := ⟨rfl, rfl, rfl, by decide +kernel, rfl, by decide +kernel, by decide +kernel⟩
noncomputable def G_law_kinds : Gam := mkG [] consL tabL exL xtL
noncomputable def r_law_kinds : Fn := runD G_law_kinds 2 ir_law_kinds
noncomputable def g_law_kinds : Fn := pureF r_law_kinds
/-! _law_same -/
abbrev N_law_same : List Str := ["_law_told", "_law_value"]
def ir_law_same : Sms := (.cons (.ret (.and (.cons (.cmp .Eq (.var 0) (.var 1)) (.cons (.cmp .Eq (.isi (.var 0) .bool) (.isi (.var 1) .bool)) .nil)))) .nil)
theorem m_law_same : mSs ⟨N_law_same, nmL⟩ (defScope (topS 36)) ir_law_same (defBody (topS 36)) = true := by decide +kernel
theorem sc_law_same : FnScope N_law_same ["_law_told", "_law_value"] (defScope (topS 36)) := ⟨rfl, rfl, rfl, by decide +kernel, rfl, by decide +kernel, by decide +kernel⟩
noncomputable def G_law_same : Gam := mkG [] consL tabL exL xtL
noncomputable def r_law_same : Fn := runD G_law_same 2 ir_law_same
noncomputable def g_law_same : Fn := pureF r_law_same
/-! _law_caught -/
abbrev N_law_caught : List Str := ["_law_which", "_law_value", "_law_told"]
def ir_law_caught : Sms := (.cons (.set 2 (.con (.str [110, 111, 110, 101]))) (.cons (.tryy (.cons (.iff (.cmp .Eq (.var 0) (.con (.int 0))) (.cons (.rais 19 .nil) .nil) .nil) (.cons (.iff (.cmp .Eq (.var 0) (.con (.int 1))) (.cons (.rai1 23 (.var 1)) .nil) .nil) (.cons (.rais 35 .nil) .nil))) (.cons 23 (.cons (.set 2 (.con (.str [109, 97, 110, 121]))) .nil) (.cons 7 (.cons (.set 2 (.con (.str [119, 97, 108, 107]))) .nil) .nil))) (.cons (.ret (.var 2)) .nil)))
theorem m_law_caught : mSs ⟨N_law_caught, nmL⟩ (defScope (topS 37)) ir_law_caught (defBody (topS 37)) = true := by decide +kernel
theorem sc_law_caught : FnScope N_law_caught ["_law_which", "_law_value"] (defScope (topS 37)) := ⟨rfl, rfl, rfl, by decide +kernel, rfl, by decide +kernel, by decide +kernel⟩
noncomputable def G_law_caught : Gam := mkG [] consL tabL exL xtL
@[simp] theorem x_law_caught_Over : G_law_caught.exk 19 = true := rfl
@[simp] theorem x_law_caught_NoLine : G_law_caught.exk 35 = true := rfl
noncomputable def r_law_caught : Fn := runD G_law_caught 3 ir_law_caught
noncomputable def g_law_caught : Fn := pureF r_law_caught
/-! law -/
abbrev N_law : List Str := ["_law_script", "_law_pot_here", "_law_things", "_law_value", "_law_made_here", "_law_k", "_law_fields", "_law_place", "_law_told", "_law_which"]
def ir_law : Sms := (.cons (.set 1 (.call 0 (.cons (.var 0) .nil))) (.cons (.set 2 (.lst (.cons (.con .non) (.cons (.con (.bl true)) (.cons (.con (.int 0)) (.cons (.neg (.con (.int 7))) (.cons (.con (.str [110, 97, 109, 101])) (.cons (.lst (.cons (.con (.int 1)) .nil)) (.cons (.tup (.cons (.con (.int 2)) (.cons (.con (.str [97])) .nil))) (.cons (.dicc [97] 1) (.cons (.bin .Pow (.con (.int 10)) (.con (.int 30))) (.cons (.tup .nil) (.cons (.tup (.cons (.con (.int 0)) (.cons (.con (.int 1)) .nil))) .nil))))))))))))) (.cons (.set 3 (.ix (.var 2) (.call 1 (.cons (.var 1) (.cons (.con (.int 11)) .nil))))) (.cons (.set 4 (.call 2 (.cons (.var 3) .nil))) (.cons (.forr (.var 5) (.range (.bcall .len (.cons (.var 4) .nil))) (.cons (.iff (.or (.cons (.not (.isc (.ix (.var 4) (.var 5)) 7)) (.cons (.not (.isc (.ix (.var 4) (.var 5)) 37)) .nil))) (.cons (.ret (.con (.bl false))) .nil) .nil) (.cons (.iff (.cmp .NotEq (.call 3 (.cons (.ix (.var 4) (.var 5)) .nil)) (.lc false (.cmp .Eq (.var 7) (.var 5)) (.var 7) (.range (.con (.int 29))) .nil [7])) (.cons (.ret (.con (.bl false))) .nil) .nil) .nil))) (.cons (.set 6 (.lst (.cons (.fld (.ix (.var 4) (.con (.int 21))) "part") (.cons (.fld (.ix (.var 4) (.con (.int 22))) "ring") (.cons (.fld (.ix (.var 4) (.con (.int 23))) "part") (.cons (.fld (.ix (.var 4) (.con (.int 24))) "part") (.cons (.fld (.ix (.var 4) (.con (.int 25))) "most") (.cons (.fld (.ix (.var 4) (.con (.int 26))) "line") (.cons (.fld (.ix (.var 4) (.con (.int 27))) "part") (.cons (.fld (.ix (.var 4) (.con (.int 28))) "name") .nil)))))))))) (.cons (.iff (.not (.bcall .all (.cons (.lc false (.call 4 (.cons (.var 8) (.cons (.var 3) .nil))) (.var 8) (.seq (.var 6)) .nil [8]) .nil))) (.cons (.ret (.con (.bl false))) .nil) .nil) (.cons (.ret (.and (.cons (.cmp .Eq (.lc false (.call 5 (.cons (.var 9) (.cons (.var 3) .nil))) (.var 9) (.range (.con (.int 3))) .nil [9]) (.lst (.cons (.con (.str [119, 97, 108, 107])) (.cons (.con (.str [109, 97, 110, 121])) (.cons (.con (.str [119, 97, 108, 107])) .nil))))) (.cons (.cmp .Eq (.bcall .len (.cons (.var 4) .nil)) (.con (.int 29))) .nil)))) .nil))))))))
theorem m_law : mSs ⟨N_law, nmL⟩ (defScope (topS 38)) ir_law (defBody (topS 38)) = true := by decide +kernel
theorem sc_law : FnScope N_law ["_law_script"] (defScope (topS 38)) := ⟨rfl, rfl, rfl, by decide +kernel, rfl, by decide +kernel, by decide +kernel⟩
noncomputable def G_law : Gam := mkG [(0, 1, g_law_pot), (1, 2, g_law_draw), (2, 1, g_law_made), (3, 1, g_law_kinds), (4, 2, g_law_same), (5, 2, g_law_caught)] consL tabL exL xtL
@[simp] theorem c_law_law_pot (es : Exs) (r : Z9.Env) (h : Hh) : evE G_law (.call 0 es) r h = (evEs G_law es r h).bind fun p => if p.1.length = 1 then g_law_pot p.1 p.2 else .no := ev_call _ _ _ rfl es
@[simp] theorem c_law_law_draw (es : Exs) (r : Z9.Env) (h : Hh) : evE G_law (.call 1 es) r h = (evEs G_law es r h).bind fun p => if p.1.length = 2 then g_law_draw p.1 p.2 else .no := ev_call _ _ _ rfl es
@[simp] theorem c_law_law_made (es : Exs) (r : Z9.Env) (h : Hh) : evE G_law (.call 2 es) r h = (evEs G_law es r h).bind fun p => if p.1.length = 1 then g_law_made p.1 p.2 else .no := ev_call _ _ _ rfl es
@[simp] theorem c_law_law_kinds (es : Exs) (r : Z9.Env) (h : Hh) : evE G_law (.call 3 es) r h = (evEs G_law es r h).bind fun p => if p.1.length = 1 then g_law_kinds p.1 p.2 else .no := ev_call _ _ _ rfl es
@[simp] theorem c_law_law_same (es : Exs) (r : Z9.Env) (h : Hh) : evE G_law (.call 4 es) r h = (evEs G_law es r h).bind fun p => if p.1.length = 2 then g_law_same p.1 p.2 else .no := ev_call _ _ _ rfl es
@[simp] theorem c_law_law_caught (es : Exs) (r : Z9.Env) (h : Hh) : evE G_law (.call 5 es) r h = (evEs G_law es r h).bind fun p => if p.1.length = 2 then g_law_caught p.1 p.2 else .no := ev_call _ _ _ rfl es
noncomputable def r_law : Fn := runD G_law 10 ir_law
noncomputable def g_law : Fn := r_law
end Z9

set_option Elab.async false
set_option linter.all false
set_option maxRecDepth 100000
set_option maxHeartbeats 4000000
namespace Z9
open PySem PySem.Spec
section
variable {G : Gam} {r : Z9.Env} {h h1 h2 : Hh}
theorem dmk0 {k : Nat} {c : Str} (e : G.mkc k = some (c, none)) : evE G (.mkx k .nil) r h = .ok (.exc c [] [], h) := by rw [ev_mkx _ _ _ e _ rfl, evEs_n]; rfl
theorem dmk1 {k : Nat} {c f : Str} {e : Ex} {x : D} (m : G.mkc k = some (c, some f)) (a : evE G e r h = .ok (x, h1)) : evE G (.mkx k (.cons e .nil)) r h = .ok (.exc c [f] [x], h1) := by rw [ev_mkx _ _ _ m _ rfl, ds1 a]; rfl
theorem disc {a : Ex} {k : Nat} {c : Str} {ns : List Str} {ds : List D} {b : Bool} (e : evE G a r h = .ok (.exc c ns ds, h1)) (s : G.esub c k = some b) : evE G (.isc a k) r h = .ok (.bl b, h1) := by
  rw [ev_isc, e, Res.bind_ok]
  show ((ofO (G.esub c k)).bind _).bind _ = _
  rw [s]
  rfl
theorem dfld {a : Ex} {n c : Str} {y : D} (e : evE G a r h = .ok (.exc c [n] [y], h1)) (s : G.efl c n = true) : evE G (.fld a n) r h = .ok (y, h1) := by
  rw [ev_fld, e, Res.bind_ok]
  show (if G.efl c n = true then ofO (([n].zip [y]).lookup n) else .no).bind _ = _
  rw [if_pos s, List.zip_cons_cons, List.lookup_cons, beq_self_eq_true]
  rfl
theorem ladd {xs ys : List D} (hl : xs.length + ys.length ≤ 1000) : binD .Add (.lst xs) (.lst ys) = .ok (.lst (xs ++ ys)) := by
  show ofB (okN _) _ = _
  rw [okN_of hl]
  rfl
end
def nmE (i : Nat) : Str := ([("NoContent" : Str), ("NoPlace" : Str), ("NoPhase" : Str), ("NoContents" : Str), ("NoNumber" : Str), ("OtherPlan" : Str), ("NoNumbers" : Str), ("NoBound" : Str), ("Over" : Str), ("NoHand" : Str), ("NothingDone" : Str), ("NoDealing" : Str), ("NotFree" : Str), ("Free" : Str), ("NoRow" : Str), ("NoWords" : Str), ("NoLot" : Str), ("NoSorter" : Str), ("OtherQuestion" : Str), ("NoStanding" : Str), ("NoLine" : Str), ("BadPlan" : Str), ("Idle" : Str), ("BadProgram" : Str), ("BadScript" : Str), ("TooMany" : Str), ("BadText" : Str), ("BadQuestion" : Str), ("NoName" : Str)] : List Str).getD i Str.empty
def numK (i : Nat) : Nat := ([8, 9, 12, 13, 14, 15, 16, 18, 19, 20, 21, 25, 26, 27, 28, 30, 31, 32, 33, 34, 35, 10, 11, 17, 22, 23, 24, 29, 36] : List Nat).getD i 0
def mkE (v : D) : List D := [.exc "NoContent" [] [], .exc "NoPlace" [] [], .exc "NoPhase" [] [], .exc "NoContents" [] [], .exc "NoNumber" [] [], .exc "OtherPlan" [] [], .exc "NoNumbers" [] [], .exc "NoBound" [] [], .exc "Over" [] [], .exc "NoHand" [] [], .exc "NothingDone" [] [], .exc "NoDealing" [] [], .exc "NotFree" [] [], .exc "Free" [] [], .exc "NoRow" [] [], .exc "NoWords" [] [], .exc "NoLot" [] [], .exc "NoSorter" [] [], .exc "OtherQuestion" [] [], .exc "NoStanding" [] [], .exc "NoLine" [] [], .exc "BadPlan" ["part"] [v], .exc "Idle" ["ring"] [v], .exc "BadProgram" ["part"] [v], .exc "BadScript" ["part"] [v], .exc "TooMany" ["most"] [v], .exc "BadText" ["line"] [v], .exc "BadQuestion" ["part"] [v], .exc "NoName" ["name"] [v]]
def kinds29 (i : Nat) : List D := (List.range 29).map fun j => .bl (i == j)
def eSub (c : Str) (k : Nat) : Option Bool := if xtL.ks.contains k then (xtL.cs.lookup c).map fun l => l.contains k else none
theorem tabB : ((List.range 29).all fun i => (List.range 29).all fun j => eSub (nmE i) (numK j) == some (i == j)) = true := by decide +kernel
theorem tabW : ((List.range 29).all fun i => eSub (nmE i) 7 == some true && eSub (nmE i) 37 == some true) = true := by decide +kernel
theorem tab1 {i j : Nat} (hi : i < 29) (hj : j < 29) : eSub (nmE i) (numK j) = some (i == j) := by
  have := List.all_eq_true.mp tabB i (List.mem_range.mpr hi)
  exact eq_of_beq (List.all_eq_true.mp this j (List.mem_range.mpr hj))
theorem tab2 {i : Nat} (hi : i < 29) : eSub (nmE i) 7 = some true ∧ eSub (nmE i) 37 = some true := by
  have := List.all_eq_true.mp tabW i (List.mem_range.mpr hi)
  rw [Bool.and_eq_true] at this
  exact ⟨eq_of_beq this.1, eq_of_beq this.2⟩
theorem mkE_at (v : D) : ∀ i, i < 29 → ∃ ns ds, (mkE v)[i]? = some (.exc (nmE i) ns ds) := by
  intro i hi
  have : i ∈ List.range 29 := List.mem_range.mpr hi
  simp only [List.range, List.range.loop, List.mem_cons, List.not_mem_nil, or_false] at this
  rcases this with rfl | rfl | rfl | rfl | rfl | rfl | rfl | rfl | rfl | rfl | rfl | rfl | rfl | rfl | rfl | rfl | rfl | rfl | rfl | rfl | rfl | rfl | rfl | rfl | rfl | rfl | rfl | rfl | rfl <;> exact ⟨_, _, rfl⟩
theorem made_run (v : D) : evSs G_law_made ir_law_made [some v, none] [] = .ok (.rt (.lst (mkE v)) []) :=
  qnx (sset (dlst (dsc (dmk0 rfl) (dsc (dmk0 rfl) (dsc (dmk0 rfl) (dsc (dmk0 rfl) (dsc (dmk0 rfl) (dsc (dmk0 rfl) (dsc (dmk0 rfl) (dsc (dmk0 rfl) dsn)))))))) (by decide))) (qnx (sset (dbin (dvr rfl) (dlst (dsc (dmk0 rfl) (dsc (dmk0 rfl) (dsc (dmk0 rfl) (dsc (dmk0 rfl) (dsc (dmk0 rfl) (dsc (dmk0 rfl) (dsc (dmk0 rfl) (dsc (dmk0 rfl) dsn)))))))) (by decide)) (ladd (by decide)))) (qnx (sset (dbin (dvr rfl) (dlst (dsc (dmk0 rfl) (dsc (dmk0 rfl) (dsc (dmk0 rfl) (dsc (dmk0 rfl) (dsc (dmk0 rfl) dsn))))) (by decide)) (ladd (by decide)))) (qrt (sret (dbin (dvr rfl) (dlst (dsc (dmk1 rfl (dvr rfl)) (dsc (dmk1 rfl (dvr rfl)) (dsc (dmk1 rfl (dvr rfl)) (dsc (dmk1 rfl (dvr rfl)) (dsc (dmk1 rfl (dvr rfl)) (dsc (dmk1 rfl (dvr rfl)) (dsc (dmk1 rfl (dvr rfl)) (dsc (dmk1 rfl (dvr rfl)) dsn)))))))) (by simp)) (ladd (by simp)))))))
theorem kinds_run {c : Str} {ns : List Str} {ds : List D} {i : Nat} (hs : ∀ j, j < 29 → G_law_kinds.esub c (numK j) = some (i == j)) : evSs G_law_kinds ir_law_kinds [some (.exc c ns ds), none] [] = .ok (.rt (.lst (kinds29 i)) []) :=
  qnx (sset (dlst (dsc (disc (dvr rfl) (hs 0 (by decide))) (dsc (disc (dvr rfl) (hs 1 (by decide))) (dsc (disc (dvr rfl) (hs 2 (by decide))) dsn))) (by simp))) (qnx (sset (dbin (dvr rfl) (dlst (dsc (disc (dvr rfl) (hs 3 (by decide))) (dsc (disc (dvr rfl) (hs 4 (by decide))) (dsc (disc (dvr rfl) (hs 5 (by decide))) dsn))) (by simp)) (ladd (by simp)))) (qnx (sset (dbin (dvr rfl) (dlst (dsc (disc (dvr rfl) (hs 6 (by decide))) (dsc (disc (dvr rfl) (hs 7 (by decide))) (dsc (disc (dvr rfl) (hs 8 (by decide))) dsn))) (by simp)) (ladd (by simp)))) (qnx (sset (dbin (dvr rfl) (dlst (dsc (disc (dvr rfl) (hs 9 (by decide))) (dsc (disc (dvr rfl) (hs 10 (by decide))) (dsc (disc (dvr rfl) (hs 11 (by decide))) dsn))) (by simp)) (ladd (by simp)))) (qnx (sset (dbin (dvr rfl) (dlst (dsc (disc (dvr rfl) (hs 12 (by decide))) (dsc (disc (dvr rfl) (hs 13 (by decide))) (dsc (disc (dvr rfl) (hs 14 (by decide))) dsn))) (by simp)) (ladd (by simp)))) (qnx (sset (dbin (dvr rfl) (dlst (dsc (disc (dvr rfl) (hs 15 (by decide))) (dsc (disc (dvr rfl) (hs 16 (by decide))) (dsc (disc (dvr rfl) (hs 17 (by decide))) dsn))) (by simp)) (ladd (by simp)))) (qnx (sset (dbin (dvr rfl) (dlst (dsc (disc (dvr rfl) (hs 18 (by decide))) (dsc (disc (dvr rfl) (hs 19 (by decide))) (dsc (disc (dvr rfl) (hs 20 (by decide))) dsn))) (by simp)) (ladd (by simp)))) (qnx (sset (dbin (dvr rfl) (dlst (dsc (disc (dvr rfl) (hs 21 (by decide))) (dsc (disc (dvr rfl) (hs 22 (by decide))) (dsc (disc (dvr rfl) (hs 23 (by decide))) dsn))) (by simp)) (ladd (by simp)))) (qnx (sset (dbin (dvr rfl) (dlst (dsc (disc (dvr rfl) (hs 24 (by decide))) (dsc (disc (dvr rfl) (hs 25 (by decide))) (dsc (disc (dvr rfl) (hs 26 (by decide))) dsn))) (by simp)) (ladd (by simp)))) (qnx (sset (dbin (dvr rfl) (dlst (dsc (disc (dvr rfl) (hs 27 (by decide))) (dsc (disc (dvr rfl) (hs 28 (by decide))) dsn)) (by simp)) (ladd (by simp)))) (qrt (sret (dvr rfl))))))))))))
end Z9

set_option Elab.async false
set_option linter.all false
set_option maxRecDepth 100000
set_option maxHeartbeats 4000000
namespace Z9
open PySem PySem.Spec
theorem g_draw {h : Hh} {m : Int} (p : PotOk h []) (m0 : 0 < m) (m1 : m < 1073741824) : ∃ k h', g_law_draw [.ref 1, .int m] h = .ok (.int k, h') ∧ 0 ≤ k ∧ k < m ∧ PotOk h' [] := draw_ok G_law_draw p m0 m1
section
variable {G : Gam} {r : Z9.Env} {h h1 h2 : Hh}
theorem srais {k : Nat} (e : G.exk k = true) : evS G (.rais k .nil) r h = .ok (.ex k [] r h) := by rw [evS_rais, if_pos e, evEs_n, Res.bs_ok]
theorem srai1 {k : Nat} {c f : Str} {e : Ex} {x : D} (m : G.mkc k = some (c, some f)) (a : evE G e r h = .ok (x, h1)) : evS G (.rai1 k e) r h = .ok (.ex k [x] r h1) := by rw [evS_rai1 _ _ _ m, a, Res.bs_ok]
theorem stry {b : Sms} {hs : Hds} {c : Nat} {xs : List D} {r1 : Z9.Env} {R : Res Out} (k : hsOk G hs = true) (e : evSs G b r h = .ok (.ex c xs r1 h1)) (hh : evH G hs c xs r1 h1 = R) : evS G (.tryy b hs) r h = R := by rw [evS_try _ _ _ _ _ k, e, hot_ex, hh]
theorem het {k : Nat} {b : Sms} {hs : Hds} {c : Nat} {xs : List D} {R : Res Out} (e : G.sub c k = some true) (x : evSs G b r h = R) : evH G (.cons k b hs) c xs r h = R := by rw [evH_t _ _ _ e, x]
theorem hef {k : Nat} {b : Sms} {hs : Hds} {c : Nat} {xs : List D} {R : Res Out} (e : G.sub c k = some false) (x : evH G hs c xs r h = R) : evH G (.cons k b hs) c xs r h = R := by rw [evH_f _ _ _ e, x]
end
def sMany : D := .str [109, 97, 110, 121]
def sWalk : D := .str [119, 97, 108, 107]
theorem caught0 (v : D) : evSs G_law_caught ir_law_caught [some (.int 0), some v, none] [] = .ok (.rt sWalk []) :=
  qnx (sset (dcn _)) (qnx (stry rfl (qex (sit (dcmp (dvr rfl) (dcn _) (int_eq 0 0)) (qex (srais rfl)))) (hef rfl (het rfl (qnx (sset (dcn _)) qn)))) (qrt (sret (dvr rfl))))
theorem caught1 (v : D) : evSs G_law_caught ir_law_caught [some (.int 1), some v, none] [] = .ok (.rt sMany []) :=
  qnx (sset (dcn _)) (qnx (stry rfl (qnx (sif0 (dcmp (dvr rfl) (dcn _) (int_eq 1 0))) (qex (sit (dcmp (dvr rfl) (dcn _) (int_eq 1 1)) (qex (srai1 rfl (dvr rfl)))))) (het rfl (qnx (sset (dcn _)) qn))) (qrt (sret (dvr rfl))))
theorem caught2 (v : D) : evSs G_law_caught ir_law_caught [some (.int 2), some v, none] [] = .ok (.rt sWalk []) :=
  qnx (sset (dcn _)) (qnx (stry rfl (qnx (sif0 (dcmp (dvr rfl) (dcn _) (int_eq 2 0))) (qnx (sif0 (dcmp (dvr rfl) (dcn _) (int_eq 2 1))) (qex (srais rfl)))) (hef rfl (het rfl (qnx (sset (dcn _)) qn)))) (qrt (sret (dvr rfl))))
/-- a value that is handed in -/
structure VOk (v : D) : Prop where
  pur : pureD v = true
  eq : cmpD .Eq v v = .ok (.bl true)
  isb : ∃ b, ∀ h, isiD h v .bool = .ok (.bl b)
theorem vok_of {v : D} (p : pureD v = true) (c : canEq v = true) (e : eqD v v = true) (i : ∃ b, ∀ h, isiD h v .bool = .ok (.bl b)) : VOk v := ⟨p, by rw [cmp_eq c c, e], i⟩
section
variable {v : D} (V : VOk v)
include V
theorem mkE_pure : pureD (.lst (mkE v)) = true := by
  show pureDs (mkE v) = true
  simp [mkE, pureDs, pureD, V.pur]
theorem made_walk (h : Hh) : g_law_made [v] h = .ok (.lst (mkE v), h) := pureF_ok (h' := []) (by simp [pureDs, V.pur]) (run_rt rfl (made_run v)) (mkE_pure V)
theorem same_walk (h : Hh) : g_law_same [v, v] h = .ok (.bl true, h) := by
  obtain ⟨b, hb⟩ := V.isb
  have e : cmpD .Eq (.bl b) (.bl b) = .ok (.bl true) := by cases b <;> rfl
  exact pureF_ok (h' := []) (by simp [pureDs, V.pur]) (run_rt rfl (qrt (sret (dand (dat (dcmp (dvr rfl) (dvr rfl) V.eq) (da1 (dcmp (disi (dvr rfl) (hb _)) (disi (dvr rfl) (hb _)) e))))))) rfl
theorem caught_walk (h : Hh) : g_law_caught [.int 0, v] h = .ok (sWalk, h) ∧ g_law_caught [.int 1, v] h = .ok (sMany, h) ∧ g_law_caught [.int 2, v] h = .ok (sWalk, h) :=
  ⟨pureF_ok (h' := []) (by simp [pureDs, pureD, V.pur]) (run_rt rfl (caught0 v)) rfl, pureF_ok (h' := []) (by simp [pureDs, pureD, V.pur]) (run_rt rfl (caught1 v)) rfl, pureF_ok (h' := []) (by simp [pureDs, pureD, V.pur]) (run_rt rfl (caught2 v)) rfl⟩
end
theorem kinds_pure (i : Nat) : pureD (.lst (kinds29 i)) = true := by
  show pureDs _ = true
  unfold kinds29
  generalize List.range 29 = l
  induction l with
  | nil => rfl
  | cons x xs ih => simp [pureDs, pureD, ih]
theorem kinds_walk {c : Str} {ns : List Str} {ds : List D} {i : Nat} (hp : pureDs ds = true) (hs : ∀ j, j < 29 → G_law_kinds.esub c (numK j) = some (i == j)) (h : Hh) : g_law_kinds [.exc c ns ds] h = .ok (.lst (kinds29 i), h) :=
  pureF_ok (h' := []) (by simp [pureDs, pureD, hp]) (run_rt rfl (kinds_run hs)) (kinds_pure i)
theorem mkE_at' {v : D} (V : VOk v) (i : Nat) (hi : i < 29) : ∃ ns ds, (mkE v)[i]? = some (.exc (nmE i) ns ds) ∧ pureDs ds = true := by
  obtain ⟨ns, ds, e⟩ := mkE_at v i hi
  refine ⟨ns, ds, e, ?_⟩
  have hp : pureDs (mkE v) = true := mkE_pure V
  have key : ∀ (l : List D) (i : Nat) (x : D), pureDs l = true → l[i]? = some x → pureD x = true := by
    intro l
    induction l with
    | nil => intro i x _ e; simp at e
    | cons y ys ih =>
      intro i x hp e
      simp only [pureDs, Bool.and_eq_true] at hp
      cases i with
      | zero => simp at e; rw [← e]; exact hp.1
      | succ i => exact ih i x hp.2 (by simpa using e)
  have := key _ _ _ hp e
  simpa [pureD] using this
theorem bls_ne (bs : List Bool) : cmpD .NotEq (.lst (bs.map D.bl)) (.lst (bs.map D.bl)) = .ok (.bl false) := by
  have hd : canEq (.lst (bs.map D.bl)) = true := by
    have : depDs (bs.map D.bl) = some 0 := by
      induction bs with
      | nil => rfl
      | cons x xs ih => simp [depDs, depD, ih]
    simp [canEq, depD, this]
  rw [cmp_ne hd hd]
  have : eqD (.lst (bs.map D.bl)) (.lst (bs.map D.bl)) = true := by
    show eqDs _ _ = true
    clear hd
    induction bs with
    | nil => rfl
    | cons x xs ih => simp [eqDs, eqD, ih]
  rw [this]
  rfl
/-- the law's places -/
def envL (ns : List Int) (th v : D) (m f : Option D) (x7 x8 x9 : Option D) (k : Option D) : Z9.Env := [some (.scr ns), some (.ref 1), some th, some v, m, k, f, x7, x8, x9]
theorem law_turn {v : D} (V : VOk v) (ns : List Int) (th : D) {f x7 x8 x9 : Option D} {h : Hh} (i : Nat) (hi : i < 29) (b : Sms) (hb : ∃ a1 a2 a3 a4 t it c, ir_law = .cons a1 (.cons a2 (.cons a3 (.cons a4 (.cons (.forr t it b) c))))) :
    evSs G_law b (envL ns th v (some (.lst (mkE v))) f x7 x8 x9 (some (.int (i : Int)))) h = .ok (.nx (envL ns th v (some (.lst (mkE v))) f x7 x8 x9 (some (.int (i : Int)))) h) := by
  obtain ⟨a1, a2, a3, a4, t, it, c, hb⟩ := hb
  unfold ir_law at hb
  cases hb
  obtain ⟨es, ds, e, hp⟩ := mkE_at' V i hi
  have el : ∀ (r : Z9.Env) (h : Hh), r[4]? = some (some (.lst (mkE v))) → r[5]? = some (some (.int (i : Int))) → evE G_law (.ix (.var 4) (.var 5)) r h = .ok (.exc (nmE i) es ds, h) := fun r h e4 e5 => dix (dvr e4) (dvr e5) (by
    show ofO (atD (mkE v) (i : Int)) = _
    rw [atD_nat (by show i < 29; exact hi), e]
    rfl)
  have w1 : G_law.esub (nmE i) 7 = some true := (tab2 hi).1
  have w2 : G_law.esub (nmE i) 37 = some true := (tab2 hi).2
  have e1 := @el _ h (rfl : (envL ns th v (some (.lst (mkE v))) f x7 x8 x9 (some (.int (i : Int))))[4]? = _) rfl
  have e2 := (dcall (G := G_law) (k := 3) rfl (ds1 e1) rfl).trans (kinds_walk hp (fun j hj => tab1 hi hj) h)
  have L := lc1000 (f := fun x h1 => (setT (.var 7) x (wipeE (envL ns th v (some (.lst (mkE v))) f x7 x8 x9 (some (.int (i : Int)))) [7])).bind fun r1 => (evTs G_law .nil r1 h1).bind fun b => if b.1 then (evE G_law (.cmp .Eq (.var 7) (.var 5)) r1 b.2).bind fun y => .ok (some y.1, y.2) else .ok (none, b.2)) (F := fun x => match x with | .int j => some (.bl (decide (j = (i : Int)))) | _ => none) (h := h) (xs := (List.range 29).map fun (j : Nat) => .int (j : Int)) (fun x m => by
    obtain ⟨j, _, rfl⟩ := List.mem_map.mp m
    have e : evE G_law (.cmp .Eq (.var 7) (.var 5)) (envL ns th v (some (.lst (mkE v))) f (some (.int (j : Int))) x8 x9 (some (.int (i : Int)))) h = .ok (.bl (decide ((j : Int) = (i : Int))), h) := dcmp (dvr rfl) (dvr rfl) (int_eq _ _)
    show (Res.bind (Res.ok (true, h)) fun b : Bool × Hh => if b.1 then (evE G_law (.cmp .Eq (.var 7) (.var 5)) (envL ns th v (some (.lst (mkE v))) f (some (.int (j : Int))) x8 x9 (some (.int (i : Int)))) b.2).bind fun y => .ok (some y.1, y.2) else .ok (none, b.2)) = _
    rw [Res.bind_ok, if_pos rfl, e]
    rfl) (by rw [List.length_map, List.length_range]; decide)
  have hL : ((List.range 29).map fun (j : Nat) => D.int (j : Int)).filterMap (fun x => match x with | .int j => some (D.bl (decide (j = (i : Int)))) | _ => none) = kinds29 i := by
    rw [List.filterMap_map]
    unfold kinds29
    generalize List.range 29 = l
    induction l with
    | nil => rfl
    | cons x xs ih =>
      have : decide ((x : Int) = (i : Int)) = (i == x) := by
        rw [Bool.eq_iff_iff]
        simp only [decide_eq_true_eq, beq_iff_eq]
        omega
      simp [ih, this]
  rw [hL] at L
  have e3 := dlc (G := G_law) (r := envL ns th v (some (.lst (mkE v))) f x7 x8 x9 (some (.int (i : Int)))) (drange (n := 29) (dcn _) (by decide)) L
  have ne : cmpD .NotEq (.lst (kinds29 i)) (.lst (kinds29 i)) = .ok (.bl false) := by
    have := bls_ne ((List.range 29).map fun j => i == j)
    rw [List.map_map] at this
    exact this
  exact qnx (sif0 (dor (dat (dnot (disc e1 w1)) (da1 (dnot (disc e1 w2)))))) (qnx (sif0 (dcmp e2 e3 ne)) qn)
theorem strs3 : cmpD .Eq (.lst [sWalk, sMany, sWalk]) (.lst [sWalk, sMany, sWalk]) = .ok (.bl true) := by
  rw [cmp_eq (by simp [canEq, depD, depDs, sWalk, sMany]) (by simp [canEq, depD, depDs, sWalk, sMany])]
  simp [eqD, eqDs, sWalk, sMany]
def things (b : Int) : List D := [.non, .bl true, .int 0, .int (-7), .str [110, 97, 109, 101], .lst [.int 1], .tup [.int 2, .str [97]], .dic [[97]] [.int 1], .int b, .tup [], .tup [.int 0, .int 1]]
theorem things_ok (b : Int) : ∀ x ∈ things b, VOk x := by
  intro x m
  unfold things at m
  simp only [List.mem_cons, List.not_mem_nil, or_false] at m
  rcases m with rfl | rfl | rfl | rfl | rfl | rfl | rfl | rfl | rfl | rfl | rfl
  · exact vok_of rfl (by simp) (by simp [eqD]) ⟨_, fun _ => rfl⟩
  · exact vok_of rfl (by simp) (by simp [eqD]) ⟨_, fun _ => rfl⟩
  · exact vok_of rfl (by simp) (by simp [eqD]) ⟨_, fun _ => rfl⟩
  · exact vok_of rfl (by simp) (by simp [eqD]) ⟨_, fun _ => rfl⟩
  · exact vok_of rfl (by simp) (by simp [eqD]) ⟨_, fun _ => rfl⟩
  · exact vok_of rfl (by simp [canEq, depD, depDs]) (by simp [eqD, eqDs]) ⟨_, fun _ => rfl⟩
  · exact vok_of rfl (by simp [canEq, depD, depDs]) (by simp [eqD, eqDs]) ⟨_, fun _ => rfl⟩
  · exact ⟨rfl, rfl, _, fun _ => rfl⟩
  · exact vok_of rfl (by simp) (by simp [eqD]) ⟨_, fun _ => rfl⟩
  · exact vok_of rfl (by simp [canEq, depD, depDs]) (by simp [eqD, eqDs]) ⟨_, fun _ => rfl⟩
  · exact vok_of rfl (by simp [canEq, depD, depDs]) (by simp [eqD, eqDs]) ⟨_, fun _ => rfl⟩
theorem law_plain (ns : List Int) (hl : ns.length ≤ 63) : ∃ h, g_law [.scr ns] [] = .ok (.bl true, h) := by
  obtain ⟨h0, e0, p0⟩ := pot_ok G_law_pot ns
  have e0' : g_law_pot [.scr ns] [] = .ok (.ref 1, h0) := e0
  obtain ⟨b30, hb30, _⟩ := pow30
  obtain ⟨k, h1, e1, k0, k1, p1⟩ := g_draw p0 (m := 11) (by omega) (by omega)
  obtain ⟨k, rfl⟩ := Int.eq_ofNat_of_zero_le k0
  have k2 : k < (things b30).length := by show k < 11; omega
  obtain ⟨v, ev⟩ : ∃ v, (things b30)[k]? = some v := ⟨_, List.getElem?_eq_getElem k2⟩
  have V : VOk v := things_ok b30 v (List.mem_of_getElem? ev)
  have s1 : evS G_law (.set 1 (.call 0 (.cons (.var 0) .nil))) [some (.scr ns), none, none, none, none, none, none, none, none, none] [] = .ok (.nx [some (.scr ns), some (.ref 1), none, none, none, none, none, none, none, none] h0) :=
    sset ((dcall rfl (ds1 (dvr rfl)) rfl).trans e0')
  have s2 := sset (G := G_law) (i := 2) (r := [some (.scr ns), some (.ref 1), none, none, none, none, none, none, none, none]) (h := h0) (dlst (xs := things b30) (dsc (dcn _) (dsc (dcn _) (dsc (dcn _) (dsc (dnn 7) (dsc (dcn _) (dsc (dlst (ds1 (dcn (.int 1))) (by simp)) (dsc (dtup (ds2 (dcn (.int 2)) (dcn (.str [97]))) (by simp)) (dsc (ev_dicc _ _ _ _ _) (dsc (dbin (dcn _) (dcn _) hb30) (dsc (dtup dsn (by simp)) (dsc (dtup (ds2 (dcn (.int 0)) (dcn (.int 1))) (by simp)) dsn))))))))))) (by simp [things]))
  have s3 : evS G_law (.set 3 (.ix (.var 2) (.call 1 (.cons (.var 1) (.cons (.con (.int 11)) .nil))))) [some (.scr ns), some (.ref 1), some (.lst (things b30)), none, none, none, none, none, none, none] h0 = .ok (.nx [some (.scr ns), some (.ref 1), some (.lst (things b30)), some v, none, none, none, none, none, none] h1) :=
    sset (dix (dvr rfl) ((dcall rfl (ds2 (dvr rfl) (dcn _)) rfl).trans e1) (by
      show ofO (atD (things b30) (k : Int)) = _
      rw [atD_nat k2, ev]
      rfl))
  have s4 : evS G_law (.set 4 (.call 2 (.cons (.var 3) .nil))) [some (.scr ns), some (.ref 1), some (.lst (things b30)), some v, none, none, none, none, none, none] h1 = .ok (.nx (envL ns (.lst (things b30)) v (some (.lst (mkE v))) none none none none none) h1) :=
    sset ((dcall rfl (ds1 (dvr rfl)) rfl).trans (made_walk V h1))
  show ∃ h, runD G_law 10 ir_law [.scr ns] [] = _
  rw [runD_eq]
  unfold ir_law
  refine step (C := fun R => ∃ h, endD R = .ok (.bl true, h)) s1 (step (C := fun R => ∃ h, endD R = .ok (.bl true, h)) s2 (step (C := fun R => ∃ h, endD R = .ok (.bl true, h)) s3 (step (C := fun R => ∃ h, endD R = .ok (.bl true, h)) s4 ?_)))
  refine for_then (C := fun R => ∃ h, endD R = .ok (.bl true, h)) (fun r h => h = h1 ∧ ∃ x5, r = envL ns (.lst (things b30)) v (some (.lst (mkE v))) none none none none x5) (xs := (List.range 29).map fun (i : Nat) => .int (i : Int)) (h1 := h1) (drange (n := 29) (dbc (ds1 (dvr rfl)) rfl) (by decide)) ⟨rfl, _, rfl⟩ ?_ ?_
  · rintro x m r h ⟨rfl, x5, rfl⟩
    obtain ⟨i, hi, rfl⟩ := List.mem_map.mp m
    exact ⟨_, _, law_turn V ns _ i (List.mem_range.mp hi) _ ⟨_, _, _, _, _, _, _, rfl⟩, rfl, _, rfl⟩
  · rintro r h ⟨rfl, x5, rfl⟩
    have el : ∀ (j : Int) (n : Nat) (e : D), j = (n : Int) → n < 29 → (mkE v)[n]? = some e → evE G_law (.ix (.var 4) (.con (.int j))) (envL ns (.lst (things b30)) v (some (.lst (mkE v))) none none none none x5) h = .ok (e, h) := fun j n e ej hn en => dix (dvr rfl) (dcn _) (by
      rw [ej]
      show ofO (atD (mkE v) (n : Int)) = _
      rw [atD_nat (by show n < 29; exact hn), en]
      rfl)
    have f6 := sset (G := G_law) (i := 6) (r := envL ns (.lst (things b30)) v (some (.lst (mkE v))) none none none none x5) (h := h) (dlst (xs := List.replicate 8 v)
      (dsc (dfld (c := "BadPlan") (n := "part") (el 21 21 _ rfl (by decide) rfl) rfl) (dsc (dfld (c := "Idle") (n := "ring") (el 22 22 _ rfl (by decide) rfl) rfl) (dsc (dfld (c := "BadProgram") (n := "part") (el 23 23 _ rfl (by decide) rfl) rfl) (dsc (dfld (c := "BadScript") (n := "part") (el 24 24 _ rfl (by decide) rfl) rfl)
      (dsc (dfld (c := "TooMany") (n := "most") (el 25 25 _ rfl (by decide) rfl) rfl) (dsc (dfld (c := "BadText") (n := "line") (el 26 26 _ rfl (by decide) rfl) rfl) (dsc (dfld (c := "BadQuestion") (n := "part") (el 27 27 _ rfl (by decide) rfl) rfl) (dsc (dfld (c := "NoName") (n := "name") (el 28 28 _ rfl (by decide) rfl) rfl) dsn)))))))) (by simp))
    refine step (C := fun R => ∃ h, endD R = .ok (.bl true, h)) f6 ?_
    have hset : (envL ns (.lst (things b30)) v (some (.lst (mkE v))) none none none none x5).set 6 (some (.lst (List.replicate 8 v))) = envL ns (.lst (things b30)) v (some (.lst (mkE v))) (some (.lst (List.replicate 8 v))) none none none x5 := rfl
    rw [hset]
    -- the fields are the value
    have L := lc1000 (f := fun x h1 => (setT (.var 8) x (wipeE (envL ns (.lst (things b30)) v (some (.lst (mkE v))) (some (.lst (List.replicate 8 v))) none none none x5) [8])).bind fun r1 => (evTs G_law .nil r1 h1).bind fun b => if b.1 then (evE G_law (.call 4 (.cons (.var 8) (.cons (.var 3) .nil))) r1 b.2).bind fun y => .ok (some y.1, y.2) else .ok (none, b.2)) (F := fun _ => some (.bl true)) (h := h) (xs := List.replicate 8 v) (fun x m => by
      have := List.eq_of_mem_replicate m
      subst this
      have e : evE G_law (.call 4 (.cons (.var 8) (.cons (.var 3) .nil))) (envL ns (.lst (things b30)) x (some (.lst (mkE x))) (some (.lst (List.replicate 8 x))) none (some x) none x5) h = .ok (.bl true, h) := (dcall rfl (ds2 (dvr rfl) (dvr rfl)) rfl).trans (same_walk V h)
      show (Res.bind (Res.ok (true, h)) fun b : Bool × Hh => if b.1 then (evE G_law (.call 4 (.cons (.var 8) (.cons (.var 3) .nil))) (envL ns (.lst (things b30)) x (some (.lst (mkE x))) (some (.lst (List.replicate 8 x))) none (some x) none x5) b.2).bind fun y => .ok (some y.1, y.2) else .ok (none, b.2)) = _
      rw [Res.bind_ok, if_pos rfl, e]
      rfl) (by simp)
    have a1 := dlc (G := G_law) (r := envL ns (.lst (things b30)) v (some (.lst (mkE v))) (some (.lst (List.replicate 8 v))) none none none x5) (evI_lst _ _ _ (dvr (i := 6) rfl)) L
    have a2 := dnot (dbc (f := .all) (ds1 a1) (z := .bl true) rfl)
    refine step (C := fun R => ∃ h, endD R = .ok (.bl true, h)) (sif0 a2) ?_
    -- the caught ones
    obtain ⟨w0, w1, w2⟩ := caught_walk V h
    have call : ∀ (w : Int) (s : D), g_law_caught [.int w, v] h = .ok (s, h) → (fun x h1 => (setT (.var 9) x (wipeE (envL ns (.lst (things b30)) v (some (.lst (mkE v))) (some (.lst (List.replicate 8 v))) none none none x5) [9])).bind fun r1 => (evTs G_law .nil r1 h1).bind fun b => if b.1 then (evE G_law (.call 5 (.cons (.var 9) (.cons (.var 3) .nil))) r1 b.2).bind fun y => .ok (some y.1, y.2) else .ok (none, b.2)) (.int w) h = .ok (some s, h) := fun w s e => by
      have e : evE G_law (.call 5 (.cons (.var 9) (.cons (.var 3) .nil))) (envL ns (.lst (things b30)) v (some (.lst (mkE v))) (some (.lst (List.replicate 8 v))) none none (some (.int w)) x5) h = .ok (s, h) := (dcall rfl (ds2 (dvr rfl) (dvr rfl)) rfl).trans e
      show (Res.bind (Res.ok (true, h)) fun b : Bool × Hh => if b.1 then (evE G_law (.call 5 (.cons (.var 9) (.cons (.var 3) .nil))) (envL ns (.lst (things b30)) v (some (.lst (mkE v))) (some (.lst (List.replicate 8 v))) none none (some (.int w)) x5) b.2).bind fun y => .ok (some y.1, y.2) else .ok (none, b.2)) = _
      rw [Res.bind_ok, if_pos rfl, e]
      rfl
    have L2 := lc1000 (f := fun x h1 => (setT (.var 9) x (wipeE (envL ns (.lst (things b30)) v (some (.lst (mkE v))) (some (.lst (List.replicate 8 v))) none none none x5) [9])).bind fun r1 => (evTs G_law .nil r1 h1).bind fun b => if b.1 then (evE G_law (.call 5 (.cons (.var 9) (.cons (.var 3) .nil))) r1 b.2).bind fun y => .ok (some y.1, y.2) else .ok (none, b.2)) (F := fun x => match x with | .int w => if w = 0 then some sWalk else if w = 1 then some sMany else some sWalk | _ => none) (h := h) (xs := (List.range 3).map fun (i : Nat) => .int (i : Int)) (fun x m => by
      obtain ⟨i, hi, rfl⟩ := List.mem_map.mp m
      rw [List.mem_range] at hi
      rcases (by omega : i = 0 ∨ i = 1 ∨ i = 2) with rfl | rfl | rfl
      · exact call 0 _ w0
      · exact call 1 _ w1
      · exact call 2 _ w2) (by simp)
    have b1 := dlc (G := G_law) (r := envL ns (.lst (things b30)) v (some (.lst (mkE v))) (some (.lst (List.replicate 8 v))) none none none x5) (drange (n := 3) (dcn _) (by decide)) L2
    have b2 : evE G_law (.lst (.cons (.con sWalk) (.cons (.con sMany) (.cons (.con sWalk) .nil)))) (envL ns (.lst (things b30)) v (some (.lst (mkE v))) (some (.lst (List.replicate 8 v))) none none none x5) h = .ok (.lst [sWalk, sMany, sWalk], h) := dlst (ds3 (dcn _) (dcn _) (dcn _)) (by simp)
    have b3 := dcmp b1 b2 strs3
    have b4 : evE G_law (.cmp .Eq (.bcall .len (.cons (.var 4) .nil)) (.con (.int 29))) (envL ns (.lst (things b30)) v (some (.lst (mkE v))) (some (.lst (List.replicate 8 v))) none none none x5) h = .ok (.bl true, h) := dcmp (dbc (ds1 (dvr rfl)) (z := .int 29) rfl) (dcn _) (int_eq 29 29)
    exact ⟨h, (congrArg endD (qrt (ss := .nil) (sret (dand (dat b3 (da1 b4)))))).trans (endD_rt _ _)⟩
end Z9

set_option Elab.async false
set_option linter.all false
set_option maxRecDepth 100000
set_option maxHeartbeats 4000000
namespace Z9
open PySem PySem.Spec PyProof.Rows L2
structure Txt (P : Program) (K : PySem.W.Frag) (mg : Str → Option Value) (ca : Nat → Value) : Prop where
  s_law_pot : Stands K mg "_law_pot" (topS 32) ["_law_script"]
  s_law_draw : Stands K mg "_law_draw" (topS 33) ["_law_pot_here", "_law_many"]
  s_law_made : Stands K mg "_law_made" (topS 34) ["_law_value"]
  s_law_kinds : Stands K mg "_law_kinds" (topS 35) ["_law_e"]
  s_law_same : Stands K mg "_law_same" (topS 36) ["_law_told", "_law_value"]
  s_law_caught : Stands K mg "_law_caught" (topS 37) ["_law_which", "_law_value"]
  s_law : Stands K mg "law" (topS 38) ["_law_script"]
  con : ConOk nmL K mg consL
  blt : ∀ x ∈ bnames, mg x = none
  xo : XOk nmL ca (fun k => exL.contains k) (fun k => (tabL.map (·.1)).contains k) (subOf tabL) K mg
  xt : ∀ (w : World) (base : Heap) (lv : Nat), 2 ≤ lv → XtOk nmL P w K mg base ca lv xtL
section
variable {P : Program} {w : World} {K : PySem.W.Frag} {mg : Str → Option Value} {base : Heap} {ca : Nat → Value}
theorem at_law_pot (T : Txt P K mg ca) : DefAt P w K mg base ca 3 "_law_pot" 1 g_law_pot := (def_at (G := G_law_pot) T.s_law_pot sc_law_pot m_law_pot (gok_of (hf_nil) T.con T.blt (T.xt _ _ _ (by decide))) T.xo)
theorem at_law_draw (T : Txt P K mg ca) : DefAt P w K mg base ca 3 "_law_draw" 2 g_law_draw := (def_at (G := G_law_draw) T.s_law_draw sc_law_draw m_law_draw (gok_of (hf_nil) T.con T.blt (T.xt _ _ _ (by decide))) T.xo)
theorem at_law_made (T : Txt P K mg ca) : DefAt P w K mg base ca 3 "_law_made" 1 g_law_made := (def_at (G := G_law_made) T.s_law_made sc_law_made m_law_made (gok_of (hf_nil) T.con T.blt (T.xt _ _ _ (by decide))) T.xo).pure
theorem at_law_kinds (T : Txt P K mg ca) : DefAt P w K mg base ca 3 "_law_kinds" 1 g_law_kinds := (def_at (G := G_law_kinds) T.s_law_kinds sc_law_kinds m_law_kinds (gok_of (hf_nil) T.con T.blt (T.xt _ _ _ (by decide))) T.xo).pure
theorem at_law_same (T : Txt P K mg ca) : DefAt P w K mg base ca 3 "_law_same" 2 g_law_same := (def_at (G := G_law_same) T.s_law_same sc_law_same m_law_same (gok_of (hf_nil) T.con T.blt (T.xt _ _ _ (by decide))) T.xo).pure
theorem at_law_caught (T : Txt P K mg ca) : DefAt P w K mg base ca 3 "_law_caught" 2 g_law_caught := (def_at (G := G_law_caught) T.s_law_caught sc_law_caught m_law_caught (gok_of (hf_nil) T.con T.blt (T.xt _ _ _ (by decide))) T.xo).pure
theorem at_law (T : Txt P K mg ca) : DefAt P w K mg base ca 4 "law" 1 g_law := (def_at (G := G_law) T.s_law sc_law m_law (gok_of (hf_cons (x := "_law_pot") rfl ((at_law_pot T)) (hf_cons (x := "_law_draw") rfl ((at_law_draw T)) (hf_cons (x := "_law_made") rfl ((at_law_made T)) (hf_cons (x := "_law_kinds") rfl ((at_law_kinds T)) (hf_cons (x := "_law_same") rfl ((at_law_same T)) (hf_cons (x := "_law_caught") rfl ((at_law_caught T)) (hf_nil))))))) T.con T.blt (T.xt _ _ _ (by decide))) T.xo)
end
theorem all_mk {l : PySem.W.OpenLaw} {w : World} {K : PySem.W.Frag} {h : Heap} {mg : Str → Option Value} {fa f0 f1 f2 f3 f4 f5 f6 g3 cel3 co3 g4 cel4 co4 g10 cel10 co10 g15 cel15 co15 g16 cel16 co16 g17 cel17 co17 g22 cel22 co22 g29 cel29 co29 C0 C1 C2 C3 C4 C5 C6 C7 C8 C9 C10 C11 C12 C13 C14 C15 C16 C17 C18 C19 C20 C21 C22 C23 C24 C25 C26 C27 C28 C29 : Addr} (X : K.In h) (G : h.Ns mainGlobals mg) (hfa : mg "law" = some (.ref fa))
    {od0 an0 od1 an1 od2 an2 od3 an3 od4 an4 od5 an5 od6 an6 : Option Addr} {sl0 sl1 sl2 sl3 sl4 sl5 sl6 : Array (Option Value)} {oc0 kV0 dc0 pm0 cd0 ct0 oc1 kV1 dc1 pm1 cd1 ct1 oc2 kV2 dc2 pm2 cd2 ct2 oc3 kV3 dc3 pm3 cd3 ct3 oc4 kV4 dc4 pm4 cd4 ct4 oc5 kV5 dc5 pm5 cd5 ct5 oc6 kV6 dc6 pm6 cd6 ct6 : Value}
    (a0 : PySem.W.nsIn K mainGlobals "_law_pot" = some (some (.ref f0)))
    (l0 : K.lookup f0 = some ⟨oc0, od0, .func (PySem.W.fnOf "_law_pot" "_law_pot" (defArgs (topS 32)) (defBody (topS 32)) (defScope (topS 32)) .none kV0 dc0 pm0 an0 cd0 ct0), sl0⟩)
    (c0 : PySem.W.codeIn K cd0 "_law_pot" = true) (k0 : PySem.W.keepIn K (.ref f0) = true)
    (a1 : PySem.W.nsIn K mainGlobals "_law_draw" = some (some (.ref f1)))
    (l1 : K.lookup f1 = some ⟨oc1, od1, .func (PySem.W.fnOf "_law_draw" "_law_draw" (defArgs (topS 33)) (defBody (topS 33)) (defScope (topS 33)) .none kV1 dc1 pm1 an1 cd1 ct1), sl1⟩)
    (c1 : PySem.W.codeIn K cd1 "_law_draw" = true) (k1 : PySem.W.keepIn K (.ref f1) = true)
    (a2 : PySem.W.nsIn K mainGlobals "_law_made" = some (some (.ref f2)))
    (l2 : K.lookup f2 = some ⟨oc2, od2, .func (PySem.W.fnOf "_law_made" "_law_made" (defArgs (topS 34)) (defBody (topS 34)) (defScope (topS 34)) .none kV2 dc2 pm2 an2 cd2 ct2), sl2⟩)
    (c2 : PySem.W.codeIn K cd2 "_law_made" = true) (k2 : PySem.W.keepIn K (.ref f2) = true)
    (a3 : PySem.W.nsIn K mainGlobals "_law_kinds" = some (some (.ref f3)))
    (l3 : K.lookup f3 = some ⟨oc3, od3, .func (PySem.W.fnOf "_law_kinds" "_law_kinds" (defArgs (topS 35)) (defBody (topS 35)) (defScope (topS 35)) .none kV3 dc3 pm3 an3 cd3 ct3), sl3⟩)
    (c3 : PySem.W.codeIn K cd3 "_law_kinds" = true) (k3 : PySem.W.keepIn K (.ref f3) = true)
    (a4 : PySem.W.nsIn K mainGlobals "_law_same" = some (some (.ref f4)))
    (l4 : K.lookup f4 = some ⟨oc4, od4, .func (PySem.W.fnOf "_law_same" "_law_same" (defArgs (topS 36)) (defBody (topS 36)) (defScope (topS 36)) .none kV4 dc4 pm4 an4 cd4 ct4), sl4⟩)
    (c4 : PySem.W.codeIn K cd4 "_law_same" = true) (k4 : PySem.W.keepIn K (.ref f4) = true)
    (a5 : PySem.W.nsIn K mainGlobals "_law_caught" = some (some (.ref f5)))
    (l5 : K.lookup f5 = some ⟨oc5, od5, .func (PySem.W.fnOf "_law_caught" "_law_caught" (defArgs (topS 37)) (defBody (topS 37)) (defScope (topS 37)) .none kV5 dc5 pm5 an5 cd5 ct5), sl5⟩)
    (c5 : PySem.W.codeIn K cd5 "_law_caught" = true) (k5 : PySem.W.keepIn K (.ref f5) = true)
    (a6 : PySem.W.nsIn K mainGlobals "law" = some (some (.ref f6)))
    (l6 : K.lookup f6 = some ⟨oc6, od6, .func (PySem.W.fnOf "law" "law" (defArgs (topS 38)) (defBody (topS 38)) (defScope (topS 38)) .none kV6 dc6 pm6 an6 cd6 ct6), sl6⟩)
    (c6 : PySem.W.codeIn K cd6 "law" = true) (k6 : PySem.W.keepIn K (.ref f6) = true)
    (z0 : PySem.W.nsIn K mainGlobals "len" = some none)
    (z1 : PySem.W.nsIn K mainGlobals "abs" = some none)
    (z2 : PySem.W.nsIn K mainGlobals "int" = some none)
    (z3 : PySem.W.nsIn K mainGlobals "sum" = some none)
    (z4 : PySem.W.nsIn K mainGlobals "all" = some none)
    (z5 : PySem.W.nsIn K mainGlobals "any" = some none)
    (z6 : PySem.W.nsIn K mainGlobals "list" = some none)
    (z7 : PySem.W.nsIn K mainGlobals "tuple" = some none)
    (z8 : PySem.W.nsIn K mainGlobals "min" = some none)
    (z9 : PySem.W.nsIn K mainGlobals "max" = some none)
    (z10 : PySem.W.nsIn K mainGlobals "sorted" = some none)
    (z11 : PySem.W.nsIn K mainGlobals "str" = some none)
    (z12 : PySem.W.nsIn K mainGlobals "range" = some none)
    (z13 : PySem.W.nsIn K mainGlobals "enumerate" = some none)
    (z14 : PySem.W.nsIn K mainGlobals "zip" = some none)
    (z15 : PySem.W.nsIn K mainGlobals "isinstance" = some none)
    (z16 : PySem.W.nsIn K mainGlobals "bool" = some none)
    (z17 : PySem.W.nsIn K mainGlobals "dict" = some none)
    (z18 : PySem.W.nsIn K mainGlobals "set" = some none)
    (aC0 : PySem.W.nsIn K mainGlobals "WalkError" = some (some (.ref C0)))
    (bC0 : PySem.W.subIn K (.ref C0) (.type "BaseException") = some true)
    (tC0 : PySem.W.typeIn K (.ref C0) = some (.type "type"))
    (dC0 : PySem.W.hasDictIn K C0 = true)
    (cl0 : (PySem.W.clsIn K C0).isSome = true)
    (aC1 : PySem.W.nsIn K mainGlobals "NoContent" = some (some (.ref C1)))
    (bC1 : PySem.W.subIn K (.ref C1) (.type "BaseException") = some true)
    (tC1 : PySem.W.typeIn K (.ref C1) = some (.type "type"))
    (dC1 : PySem.W.hasDictIn K C1 = true)
    (xC1 : PySem.W.excIn K C1 [.type "ValueError", .type "Exception", .type "BaseException", .type "object"] "ValueError.__new__" = true)
    (kC1 : PySem.W.keepIn K (.ref C1) = true)
    (cl1 : (PySem.W.clsIn K C1).isSome = true)
    (uC1 : uniqCls K "NoContent" = some C1)
    (nC1 : clsNm K C1 = some "NoContent")
    (hg1 : PySem.W.findIn K (.ref C1) "__getattribute__" = some (some (.builtin "BaseException.__getattribute__")))
    (hk1 : PySem.W.findIn K (.ref C1) "__getattr__" = some none)
    (ha1 : PySem.W.findIn K (.ref C1) "__class__" = some (some (.builtin "object.__class__")))
    (hm1 : PySem.W.mroIn K C1 (.type "object") = some true)
    (rC1 : PySem.W.subIn K (.ref C1) (.ref C1) = some true)
    (aC2 : PySem.W.nsIn K mainGlobals "NoPlace" = some (some (.ref C2)))
    (bC2 : PySem.W.subIn K (.ref C2) (.type "BaseException") = some true)
    (tC2 : PySem.W.typeIn K (.ref C2) = some (.type "type"))
    (dC2 : PySem.W.hasDictIn K C2 = true)
    (xC2 : PySem.W.excIn K C2 [.type "ValueError", .type "Exception", .type "BaseException", .type "object"] "ValueError.__new__" = true)
    (kC2 : PySem.W.keepIn K (.ref C2) = true)
    (cl2 : (PySem.W.clsIn K C2).isSome = true)
    (uC2 : uniqCls K "NoPlace" = some C2)
    (nC2 : clsNm K C2 = some "NoPlace")
    (hg2 : PySem.W.findIn K (.ref C2) "__getattribute__" = some (some (.builtin "BaseException.__getattribute__")))
    (hk2 : PySem.W.findIn K (.ref C2) "__getattr__" = some none)
    (ha2 : PySem.W.findIn K (.ref C2) "__class__" = some (some (.builtin "object.__class__")))
    (hm2 : PySem.W.mroIn K C2 (.type "object") = some true)
    (rC2 : PySem.W.subIn K (.ref C2) (.ref C2) = some true)
    (aC3 : PySem.W.nsIn K mainGlobals "BadPlan" = some (some (.ref C3)))
    (bC3 : PySem.W.subIn K (.ref C3) (.type "BaseException") = some true)
    (tC3 : PySem.W.typeIn K (.ref C3) = some (.type "type"))
    (dC3 : PySem.W.hasDictIn K C3 = true)
    (cl3 : (PySem.W.clsIn K C3).isSome = true)
    (uC3 : uniqCls K "BadPlan" = some C3)
    (nC3 : clsNm K C3 = some "BadPlan")
    (hg3 : PySem.W.findIn K (.ref C3) "__getattribute__" = some (some (.builtin "BaseException.__getattribute__")))
    (hk3 : PySem.W.findIn K (.ref C3) "__getattr__" = some none)
    (ha3 : PySem.W.findIn K (.ref C3) "__class__" = some (some (.builtin "object.__class__")))
    (hm3 : PySem.W.mroIn K C3 (.type "object") = some true)
    (rC3 : PySem.W.subIn K (.ref C3) (.ref C3) = some true)
    {oI3 ocd3 doc3 pmI3 ctI3 occ3 : Value} {dI3 odI3 occd3 : Option Addr} {slI3 slc3 occs3 : Array (Option Value)} {vs3 : Array Value} {file3 : Str} {tf3 : Tok}
    {nmC3 qC3 : Str} {NC3 : Addr} {bs3 bm3 : List Value} {sn3 : List Str} {sub3 : List Value} {ab3 : Bool} {col3 : Option Bool} {ddC3 : Option Addr} {kz3 ky3 kx3 kw3 kv3 : Option Value}
    (iC3 : PySem.W.findIn K (.ref C3) "__init__" = some (some (.ref g3)))
    (tI3 : PySem.W.typeIn K (.ref g3) = some (.type "function"))
    (lI3 : K.lookup g3 = some ⟨oI3, dI3, .func (PySem.W.fnX "__init__" "BadPlan.__init__" (defArgs (inCls (topS 4) 0)) (defBody (inCls (topS 4) 0)) (defScope (inCls (topS 4) 0)) [(("__class__" : Str), cel3)] .none .none doc3 pmI3 none (.ref co3) ctI3), slI3⟩)
    (cI3 : PySem.W.codeIn K (.ref co3) "BadPlan.__init__" = true)
    (ce3 : K.lookup cel3 = some ⟨ocd3, odI3, .cell (some (.ref C3)), slc3⟩)
    (coI3 : K.lookup co3 = some ⟨occ3, occd3, .fields vs3, occs3⟩)
    (fi3 : vs3[2]? = some (.str file3 tf3))
    (fe3 : (l.prog.main.file == file3) = true)
    (sa3 : PySem.W.findIn K (.ref C3) "__setattr__" = some (some (.builtin "object.__setattr__")))
    (lC3 : K.lookup C3 = some (excClassObj nmC3 qC3 C3 NC3 bs3 bm3 true sn3 sub3 ab3 col3 ddC3 kz3 ky3 kx3 kw3 kv3 "ValueError.__new__"))
    (rv3 : PySem.HandSPX.refsVE bm3 = true)
    (kC3 : PySem.W.keepIn K (.ref C3) = true)
    (sv3 : PySem.W.subIn K (.ref C3) (.type "ValueError") = some true)
    (su3 : PySem.W.ks_superIn K C3 C3 "__init__" = some (some (.builtin "ValueError.__init__")))
    (ex3 : PySem.W.excInitIn K C3 bmVE "ValueError.__new__" = true)
    (fd3 : PySem.W.findIn K (.ref C3) "part" = some none)
    (aC4 : PySem.W.nsIn K mainGlobals "Idle" = some (some (.ref C4)))
    (bC4 : PySem.W.subIn K (.ref C4) (.type "BaseException") = some true)
    (tC4 : PySem.W.typeIn K (.ref C4) = some (.type "type"))
    (dC4 : PySem.W.hasDictIn K C4 = true)
    (cl4 : (PySem.W.clsIn K C4).isSome = true)
    (uC4 : uniqCls K "Idle" = some C4)
    (nC4 : clsNm K C4 = some "Idle")
    (hg4 : PySem.W.findIn K (.ref C4) "__getattribute__" = some (some (.builtin "BaseException.__getattribute__")))
    (hk4 : PySem.W.findIn K (.ref C4) "__getattr__" = some none)
    (ha4 : PySem.W.findIn K (.ref C4) "__class__" = some (some (.builtin "object.__class__")))
    (hm4 : PySem.W.mroIn K C4 (.type "object") = some true)
    (rC4 : PySem.W.subIn K (.ref C4) (.ref C4) = some true)
    {oI4 ocd4 doc4 pmI4 ctI4 occ4 : Value} {dI4 odI4 occd4 : Option Addr} {slI4 slc4 occs4 : Array (Option Value)} {vs4 : Array Value} {file4 : Str} {tf4 : Tok}
    {nmC4 qC4 : Str} {NC4 : Addr} {bs4 bm4 : List Value} {sn4 : List Str} {sub4 : List Value} {ab4 : Bool} {col4 : Option Bool} {ddC4 : Option Addr} {kz4 ky4 kx4 kw4 kv4 : Option Value}
    (iC4 : PySem.W.findIn K (.ref C4) "__init__" = some (some (.ref g4)))
    (tI4 : PySem.W.typeIn K (.ref g4) = some (.type "function"))
    (lI4 : K.lookup g4 = some ⟨oI4, dI4, .func (PySem.W.fnX "__init__" "Idle.__init__" (defArgs (inCls (topS 5) 0)) (defBody (inCls (topS 5) 0)) (defScope (inCls (topS 5) 0)) [(("__class__" : Str), cel4)] .none .none doc4 pmI4 none (.ref co4) ctI4), slI4⟩)
    (cI4 : PySem.W.codeIn K (.ref co4) "Idle.__init__" = true)
    (ce4 : K.lookup cel4 = some ⟨ocd4, odI4, .cell (some (.ref C4)), slc4⟩)
    (coI4 : K.lookup co4 = some ⟨occ4, occd4, .fields vs4, occs4⟩)
    (fi4 : vs4[2]? = some (.str file4 tf4))
    (fe4 : (l.prog.main.file == file4) = true)
    (sa4 : PySem.W.findIn K (.ref C4) "__setattr__" = some (some (.builtin "object.__setattr__")))
    (lC4 : K.lookup C4 = some (excClassObj nmC4 qC4 C4 NC4 bs4 bm4 true sn4 sub4 ab4 col4 ddC4 kz4 ky4 kx4 kw4 kv4 "ValueError.__new__"))
    (rv4 : PySem.HandSPX.refsVE bm4 = true)
    (kC4 : PySem.W.keepIn K (.ref C4) = true)
    (sv4 : PySem.W.subIn K (.ref C4) (.type "ValueError") = some true)
    (su4 : PySem.W.ks_superIn K C4 C4 "__init__" = some (some (.builtin "ValueError.__init__")))
    (ex4 : PySem.W.excInitIn K C4 bmVE "ValueError.__new__" = true)
    (fd4 : PySem.W.findIn K (.ref C4) "ring" = some none)
    (aC5 : PySem.W.nsIn K mainGlobals "NoPhase" = some (some (.ref C5)))
    (bC5 : PySem.W.subIn K (.ref C5) (.type "BaseException") = some true)
    (tC5 : PySem.W.typeIn K (.ref C5) = some (.type "type"))
    (dC5 : PySem.W.hasDictIn K C5 = true)
    (xC5 : PySem.W.excIn K C5 [.type "ValueError", .type "Exception", .type "BaseException", .type "object"] "ValueError.__new__" = true)
    (kC5 : PySem.W.keepIn K (.ref C5) = true)
    (cl5 : (PySem.W.clsIn K C5).isSome = true)
    (uC5 : uniqCls K "NoPhase" = some C5)
    (nC5 : clsNm K C5 = some "NoPhase")
    (hg5 : PySem.W.findIn K (.ref C5) "__getattribute__" = some (some (.builtin "BaseException.__getattribute__")))
    (hk5 : PySem.W.findIn K (.ref C5) "__getattr__" = some none)
    (ha5 : PySem.W.findIn K (.ref C5) "__class__" = some (some (.builtin "object.__class__")))
    (hm5 : PySem.W.mroIn K C5 (.type "object") = some true)
    (rC5 : PySem.W.subIn K (.ref C5) (.ref C5) = some true)
    (aC6 : PySem.W.nsIn K mainGlobals "NoContents" = some (some (.ref C6)))
    (bC6 : PySem.W.subIn K (.ref C6) (.type "BaseException") = some true)
    (tC6 : PySem.W.typeIn K (.ref C6) = some (.type "type"))
    (dC6 : PySem.W.hasDictIn K C6 = true)
    (xC6 : PySem.W.excIn K C6 [.type "ValueError", .type "Exception", .type "BaseException", .type "object"] "ValueError.__new__" = true)
    (kC6 : PySem.W.keepIn K (.ref C6) = true)
    (cl6 : (PySem.W.clsIn K C6).isSome = true)
    (uC6 : uniqCls K "NoContents" = some C6)
    (nC6 : clsNm K C6 = some "NoContents")
    (hg6 : PySem.W.findIn K (.ref C6) "__getattribute__" = some (some (.builtin "BaseException.__getattribute__")))
    (hk6 : PySem.W.findIn K (.ref C6) "__getattr__" = some none)
    (ha6 : PySem.W.findIn K (.ref C6) "__class__" = some (some (.builtin "object.__class__")))
    (hm6 : PySem.W.mroIn K C6 (.type "object") = some true)
    (rC6 : PySem.W.subIn K (.ref C6) (.ref C6) = some true)
    (aC7 : PySem.W.nsIn K mainGlobals "NoNumber" = some (some (.ref C7)))
    (bC7 : PySem.W.subIn K (.ref C7) (.type "BaseException") = some true)
    (tC7 : PySem.W.typeIn K (.ref C7) = some (.type "type"))
    (dC7 : PySem.W.hasDictIn K C7 = true)
    (xC7 : PySem.W.excIn K C7 [.type "ValueError", .type "Exception", .type "BaseException", .type "object"] "ValueError.__new__" = true)
    (kC7 : PySem.W.keepIn K (.ref C7) = true)
    (cl7 : (PySem.W.clsIn K C7).isSome = true)
    (uC7 : uniqCls K "NoNumber" = some C7)
    (nC7 : clsNm K C7 = some "NoNumber")
    (hg7 : PySem.W.findIn K (.ref C7) "__getattribute__" = some (some (.builtin "BaseException.__getattribute__")))
    (hk7 : PySem.W.findIn K (.ref C7) "__getattr__" = some none)
    (ha7 : PySem.W.findIn K (.ref C7) "__class__" = some (some (.builtin "object.__class__")))
    (hm7 : PySem.W.mroIn K C7 (.type "object") = some true)
    (rC7 : PySem.W.subIn K (.ref C7) (.ref C7) = some true)
    (aC8 : PySem.W.nsIn K mainGlobals "OtherPlan" = some (some (.ref C8)))
    (bC8 : PySem.W.subIn K (.ref C8) (.type "BaseException") = some true)
    (tC8 : PySem.W.typeIn K (.ref C8) = some (.type "type"))
    (dC8 : PySem.W.hasDictIn K C8 = true)
    (xC8 : PySem.W.excIn K C8 [.type "ValueError", .type "Exception", .type "BaseException", .type "object"] "ValueError.__new__" = true)
    (kC8 : PySem.W.keepIn K (.ref C8) = true)
    (cl8 : (PySem.W.clsIn K C8).isSome = true)
    (uC8 : uniqCls K "OtherPlan" = some C8)
    (nC8 : clsNm K C8 = some "OtherPlan")
    (hg8 : PySem.W.findIn K (.ref C8) "__getattribute__" = some (some (.builtin "BaseException.__getattribute__")))
    (hk8 : PySem.W.findIn K (.ref C8) "__getattr__" = some none)
    (ha8 : PySem.W.findIn K (.ref C8) "__class__" = some (some (.builtin "object.__class__")))
    (hm8 : PySem.W.mroIn K C8 (.type "object") = some true)
    (rC8 : PySem.W.subIn K (.ref C8) (.ref C8) = some true)
    (aC9 : PySem.W.nsIn K mainGlobals "NoNumbers" = some (some (.ref C9)))
    (bC9 : PySem.W.subIn K (.ref C9) (.type "BaseException") = some true)
    (tC9 : PySem.W.typeIn K (.ref C9) = some (.type "type"))
    (dC9 : PySem.W.hasDictIn K C9 = true)
    (xC9 : PySem.W.excIn K C9 [.type "ValueError", .type "Exception", .type "BaseException", .type "object"] "ValueError.__new__" = true)
    (kC9 : PySem.W.keepIn K (.ref C9) = true)
    (cl9 : (PySem.W.clsIn K C9).isSome = true)
    (uC9 : uniqCls K "NoNumbers" = some C9)
    (nC9 : clsNm K C9 = some "NoNumbers")
    (hg9 : PySem.W.findIn K (.ref C9) "__getattribute__" = some (some (.builtin "BaseException.__getattribute__")))
    (hk9 : PySem.W.findIn K (.ref C9) "__getattr__" = some none)
    (ha9 : PySem.W.findIn K (.ref C9) "__class__" = some (some (.builtin "object.__class__")))
    (hm9 : PySem.W.mroIn K C9 (.type "object") = some true)
    (rC9 : PySem.W.subIn K (.ref C9) (.ref C9) = some true)
    (aC10 : PySem.W.nsIn K mainGlobals "BadProgram" = some (some (.ref C10)))
    (bC10 : PySem.W.subIn K (.ref C10) (.type "BaseException") = some true)
    (tC10 : PySem.W.typeIn K (.ref C10) = some (.type "type"))
    (dC10 : PySem.W.hasDictIn K C10 = true)
    (cl10 : (PySem.W.clsIn K C10).isSome = true)
    (uC10 : uniqCls K "BadProgram" = some C10)
    (nC10 : clsNm K C10 = some "BadProgram")
    (hg10 : PySem.W.findIn K (.ref C10) "__getattribute__" = some (some (.builtin "BaseException.__getattribute__")))
    (hk10 : PySem.W.findIn K (.ref C10) "__getattr__" = some none)
    (ha10 : PySem.W.findIn K (.ref C10) "__class__" = some (some (.builtin "object.__class__")))
    (hm10 : PySem.W.mroIn K C10 (.type "object") = some true)
    (rC10 : PySem.W.subIn K (.ref C10) (.ref C10) = some true)
    {oI10 ocd10 doc10 pmI10 ctI10 occ10 : Value} {dI10 odI10 occd10 : Option Addr} {slI10 slc10 occs10 : Array (Option Value)} {vs10 : Array Value} {file10 : Str} {tf10 : Tok}
    {nmC10 qC10 : Str} {NC10 : Addr} {bs10 bm10 : List Value} {sn10 : List Str} {sub10 : List Value} {ab10 : Bool} {col10 : Option Bool} {ddC10 : Option Addr} {kz10 ky10 kx10 kw10 kv10 : Option Value}
    (iC10 : PySem.W.findIn K (.ref C10) "__init__" = some (some (.ref g10)))
    (tI10 : PySem.W.typeIn K (.ref g10) = some (.type "function"))
    (lI10 : K.lookup g10 = some ⟨oI10, dI10, .func (PySem.W.fnX "__init__" "BadProgram.__init__" (defArgs (inCls (topS 11) 0)) (defBody (inCls (topS 11) 0)) (defScope (inCls (topS 11) 0)) [(("__class__" : Str), cel10)] .none .none doc10 pmI10 none (.ref co10) ctI10), slI10⟩)
    (cI10 : PySem.W.codeIn K (.ref co10) "BadProgram.__init__" = true)
    (ce10 : K.lookup cel10 = some ⟨ocd10, odI10, .cell (some (.ref C10)), slc10⟩)
    (coI10 : K.lookup co10 = some ⟨occ10, occd10, .fields vs10, occs10⟩)
    (fi10 : vs10[2]? = some (.str file10 tf10))
    (fe10 : (l.prog.main.file == file10) = true)
    (sa10 : PySem.W.findIn K (.ref C10) "__setattr__" = some (some (.builtin "object.__setattr__")))
    (lC10 : K.lookup C10 = some (excClassObj nmC10 qC10 C10 NC10 bs10 bm10 true sn10 sub10 ab10 col10 ddC10 kz10 ky10 kx10 kw10 kv10 "ValueError.__new__"))
    (rv10 : PySem.HandSPX.refsVE bm10 = true)
    (kC10 : PySem.W.keepIn K (.ref C10) = true)
    (sv10 : PySem.W.subIn K (.ref C10) (.type "ValueError") = some true)
    (su10 : PySem.W.ks_superIn K C10 C10 "__init__" = some (some (.builtin "ValueError.__init__")))
    (ex10 : PySem.W.excInitIn K C10 bmVE "ValueError.__new__" = true)
    (fd10 : PySem.W.findIn K (.ref C10) "part" = some none)
    (aC11 : PySem.W.nsIn K mainGlobals "NoBound" = some (some (.ref C11)))
    (bC11 : PySem.W.subIn K (.ref C11) (.type "BaseException") = some true)
    (tC11 : PySem.W.typeIn K (.ref C11) = some (.type "type"))
    (dC11 : PySem.W.hasDictIn K C11 = true)
    (xC11 : PySem.W.excIn K C11 [.type "ValueError", .type "Exception", .type "BaseException", .type "object"] "ValueError.__new__" = true)
    (kC11 : PySem.W.keepIn K (.ref C11) = true)
    (cl11 : (PySem.W.clsIn K C11).isSome = true)
    (uC11 : uniqCls K "NoBound" = some C11)
    (nC11 : clsNm K C11 = some "NoBound")
    (hg11 : PySem.W.findIn K (.ref C11) "__getattribute__" = some (some (.builtin "BaseException.__getattribute__")))
    (hk11 : PySem.W.findIn K (.ref C11) "__getattr__" = some none)
    (ha11 : PySem.W.findIn K (.ref C11) "__class__" = some (some (.builtin "object.__class__")))
    (hm11 : PySem.W.mroIn K C11 (.type "object") = some true)
    (rC11 : PySem.W.subIn K (.ref C11) (.ref C11) = some true)
    (aC12 : PySem.W.nsIn K mainGlobals "Over" = some (some (.ref C12)))
    (bC12 : PySem.W.subIn K (.ref C12) (.type "BaseException") = some true)
    (tC12 : PySem.W.typeIn K (.ref C12) = some (.type "type"))
    (dC12 : PySem.W.hasDictIn K C12 = true)
    (xC12 : PySem.W.excIn K C12 [.type "ValueError", .type "Exception", .type "BaseException", .type "object"] "ValueError.__new__" = true)
    (kC12 : PySem.W.keepIn K (.ref C12) = true)
    (cl12 : (PySem.W.clsIn K C12).isSome = true)
    (uC12 : uniqCls K "Over" = some C12)
    (nC12 : clsNm K C12 = some "Over")
    (hg12 : PySem.W.findIn K (.ref C12) "__getattribute__" = some (some (.builtin "BaseException.__getattribute__")))
    (hk12 : PySem.W.findIn K (.ref C12) "__getattr__" = some none)
    (ha12 : PySem.W.findIn K (.ref C12) "__class__" = some (some (.builtin "object.__class__")))
    (hm12 : PySem.W.mroIn K C12 (.type "object") = some true)
    (rC12 : PySem.W.subIn K (.ref C12) (.ref C12) = some true)
    (aC13 : PySem.W.nsIn K mainGlobals "NoHand" = some (some (.ref C13)))
    (bC13 : PySem.W.subIn K (.ref C13) (.type "BaseException") = some true)
    (tC13 : PySem.W.typeIn K (.ref C13) = some (.type "type"))
    (dC13 : PySem.W.hasDictIn K C13 = true)
    (xC13 : PySem.W.excIn K C13 [.type "ValueError", .type "Exception", .type "BaseException", .type "object"] "ValueError.__new__" = true)
    (kC13 : PySem.W.keepIn K (.ref C13) = true)
    (cl13 : (PySem.W.clsIn K C13).isSome = true)
    (uC13 : uniqCls K "NoHand" = some C13)
    (nC13 : clsNm K C13 = some "NoHand")
    (hg13 : PySem.W.findIn K (.ref C13) "__getattribute__" = some (some (.builtin "BaseException.__getattribute__")))
    (hk13 : PySem.W.findIn K (.ref C13) "__getattr__" = some none)
    (ha13 : PySem.W.findIn K (.ref C13) "__class__" = some (some (.builtin "object.__class__")))
    (hm13 : PySem.W.mroIn K C13 (.type "object") = some true)
    (rC13 : PySem.W.subIn K (.ref C13) (.ref C13) = some true)
    (aC14 : PySem.W.nsIn K mainGlobals "NothingDone" = some (some (.ref C14)))
    (bC14 : PySem.W.subIn K (.ref C14) (.type "BaseException") = some true)
    (tC14 : PySem.W.typeIn K (.ref C14) = some (.type "type"))
    (dC14 : PySem.W.hasDictIn K C14 = true)
    (xC14 : PySem.W.excIn K C14 [.type "ValueError", .type "Exception", .type "BaseException", .type "object"] "ValueError.__new__" = true)
    (kC14 : PySem.W.keepIn K (.ref C14) = true)
    (cl14 : (PySem.W.clsIn K C14).isSome = true)
    (uC14 : uniqCls K "NothingDone" = some C14)
    (nC14 : clsNm K C14 = some "NothingDone")
    (hg14 : PySem.W.findIn K (.ref C14) "__getattribute__" = some (some (.builtin "BaseException.__getattribute__")))
    (hk14 : PySem.W.findIn K (.ref C14) "__getattr__" = some none)
    (ha14 : PySem.W.findIn K (.ref C14) "__class__" = some (some (.builtin "object.__class__")))
    (hm14 : PySem.W.mroIn K C14 (.type "object") = some true)
    (rC14 : PySem.W.subIn K (.ref C14) (.ref C14) = some true)
    (aC15 : PySem.W.nsIn K mainGlobals "BadScript" = some (some (.ref C15)))
    (bC15 : PySem.W.subIn K (.ref C15) (.type "BaseException") = some true)
    (tC15 : PySem.W.typeIn K (.ref C15) = some (.type "type"))
    (dC15 : PySem.W.hasDictIn K C15 = true)
    (cl15 : (PySem.W.clsIn K C15).isSome = true)
    (uC15 : uniqCls K "BadScript" = some C15)
    (nC15 : clsNm K C15 = some "BadScript")
    (hg15 : PySem.W.findIn K (.ref C15) "__getattribute__" = some (some (.builtin "BaseException.__getattribute__")))
    (hk15 : PySem.W.findIn K (.ref C15) "__getattr__" = some none)
    (ha15 : PySem.W.findIn K (.ref C15) "__class__" = some (some (.builtin "object.__class__")))
    (hm15 : PySem.W.mroIn K C15 (.type "object") = some true)
    (rC15 : PySem.W.subIn K (.ref C15) (.ref C15) = some true)
    {oI15 ocd15 doc15 pmI15 ctI15 occ15 : Value} {dI15 odI15 occd15 : Option Addr} {slI15 slc15 occs15 : Array (Option Value)} {vs15 : Array Value} {file15 : Str} {tf15 : Tok}
    {nmC15 qC15 : Str} {NC15 : Addr} {bs15 bm15 : List Value} {sn15 : List Str} {sub15 : List Value} {ab15 : Bool} {col15 : Option Bool} {ddC15 : Option Addr} {kz15 ky15 kx15 kw15 kv15 : Option Value}
    (iC15 : PySem.W.findIn K (.ref C15) "__init__" = some (some (.ref g15)))
    (tI15 : PySem.W.typeIn K (.ref g15) = some (.type "function"))
    (lI15 : K.lookup g15 = some ⟨oI15, dI15, .func (PySem.W.fnX "__init__" "BadScript.__init__" (defArgs (inCls (topS 16) 0)) (defBody (inCls (topS 16) 0)) (defScope (inCls (topS 16) 0)) [(("__class__" : Str), cel15)] .none .none doc15 pmI15 none (.ref co15) ctI15), slI15⟩)
    (cI15 : PySem.W.codeIn K (.ref co15) "BadScript.__init__" = true)
    (ce15 : K.lookup cel15 = some ⟨ocd15, odI15, .cell (some (.ref C15)), slc15⟩)
    (coI15 : K.lookup co15 = some ⟨occ15, occd15, .fields vs15, occs15⟩)
    (fi15 : vs15[2]? = some (.str file15 tf15))
    (fe15 : (l.prog.main.file == file15) = true)
    (sa15 : PySem.W.findIn K (.ref C15) "__setattr__" = some (some (.builtin "object.__setattr__")))
    (lC15 : K.lookup C15 = some (excClassObj nmC15 qC15 C15 NC15 bs15 bm15 true sn15 sub15 ab15 col15 ddC15 kz15 ky15 kx15 kw15 kv15 "ValueError.__new__"))
    (rv15 : PySem.HandSPX.refsVE bm15 = true)
    (kC15 : PySem.W.keepIn K (.ref C15) = true)
    (sv15 : PySem.W.subIn K (.ref C15) (.type "ValueError") = some true)
    (su15 : PySem.W.ks_superIn K C15 C15 "__init__" = some (some (.builtin "ValueError.__init__")))
    (ex15 : PySem.W.excInitIn K C15 bmVE "ValueError.__new__" = true)
    (fd15 : PySem.W.findIn K (.ref C15) "part" = some none)
    (aC16 : PySem.W.nsIn K mainGlobals "TooMany" = some (some (.ref C16)))
    (bC16 : PySem.W.subIn K (.ref C16) (.type "BaseException") = some true)
    (tC16 : PySem.W.typeIn K (.ref C16) = some (.type "type"))
    (dC16 : PySem.W.hasDictIn K C16 = true)
    (cl16 : (PySem.W.clsIn K C16).isSome = true)
    (uC16 : uniqCls K "TooMany" = some C16)
    (nC16 : clsNm K C16 = some "TooMany")
    (hg16 : PySem.W.findIn K (.ref C16) "__getattribute__" = some (some (.builtin "BaseException.__getattribute__")))
    (hk16 : PySem.W.findIn K (.ref C16) "__getattr__" = some none)
    (ha16 : PySem.W.findIn K (.ref C16) "__class__" = some (some (.builtin "object.__class__")))
    (hm16 : PySem.W.mroIn K C16 (.type "object") = some true)
    (rC16 : PySem.W.subIn K (.ref C16) (.ref C16) = some true)
    {oI16 ocd16 doc16 pmI16 ctI16 occ16 : Value} {dI16 odI16 occd16 : Option Addr} {slI16 slc16 occs16 : Array (Option Value)} {vs16 : Array Value} {file16 : Str} {tf16 : Tok}
    {nmC16 qC16 : Str} {NC16 : Addr} {bs16 bm16 : List Value} {sn16 : List Str} {sub16 : List Value} {ab16 : Bool} {col16 : Option Bool} {ddC16 : Option Addr} {kz16 ky16 kx16 kw16 kv16 : Option Value}
    (iC16 : PySem.W.findIn K (.ref C16) "__init__" = some (some (.ref g16)))
    (tI16 : PySem.W.typeIn K (.ref g16) = some (.type "function"))
    (lI16 : K.lookup g16 = some ⟨oI16, dI16, .func (PySem.W.fnX "__init__" "TooMany.__init__" (defArgs (inCls (topS 17) 0)) (defBody (inCls (topS 17) 0)) (defScope (inCls (topS 17) 0)) [(("__class__" : Str), cel16)] .none .none doc16 pmI16 none (.ref co16) ctI16), slI16⟩)
    (cI16 : PySem.W.codeIn K (.ref co16) "TooMany.__init__" = true)
    (ce16 : K.lookup cel16 = some ⟨ocd16, odI16, .cell (some (.ref C16)), slc16⟩)
    (coI16 : K.lookup co16 = some ⟨occ16, occd16, .fields vs16, occs16⟩)
    (fi16 : vs16[2]? = some (.str file16 tf16))
    (fe16 : (l.prog.main.file == file16) = true)
    (sa16 : PySem.W.findIn K (.ref C16) "__setattr__" = some (some (.builtin "object.__setattr__")))
    (lC16 : K.lookup C16 = some (excClassObj nmC16 qC16 C16 NC16 bs16 bm16 true sn16 sub16 ab16 col16 ddC16 kz16 ky16 kx16 kw16 kv16 "ValueError.__new__"))
    (rv16 : PySem.HandSPX.refsVE bm16 = true)
    (kC16 : PySem.W.keepIn K (.ref C16) = true)
    (sv16 : PySem.W.subIn K (.ref C16) (.type "ValueError") = some true)
    (su16 : PySem.W.ks_superIn K C16 C16 "__init__" = some (some (.builtin "ValueError.__init__")))
    (ex16 : PySem.W.excInitIn K C16 bmVE "ValueError.__new__" = true)
    (fd16 : PySem.W.findIn K (.ref C16) "most" = some none)
    (aC17 : PySem.W.nsIn K mainGlobals "BadText" = some (some (.ref C17)))
    (bC17 : PySem.W.subIn K (.ref C17) (.type "BaseException") = some true)
    (tC17 : PySem.W.typeIn K (.ref C17) = some (.type "type"))
    (dC17 : PySem.W.hasDictIn K C17 = true)
    (cl17 : (PySem.W.clsIn K C17).isSome = true)
    (uC17 : uniqCls K "BadText" = some C17)
    (nC17 : clsNm K C17 = some "BadText")
    (hg17 : PySem.W.findIn K (.ref C17) "__getattribute__" = some (some (.builtin "BaseException.__getattribute__")))
    (hk17 : PySem.W.findIn K (.ref C17) "__getattr__" = some none)
    (ha17 : PySem.W.findIn K (.ref C17) "__class__" = some (some (.builtin "object.__class__")))
    (hm17 : PySem.W.mroIn K C17 (.type "object") = some true)
    (rC17 : PySem.W.subIn K (.ref C17) (.ref C17) = some true)
    {oI17 ocd17 doc17 pmI17 ctI17 occ17 : Value} {dI17 odI17 occd17 : Option Addr} {slI17 slc17 occs17 : Array (Option Value)} {vs17 : Array Value} {file17 : Str} {tf17 : Tok}
    {nmC17 qC17 : Str} {NC17 : Addr} {bs17 bm17 : List Value} {sn17 : List Str} {sub17 : List Value} {ab17 : Bool} {col17 : Option Bool} {ddC17 : Option Addr} {kz17 ky17 kx17 kw17 kv17 : Option Value}
    (iC17 : PySem.W.findIn K (.ref C17) "__init__" = some (some (.ref g17)))
    (tI17 : PySem.W.typeIn K (.ref g17) = some (.type "function"))
    (lI17 : K.lookup g17 = some ⟨oI17, dI17, .func (PySem.W.fnX "__init__" "BadText.__init__" (defArgs (inCls (topS 18) 0)) (defBody (inCls (topS 18) 0)) (defScope (inCls (topS 18) 0)) [(("__class__" : Str), cel17)] .none .none doc17 pmI17 none (.ref co17) ctI17), slI17⟩)
    (cI17 : PySem.W.codeIn K (.ref co17) "BadText.__init__" = true)
    (ce17 : K.lookup cel17 = some ⟨ocd17, odI17, .cell (some (.ref C17)), slc17⟩)
    (coI17 : K.lookup co17 = some ⟨occ17, occd17, .fields vs17, occs17⟩)
    (fi17 : vs17[2]? = some (.str file17 tf17))
    (fe17 : (l.prog.main.file == file17) = true)
    (sa17 : PySem.W.findIn K (.ref C17) "__setattr__" = some (some (.builtin "object.__setattr__")))
    (lC17 : K.lookup C17 = some (excClassObj nmC17 qC17 C17 NC17 bs17 bm17 true sn17 sub17 ab17 col17 ddC17 kz17 ky17 kx17 kw17 kv17 "ValueError.__new__"))
    (rv17 : PySem.HandSPX.refsVE bm17 = true)
    (kC17 : PySem.W.keepIn K (.ref C17) = true)
    (sv17 : PySem.W.subIn K (.ref C17) (.type "ValueError") = some true)
    (su17 : PySem.W.ks_superIn K C17 C17 "__init__" = some (some (.builtin "ValueError.__init__")))
    (ex17 : PySem.W.excInitIn K C17 bmVE "ValueError.__new__" = true)
    (fd17 : PySem.W.findIn K (.ref C17) "line" = some none)
    (aC18 : PySem.W.nsIn K mainGlobals "NoDealing" = some (some (.ref C18)))
    (bC18 : PySem.W.subIn K (.ref C18) (.type "BaseException") = some true)
    (tC18 : PySem.W.typeIn K (.ref C18) = some (.type "type"))
    (dC18 : PySem.W.hasDictIn K C18 = true)
    (xC18 : PySem.W.excIn K C18 [.type "ValueError", .type "Exception", .type "BaseException", .type "object"] "ValueError.__new__" = true)
    (kC18 : PySem.W.keepIn K (.ref C18) = true)
    (cl18 : (PySem.W.clsIn K C18).isSome = true)
    (uC18 : uniqCls K "NoDealing" = some C18)
    (nC18 : clsNm K C18 = some "NoDealing")
    (hg18 : PySem.W.findIn K (.ref C18) "__getattribute__" = some (some (.builtin "BaseException.__getattribute__")))
    (hk18 : PySem.W.findIn K (.ref C18) "__getattr__" = some none)
    (ha18 : PySem.W.findIn K (.ref C18) "__class__" = some (some (.builtin "object.__class__")))
    (hm18 : PySem.W.mroIn K C18 (.type "object") = some true)
    (rC18 : PySem.W.subIn K (.ref C18) (.ref C18) = some true)
    (aC19 : PySem.W.nsIn K mainGlobals "NotFree" = some (some (.ref C19)))
    (bC19 : PySem.W.subIn K (.ref C19) (.type "BaseException") = some true)
    (tC19 : PySem.W.typeIn K (.ref C19) = some (.type "type"))
    (dC19 : PySem.W.hasDictIn K C19 = true)
    (xC19 : PySem.W.excIn K C19 [.type "ValueError", .type "Exception", .type "BaseException", .type "object"] "ValueError.__new__" = true)
    (kC19 : PySem.W.keepIn K (.ref C19) = true)
    (cl19 : (PySem.W.clsIn K C19).isSome = true)
    (uC19 : uniqCls K "NotFree" = some C19)
    (nC19 : clsNm K C19 = some "NotFree")
    (hg19 : PySem.W.findIn K (.ref C19) "__getattribute__" = some (some (.builtin "BaseException.__getattribute__")))
    (hk19 : PySem.W.findIn K (.ref C19) "__getattr__" = some none)
    (ha19 : PySem.W.findIn K (.ref C19) "__class__" = some (some (.builtin "object.__class__")))
    (hm19 : PySem.W.mroIn K C19 (.type "object") = some true)
    (rC19 : PySem.W.subIn K (.ref C19) (.ref C19) = some true)
    (aC20 : PySem.W.nsIn K mainGlobals "Free" = some (some (.ref C20)))
    (bC20 : PySem.W.subIn K (.ref C20) (.type "BaseException") = some true)
    (tC20 : PySem.W.typeIn K (.ref C20) = some (.type "type"))
    (dC20 : PySem.W.hasDictIn K C20 = true)
    (xC20 : PySem.W.excIn K C20 [.type "ValueError", .type "Exception", .type "BaseException", .type "object"] "ValueError.__new__" = true)
    (kC20 : PySem.W.keepIn K (.ref C20) = true)
    (cl20 : (PySem.W.clsIn K C20).isSome = true)
    (uC20 : uniqCls K "Free" = some C20)
    (nC20 : clsNm K C20 = some "Free")
    (hg20 : PySem.W.findIn K (.ref C20) "__getattribute__" = some (some (.builtin "BaseException.__getattribute__")))
    (hk20 : PySem.W.findIn K (.ref C20) "__getattr__" = some none)
    (ha20 : PySem.W.findIn K (.ref C20) "__class__" = some (some (.builtin "object.__class__")))
    (hm20 : PySem.W.mroIn K C20 (.type "object") = some true)
    (rC20 : PySem.W.subIn K (.ref C20) (.ref C20) = some true)
    (aC21 : PySem.W.nsIn K mainGlobals "NoRow" = some (some (.ref C21)))
    (bC21 : PySem.W.subIn K (.ref C21) (.type "BaseException") = some true)
    (tC21 : PySem.W.typeIn K (.ref C21) = some (.type "type"))
    (dC21 : PySem.W.hasDictIn K C21 = true)
    (xC21 : PySem.W.excIn K C21 [.type "ValueError", .type "Exception", .type "BaseException", .type "object"] "ValueError.__new__" = true)
    (kC21 : PySem.W.keepIn K (.ref C21) = true)
    (cl21 : (PySem.W.clsIn K C21).isSome = true)
    (uC21 : uniqCls K "NoRow" = some C21)
    (nC21 : clsNm K C21 = some "NoRow")
    (hg21 : PySem.W.findIn K (.ref C21) "__getattribute__" = some (some (.builtin "BaseException.__getattribute__")))
    (hk21 : PySem.W.findIn K (.ref C21) "__getattr__" = some none)
    (ha21 : PySem.W.findIn K (.ref C21) "__class__" = some (some (.builtin "object.__class__")))
    (hm21 : PySem.W.mroIn K C21 (.type "object") = some true)
    (rC21 : PySem.W.subIn K (.ref C21) (.ref C21) = some true)
    (aC22 : PySem.W.nsIn K mainGlobals "BadQuestion" = some (some (.ref C22)))
    (bC22 : PySem.W.subIn K (.ref C22) (.type "BaseException") = some true)
    (tC22 : PySem.W.typeIn K (.ref C22) = some (.type "type"))
    (dC22 : PySem.W.hasDictIn K C22 = true)
    (cl22 : (PySem.W.clsIn K C22).isSome = true)
    (uC22 : uniqCls K "BadQuestion" = some C22)
    (nC22 : clsNm K C22 = some "BadQuestion")
    (hg22 : PySem.W.findIn K (.ref C22) "__getattribute__" = some (some (.builtin "BaseException.__getattribute__")))
    (hk22 : PySem.W.findIn K (.ref C22) "__getattr__" = some none)
    (ha22 : PySem.W.findIn K (.ref C22) "__class__" = some (some (.builtin "object.__class__")))
    (hm22 : PySem.W.mroIn K C22 (.type "object") = some true)
    (rC22 : PySem.W.subIn K (.ref C22) (.ref C22) = some true)
    {oI22 ocd22 doc22 pmI22 ctI22 occ22 : Value} {dI22 odI22 occd22 : Option Addr} {slI22 slc22 occs22 : Array (Option Value)} {vs22 : Array Value} {file22 : Str} {tf22 : Tok}
    {nmC22 qC22 : Str} {NC22 : Addr} {bs22 bm22 : List Value} {sn22 : List Str} {sub22 : List Value} {ab22 : Bool} {col22 : Option Bool} {ddC22 : Option Addr} {kz22 ky22 kx22 kw22 kv22 : Option Value}
    (iC22 : PySem.W.findIn K (.ref C22) "__init__" = some (some (.ref g22)))
    (tI22 : PySem.W.typeIn K (.ref g22) = some (.type "function"))
    (lI22 : K.lookup g22 = some ⟨oI22, dI22, .func (PySem.W.fnX "__init__" "BadQuestion.__init__" (defArgs (inCls (topS 23) 0)) (defBody (inCls (topS 23) 0)) (defScope (inCls (topS 23) 0)) [(("__class__" : Str), cel22)] .none .none doc22 pmI22 none (.ref co22) ctI22), slI22⟩)
    (cI22 : PySem.W.codeIn K (.ref co22) "BadQuestion.__init__" = true)
    (ce22 : K.lookup cel22 = some ⟨ocd22, odI22, .cell (some (.ref C22)), slc22⟩)
    (coI22 : K.lookup co22 = some ⟨occ22, occd22, .fields vs22, occs22⟩)
    (fi22 : vs22[2]? = some (.str file22 tf22))
    (fe22 : (l.prog.main.file == file22) = true)
    (sa22 : PySem.W.findIn K (.ref C22) "__setattr__" = some (some (.builtin "object.__setattr__")))
    (lC22 : K.lookup C22 = some (excClassObj nmC22 qC22 C22 NC22 bs22 bm22 true sn22 sub22 ab22 col22 ddC22 kz22 ky22 kx22 kw22 kv22 "ValueError.__new__"))
    (rv22 : PySem.HandSPX.refsVE bm22 = true)
    (kC22 : PySem.W.keepIn K (.ref C22) = true)
    (sv22 : PySem.W.subIn K (.ref C22) (.type "ValueError") = some true)
    (su22 : PySem.W.ks_superIn K C22 C22 "__init__" = some (some (.builtin "ValueError.__init__")))
    (ex22 : PySem.W.excInitIn K C22 bmVE "ValueError.__new__" = true)
    (fd22 : PySem.W.findIn K (.ref C22) "part" = some none)
    (aC23 : PySem.W.nsIn K mainGlobals "NoWords" = some (some (.ref C23)))
    (bC23 : PySem.W.subIn K (.ref C23) (.type "BaseException") = some true)
    (tC23 : PySem.W.typeIn K (.ref C23) = some (.type "type"))
    (dC23 : PySem.W.hasDictIn K C23 = true)
    (xC23 : PySem.W.excIn K C23 [.type "ValueError", .type "Exception", .type "BaseException", .type "object"] "ValueError.__new__" = true)
    (kC23 : PySem.W.keepIn K (.ref C23) = true)
    (cl23 : (PySem.W.clsIn K C23).isSome = true)
    (uC23 : uniqCls K "NoWords" = some C23)
    (nC23 : clsNm K C23 = some "NoWords")
    (hg23 : PySem.W.findIn K (.ref C23) "__getattribute__" = some (some (.builtin "BaseException.__getattribute__")))
    (hk23 : PySem.W.findIn K (.ref C23) "__getattr__" = some none)
    (ha23 : PySem.W.findIn K (.ref C23) "__class__" = some (some (.builtin "object.__class__")))
    (hm23 : PySem.W.mroIn K C23 (.type "object") = some true)
    (rC23 : PySem.W.subIn K (.ref C23) (.ref C23) = some true)
    (aC24 : PySem.W.nsIn K mainGlobals "NoLot" = some (some (.ref C24)))
    (bC24 : PySem.W.subIn K (.ref C24) (.type "BaseException") = some true)
    (tC24 : PySem.W.typeIn K (.ref C24) = some (.type "type"))
    (dC24 : PySem.W.hasDictIn K C24 = true)
    (xC24 : PySem.W.excIn K C24 [.type "ValueError", .type "Exception", .type "BaseException", .type "object"] "ValueError.__new__" = true)
    (kC24 : PySem.W.keepIn K (.ref C24) = true)
    (cl24 : (PySem.W.clsIn K C24).isSome = true)
    (uC24 : uniqCls K "NoLot" = some C24)
    (nC24 : clsNm K C24 = some "NoLot")
    (hg24 : PySem.W.findIn K (.ref C24) "__getattribute__" = some (some (.builtin "BaseException.__getattribute__")))
    (hk24 : PySem.W.findIn K (.ref C24) "__getattr__" = some none)
    (ha24 : PySem.W.findIn K (.ref C24) "__class__" = some (some (.builtin "object.__class__")))
    (hm24 : PySem.W.mroIn K C24 (.type "object") = some true)
    (rC24 : PySem.W.subIn K (.ref C24) (.ref C24) = some true)
    (aC25 : PySem.W.nsIn K mainGlobals "NoSorter" = some (some (.ref C25)))
    (bC25 : PySem.W.subIn K (.ref C25) (.type "BaseException") = some true)
    (tC25 : PySem.W.typeIn K (.ref C25) = some (.type "type"))
    (dC25 : PySem.W.hasDictIn K C25 = true)
    (xC25 : PySem.W.excIn K C25 [.type "ValueError", .type "Exception", .type "BaseException", .type "object"] "ValueError.__new__" = true)
    (kC25 : PySem.W.keepIn K (.ref C25) = true)
    (cl25 : (PySem.W.clsIn K C25).isSome = true)
    (uC25 : uniqCls K "NoSorter" = some C25)
    (nC25 : clsNm K C25 = some "NoSorter")
    (hg25 : PySem.W.findIn K (.ref C25) "__getattribute__" = some (some (.builtin "BaseException.__getattribute__")))
    (hk25 : PySem.W.findIn K (.ref C25) "__getattr__" = some none)
    (ha25 : PySem.W.findIn K (.ref C25) "__class__" = some (some (.builtin "object.__class__")))
    (hm25 : PySem.W.mroIn K C25 (.type "object") = some true)
    (rC25 : PySem.W.subIn K (.ref C25) (.ref C25) = some true)
    (aC26 : PySem.W.nsIn K mainGlobals "OtherQuestion" = some (some (.ref C26)))
    (bC26 : PySem.W.subIn K (.ref C26) (.type "BaseException") = some true)
    (tC26 : PySem.W.typeIn K (.ref C26) = some (.type "type"))
    (dC26 : PySem.W.hasDictIn K C26 = true)
    (xC26 : PySem.W.excIn K C26 [.type "ValueError", .type "Exception", .type "BaseException", .type "object"] "ValueError.__new__" = true)
    (kC26 : PySem.W.keepIn K (.ref C26) = true)
    (cl26 : (PySem.W.clsIn K C26).isSome = true)
    (uC26 : uniqCls K "OtherQuestion" = some C26)
    (nC26 : clsNm K C26 = some "OtherQuestion")
    (hg26 : PySem.W.findIn K (.ref C26) "__getattribute__" = some (some (.builtin "BaseException.__getattribute__")))
    (hk26 : PySem.W.findIn K (.ref C26) "__getattr__" = some none)
    (ha26 : PySem.W.findIn K (.ref C26) "__class__" = some (some (.builtin "object.__class__")))
    (hm26 : PySem.W.mroIn K C26 (.type "object") = some true)
    (rC26 : PySem.W.subIn K (.ref C26) (.ref C26) = some true)
    (aC27 : PySem.W.nsIn K mainGlobals "NoStanding" = some (some (.ref C27)))
    (bC27 : PySem.W.subIn K (.ref C27) (.type "BaseException") = some true)
    (tC27 : PySem.W.typeIn K (.ref C27) = some (.type "type"))
    (dC27 : PySem.W.hasDictIn K C27 = true)
    (xC27 : PySem.W.excIn K C27 [.type "ValueError", .type "Exception", .type "BaseException", .type "object"] "ValueError.__new__" = true)
    (kC27 : PySem.W.keepIn K (.ref C27) = true)
    (cl27 : (PySem.W.clsIn K C27).isSome = true)
    (uC27 : uniqCls K "NoStanding" = some C27)
    (nC27 : clsNm K C27 = some "NoStanding")
    (hg27 : PySem.W.findIn K (.ref C27) "__getattribute__" = some (some (.builtin "BaseException.__getattribute__")))
    (hk27 : PySem.W.findIn K (.ref C27) "__getattr__" = some none)
    (ha27 : PySem.W.findIn K (.ref C27) "__class__" = some (some (.builtin "object.__class__")))
    (hm27 : PySem.W.mroIn K C27 (.type "object") = some true)
    (rC27 : PySem.W.subIn K (.ref C27) (.ref C27) = some true)
    (aC28 : PySem.W.nsIn K mainGlobals "NoLine" = some (some (.ref C28)))
    (bC28 : PySem.W.subIn K (.ref C28) (.type "BaseException") = some true)
    (tC28 : PySem.W.typeIn K (.ref C28) = some (.type "type"))
    (dC28 : PySem.W.hasDictIn K C28 = true)
    (xC28 : PySem.W.excIn K C28 [.type "ValueError", .type "Exception", .type "BaseException", .type "object"] "ValueError.__new__" = true)
    (kC28 : PySem.W.keepIn K (.ref C28) = true)
    (cl28 : (PySem.W.clsIn K C28).isSome = true)
    (uC28 : uniqCls K "NoLine" = some C28)
    (nC28 : clsNm K C28 = some "NoLine")
    (hg28 : PySem.W.findIn K (.ref C28) "__getattribute__" = some (some (.builtin "BaseException.__getattribute__")))
    (hk28 : PySem.W.findIn K (.ref C28) "__getattr__" = some none)
    (ha28 : PySem.W.findIn K (.ref C28) "__class__" = some (some (.builtin "object.__class__")))
    (hm28 : PySem.W.mroIn K C28 (.type "object") = some true)
    (rC28 : PySem.W.subIn K (.ref C28) (.ref C28) = some true)
    (aC29 : PySem.W.nsIn K mainGlobals "NoName" = some (some (.ref C29)))
    (bC29 : PySem.W.subIn K (.ref C29) (.type "BaseException") = some true)
    (tC29 : PySem.W.typeIn K (.ref C29) = some (.type "type"))
    (dC29 : PySem.W.hasDictIn K C29 = true)
    (cl29 : (PySem.W.clsIn K C29).isSome = true)
    (uC29 : uniqCls K "NoName" = some C29)
    (nC29 : clsNm K C29 = some "NoName")
    (hg29 : PySem.W.findIn K (.ref C29) "__getattribute__" = some (some (.builtin "BaseException.__getattribute__")))
    (hk29 : PySem.W.findIn K (.ref C29) "__getattr__" = some none)
    (ha29 : PySem.W.findIn K (.ref C29) "__class__" = some (some (.builtin "object.__class__")))
    (hm29 : PySem.W.mroIn K C29 (.type "object") = some true)
    (rC29 : PySem.W.subIn K (.ref C29) (.ref C29) = some true)
    {oI29 ocd29 doc29 pmI29 ctI29 occ29 : Value} {dI29 odI29 occd29 : Option Addr} {slI29 slc29 occs29 : Array (Option Value)} {vs29 : Array Value} {file29 : Str} {tf29 : Tok}
    {nmC29 qC29 : Str} {NC29 : Addr} {bs29 bm29 : List Value} {sn29 : List Str} {sub29 : List Value} {ab29 : Bool} {col29 : Option Bool} {ddC29 : Option Addr} {kz29 ky29 kx29 kw29 kv29 : Option Value}
    (iC29 : PySem.W.findIn K (.ref C29) "__init__" = some (some (.ref g29)))
    (tI29 : PySem.W.typeIn K (.ref g29) = some (.type "function"))
    (lI29 : K.lookup g29 = some ⟨oI29, dI29, .func (PySem.W.fnX "__init__" "NoName.__init__" (defArgs (inCls (topS 30) 0)) (defBody (inCls (topS 30) 0)) (defScope (inCls (topS 30) 0)) [(("__class__" : Str), cel29)] .none .none doc29 pmI29 none (.ref co29) ctI29), slI29⟩)
    (cI29 : PySem.W.codeIn K (.ref co29) "NoName.__init__" = true)
    (ce29 : K.lookup cel29 = some ⟨ocd29, odI29, .cell (some (.ref C29)), slc29⟩)
    (coI29 : K.lookup co29 = some ⟨occ29, occd29, .fields vs29, occs29⟩)
    (fi29 : vs29[2]? = some (.str file29 tf29))
    (fe29 : (l.prog.main.file == file29) = true)
    (sa29 : PySem.W.findIn K (.ref C29) "__setattr__" = some (some (.builtin "object.__setattr__")))
    (lC29 : K.lookup C29 = some (excClassObj nmC29 qC29 C29 NC29 bs29 bm29 true sn29 sub29 ab29 col29 ddC29 kz29 ky29 kx29 kw29 kv29 "ValueError.__new__"))
    (rv29 : PySem.HandSPX.refsVE bm29 = true)
    (kC29 : PySem.W.keepIn K (.ref C29) = true)
    (sv29 : PySem.W.subIn K (.ref C29) (.type "ValueError") = some true)
    (su29 : PySem.W.ks_superIn K C29 C29 "__init__" = some (some (.builtin "ValueError.__init__")))
    (ex29 : PySem.W.excInitIn K C29 bmVE "ValueError.__new__" = true)
    (fd29 : PySem.W.findIn K (.ref C29) "name" = some none)
    (q0x0 : PySem.W.subIn K (.ref C0) (.ref C0) = some true)
    (q0x12 : PySem.W.subIn K (.ref C0) (.ref C12) = some false)
    (q0x16 : PySem.W.subIn K (.ref C0) (.ref C16) = some false)
    (q0x28 : PySem.W.subIn K (.ref C0) (.ref C28) = some false)
    (q12x0 : PySem.W.subIn K (.ref C12) (.ref C0) = some true)
    (q12x12 : PySem.W.subIn K (.ref C12) (.ref C12) = some true)
    (q12x16 : PySem.W.subIn K (.ref C12) (.ref C16) = some false)
    (q12x28 : PySem.W.subIn K (.ref C12) (.ref C28) = some false)
    (q16x0 : PySem.W.subIn K (.ref C16) (.ref C0) = some true)
    (q16x12 : PySem.W.subIn K (.ref C16) (.ref C12) = some false)
    (q16x16 : PySem.W.subIn K (.ref C16) (.ref C16) = some true)
    (q16x28 : PySem.W.subIn K (.ref C16) (.ref C28) = some false)
    (q28x0 : PySem.W.subIn K (.ref C28) (.ref C0) = some true)
    (q28x12 : PySem.W.subIn K (.ref C28) (.ref C12) = some false)
    (q28x16 : PySem.W.subIn K (.ref C28) (.ref C16) = some false)
    (q28x28 : PySem.W.subIn K (.ref C28) (.ref C28) = some true)
    (q1x0 : PySem.W.subIn K (.ref C1) (.ref C0) = some true)
    (q1x2 : PySem.W.subIn K (.ref C1) (.ref C2) = some false)
    (q1x3 : PySem.W.subIn K (.ref C1) (.ref C3) = some false)
    (q1x4 : PySem.W.subIn K (.ref C1) (.ref C4) = some false)
    (q1x5 : PySem.W.subIn K (.ref C1) (.ref C5) = some false)
    (q1x6 : PySem.W.subIn K (.ref C1) (.ref C6) = some false)
    (q1x7 : PySem.W.subIn K (.ref C1) (.ref C7) = some false)
    (q1x8 : PySem.W.subIn K (.ref C1) (.ref C8) = some false)
    (q1x9 : PySem.W.subIn K (.ref C1) (.ref C9) = some false)
    (q1x10 : PySem.W.subIn K (.ref C1) (.ref C10) = some false)
    (q1x11 : PySem.W.subIn K (.ref C1) (.ref C11) = some false)
    (q1x12 : PySem.W.subIn K (.ref C1) (.ref C12) = some false)
    (q1x13 : PySem.W.subIn K (.ref C1) (.ref C13) = some false)
    (q1x14 : PySem.W.subIn K (.ref C1) (.ref C14) = some false)
    (q1x15 : PySem.W.subIn K (.ref C1) (.ref C15) = some false)
    (q1x16 : PySem.W.subIn K (.ref C1) (.ref C16) = some false)
    (q1x17 : PySem.W.subIn K (.ref C1) (.ref C17) = some false)
    (q1x18 : PySem.W.subIn K (.ref C1) (.ref C18) = some false)
    (q1x19 : PySem.W.subIn K (.ref C1) (.ref C19) = some false)
    (q1x20 : PySem.W.subIn K (.ref C1) (.ref C20) = some false)
    (q1x21 : PySem.W.subIn K (.ref C1) (.ref C21) = some false)
    (q1x22 : PySem.W.subIn K (.ref C1) (.ref C22) = some false)
    (q1x23 : PySem.W.subIn K (.ref C1) (.ref C23) = some false)
    (q1x24 : PySem.W.subIn K (.ref C1) (.ref C24) = some false)
    (q1x25 : PySem.W.subIn K (.ref C1) (.ref C25) = some false)
    (q1x26 : PySem.W.subIn K (.ref C1) (.ref C26) = some false)
    (q1x27 : PySem.W.subIn K (.ref C1) (.ref C27) = some false)
    (q1x28 : PySem.W.subIn K (.ref C1) (.ref C28) = some false)
    (q1x29 : PySem.W.subIn K (.ref C1) (.ref C29) = some false)
    (sv1 : PySem.W.subIn K (.ref C1) (.type "ValueError") = some true)
    (q2x0 : PySem.W.subIn K (.ref C2) (.ref C0) = some true)
    (q2x1 : PySem.W.subIn K (.ref C2) (.ref C1) = some false)
    (q2x3 : PySem.W.subIn K (.ref C2) (.ref C3) = some false)
    (q2x4 : PySem.W.subIn K (.ref C2) (.ref C4) = some false)
    (q2x5 : PySem.W.subIn K (.ref C2) (.ref C5) = some false)
    (q2x6 : PySem.W.subIn K (.ref C2) (.ref C6) = some false)
    (q2x7 : PySem.W.subIn K (.ref C2) (.ref C7) = some false)
    (q2x8 : PySem.W.subIn K (.ref C2) (.ref C8) = some false)
    (q2x9 : PySem.W.subIn K (.ref C2) (.ref C9) = some false)
    (q2x10 : PySem.W.subIn K (.ref C2) (.ref C10) = some false)
    (q2x11 : PySem.W.subIn K (.ref C2) (.ref C11) = some false)
    (q2x12 : PySem.W.subIn K (.ref C2) (.ref C12) = some false)
    (q2x13 : PySem.W.subIn K (.ref C2) (.ref C13) = some false)
    (q2x14 : PySem.W.subIn K (.ref C2) (.ref C14) = some false)
    (q2x15 : PySem.W.subIn K (.ref C2) (.ref C15) = some false)
    (q2x16 : PySem.W.subIn K (.ref C2) (.ref C16) = some false)
    (q2x17 : PySem.W.subIn K (.ref C2) (.ref C17) = some false)
    (q2x18 : PySem.W.subIn K (.ref C2) (.ref C18) = some false)
    (q2x19 : PySem.W.subIn K (.ref C2) (.ref C19) = some false)
    (q2x20 : PySem.W.subIn K (.ref C2) (.ref C20) = some false)
    (q2x21 : PySem.W.subIn K (.ref C2) (.ref C21) = some false)
    (q2x22 : PySem.W.subIn K (.ref C2) (.ref C22) = some false)
    (q2x23 : PySem.W.subIn K (.ref C2) (.ref C23) = some false)
    (q2x24 : PySem.W.subIn K (.ref C2) (.ref C24) = some false)
    (q2x25 : PySem.W.subIn K (.ref C2) (.ref C25) = some false)
    (q2x26 : PySem.W.subIn K (.ref C2) (.ref C26) = some false)
    (q2x27 : PySem.W.subIn K (.ref C2) (.ref C27) = some false)
    (q2x28 : PySem.W.subIn K (.ref C2) (.ref C28) = some false)
    (q2x29 : PySem.W.subIn K (.ref C2) (.ref C29) = some false)
    (sv2 : PySem.W.subIn K (.ref C2) (.type "ValueError") = some true)
    (q3x0 : PySem.W.subIn K (.ref C3) (.ref C0) = some true)
    (q3x1 : PySem.W.subIn K (.ref C3) (.ref C1) = some false)
    (q3x2 : PySem.W.subIn K (.ref C3) (.ref C2) = some false)
    (q3x4 : PySem.W.subIn K (.ref C3) (.ref C4) = some false)
    (q3x5 : PySem.W.subIn K (.ref C3) (.ref C5) = some false)
    (q3x6 : PySem.W.subIn K (.ref C3) (.ref C6) = some false)
    (q3x7 : PySem.W.subIn K (.ref C3) (.ref C7) = some false)
    (q3x8 : PySem.W.subIn K (.ref C3) (.ref C8) = some false)
    (q3x9 : PySem.W.subIn K (.ref C3) (.ref C9) = some false)
    (q3x10 : PySem.W.subIn K (.ref C3) (.ref C10) = some false)
    (q3x11 : PySem.W.subIn K (.ref C3) (.ref C11) = some false)
    (q3x12 : PySem.W.subIn K (.ref C3) (.ref C12) = some false)
    (q3x13 : PySem.W.subIn K (.ref C3) (.ref C13) = some false)
    (q3x14 : PySem.W.subIn K (.ref C3) (.ref C14) = some false)
    (q3x15 : PySem.W.subIn K (.ref C3) (.ref C15) = some false)
    (q3x16 : PySem.W.subIn K (.ref C3) (.ref C16) = some false)
    (q3x17 : PySem.W.subIn K (.ref C3) (.ref C17) = some false)
    (q3x18 : PySem.W.subIn K (.ref C3) (.ref C18) = some false)
    (q3x19 : PySem.W.subIn K (.ref C3) (.ref C19) = some false)
    (q3x20 : PySem.W.subIn K (.ref C3) (.ref C20) = some false)
    (q3x21 : PySem.W.subIn K (.ref C3) (.ref C21) = some false)
    (q3x22 : PySem.W.subIn K (.ref C3) (.ref C22) = some false)
    (q3x23 : PySem.W.subIn K (.ref C3) (.ref C23) = some false)
    (q3x24 : PySem.W.subIn K (.ref C3) (.ref C24) = some false)
    (q3x25 : PySem.W.subIn K (.ref C3) (.ref C25) = some false)
    (q3x26 : PySem.W.subIn K (.ref C3) (.ref C26) = some false)
    (q3x27 : PySem.W.subIn K (.ref C3) (.ref C27) = some false)
    (q3x28 : PySem.W.subIn K (.ref C3) (.ref C28) = some false)
    (q3x29 : PySem.W.subIn K (.ref C3) (.ref C29) = some false)
    (q4x0 : PySem.W.subIn K (.ref C4) (.ref C0) = some true)
    (q4x1 : PySem.W.subIn K (.ref C4) (.ref C1) = some false)
    (q4x2 : PySem.W.subIn K (.ref C4) (.ref C2) = some false)
    (q4x3 : PySem.W.subIn K (.ref C4) (.ref C3) = some false)
    (q4x5 : PySem.W.subIn K (.ref C4) (.ref C5) = some false)
    (q4x6 : PySem.W.subIn K (.ref C4) (.ref C6) = some false)
    (q4x7 : PySem.W.subIn K (.ref C4) (.ref C7) = some false)
    (q4x8 : PySem.W.subIn K (.ref C4) (.ref C8) = some false)
    (q4x9 : PySem.W.subIn K (.ref C4) (.ref C9) = some false)
    (q4x10 : PySem.W.subIn K (.ref C4) (.ref C10) = some false)
    (q4x11 : PySem.W.subIn K (.ref C4) (.ref C11) = some false)
    (q4x12 : PySem.W.subIn K (.ref C4) (.ref C12) = some false)
    (q4x13 : PySem.W.subIn K (.ref C4) (.ref C13) = some false)
    (q4x14 : PySem.W.subIn K (.ref C4) (.ref C14) = some false)
    (q4x15 : PySem.W.subIn K (.ref C4) (.ref C15) = some false)
    (q4x16 : PySem.W.subIn K (.ref C4) (.ref C16) = some false)
    (q4x17 : PySem.W.subIn K (.ref C4) (.ref C17) = some false)
    (q4x18 : PySem.W.subIn K (.ref C4) (.ref C18) = some false)
    (q4x19 : PySem.W.subIn K (.ref C4) (.ref C19) = some false)
    (q4x20 : PySem.W.subIn K (.ref C4) (.ref C20) = some false)
    (q4x21 : PySem.W.subIn K (.ref C4) (.ref C21) = some false)
    (q4x22 : PySem.W.subIn K (.ref C4) (.ref C22) = some false)
    (q4x23 : PySem.W.subIn K (.ref C4) (.ref C23) = some false)
    (q4x24 : PySem.W.subIn K (.ref C4) (.ref C24) = some false)
    (q4x25 : PySem.W.subIn K (.ref C4) (.ref C25) = some false)
    (q4x26 : PySem.W.subIn K (.ref C4) (.ref C26) = some false)
    (q4x27 : PySem.W.subIn K (.ref C4) (.ref C27) = some false)
    (q4x28 : PySem.W.subIn K (.ref C4) (.ref C28) = some false)
    (q4x29 : PySem.W.subIn K (.ref C4) (.ref C29) = some false)
    (q5x0 : PySem.W.subIn K (.ref C5) (.ref C0) = some true)
    (q5x1 : PySem.W.subIn K (.ref C5) (.ref C1) = some false)
    (q5x2 : PySem.W.subIn K (.ref C5) (.ref C2) = some false)
    (q5x3 : PySem.W.subIn K (.ref C5) (.ref C3) = some false)
    (q5x4 : PySem.W.subIn K (.ref C5) (.ref C4) = some false)
    (q5x6 : PySem.W.subIn K (.ref C5) (.ref C6) = some false)
    (q5x7 : PySem.W.subIn K (.ref C5) (.ref C7) = some false)
    (q5x8 : PySem.W.subIn K (.ref C5) (.ref C8) = some false)
    (q5x9 : PySem.W.subIn K (.ref C5) (.ref C9) = some false)
    (q5x10 : PySem.W.subIn K (.ref C5) (.ref C10) = some false)
    (q5x11 : PySem.W.subIn K (.ref C5) (.ref C11) = some false)
    (q5x12 : PySem.W.subIn K (.ref C5) (.ref C12) = some false)
    (q5x13 : PySem.W.subIn K (.ref C5) (.ref C13) = some false)
    (q5x14 : PySem.W.subIn K (.ref C5) (.ref C14) = some false)
    (q5x15 : PySem.W.subIn K (.ref C5) (.ref C15) = some false)
    (q5x16 : PySem.W.subIn K (.ref C5) (.ref C16) = some false)
    (q5x17 : PySem.W.subIn K (.ref C5) (.ref C17) = some false)
    (q5x18 : PySem.W.subIn K (.ref C5) (.ref C18) = some false)
    (q5x19 : PySem.W.subIn K (.ref C5) (.ref C19) = some false)
    (q5x20 : PySem.W.subIn K (.ref C5) (.ref C20) = some false)
    (q5x21 : PySem.W.subIn K (.ref C5) (.ref C21) = some false)
    (q5x22 : PySem.W.subIn K (.ref C5) (.ref C22) = some false)
    (q5x23 : PySem.W.subIn K (.ref C5) (.ref C23) = some false)
    (q5x24 : PySem.W.subIn K (.ref C5) (.ref C24) = some false)
    (q5x25 : PySem.W.subIn K (.ref C5) (.ref C25) = some false)
    (q5x26 : PySem.W.subIn K (.ref C5) (.ref C26) = some false)
    (q5x27 : PySem.W.subIn K (.ref C5) (.ref C27) = some false)
    (q5x28 : PySem.W.subIn K (.ref C5) (.ref C28) = some false)
    (q5x29 : PySem.W.subIn K (.ref C5) (.ref C29) = some false)
    (sv5 : PySem.W.subIn K (.ref C5) (.type "ValueError") = some true)
    (q6x0 : PySem.W.subIn K (.ref C6) (.ref C0) = some true)
    (q6x1 : PySem.W.subIn K (.ref C6) (.ref C1) = some false)
    (q6x2 : PySem.W.subIn K (.ref C6) (.ref C2) = some false)
    (q6x3 : PySem.W.subIn K (.ref C6) (.ref C3) = some false)
    (q6x4 : PySem.W.subIn K (.ref C6) (.ref C4) = some false)
    (q6x5 : PySem.W.subIn K (.ref C6) (.ref C5) = some false)
    (q6x7 : PySem.W.subIn K (.ref C6) (.ref C7) = some false)
    (q6x8 : PySem.W.subIn K (.ref C6) (.ref C8) = some false)
    (q6x9 : PySem.W.subIn K (.ref C6) (.ref C9) = some false)
    (q6x10 : PySem.W.subIn K (.ref C6) (.ref C10) = some false)
    (q6x11 : PySem.W.subIn K (.ref C6) (.ref C11) = some false)
    (q6x12 : PySem.W.subIn K (.ref C6) (.ref C12) = some false)
    (q6x13 : PySem.W.subIn K (.ref C6) (.ref C13) = some false)
    (q6x14 : PySem.W.subIn K (.ref C6) (.ref C14) = some false)
    (q6x15 : PySem.W.subIn K (.ref C6) (.ref C15) = some false)
    (q6x16 : PySem.W.subIn K (.ref C6) (.ref C16) = some false)
    (q6x17 : PySem.W.subIn K (.ref C6) (.ref C17) = some false)
    (q6x18 : PySem.W.subIn K (.ref C6) (.ref C18) = some false)
    (q6x19 : PySem.W.subIn K (.ref C6) (.ref C19) = some false)
    (q6x20 : PySem.W.subIn K (.ref C6) (.ref C20) = some false)
    (q6x21 : PySem.W.subIn K (.ref C6) (.ref C21) = some false)
    (q6x22 : PySem.W.subIn K (.ref C6) (.ref C22) = some false)
    (q6x23 : PySem.W.subIn K (.ref C6) (.ref C23) = some false)
    (q6x24 : PySem.W.subIn K (.ref C6) (.ref C24) = some false)
    (q6x25 : PySem.W.subIn K (.ref C6) (.ref C25) = some false)
    (q6x26 : PySem.W.subIn K (.ref C6) (.ref C26) = some false)
    (q6x27 : PySem.W.subIn K (.ref C6) (.ref C27) = some false)
    (q6x28 : PySem.W.subIn K (.ref C6) (.ref C28) = some false)
    (q6x29 : PySem.W.subIn K (.ref C6) (.ref C29) = some false)
    (sv6 : PySem.W.subIn K (.ref C6) (.type "ValueError") = some true)
    (q7x0 : PySem.W.subIn K (.ref C7) (.ref C0) = some true)
    (q7x1 : PySem.W.subIn K (.ref C7) (.ref C1) = some false)
    (q7x2 : PySem.W.subIn K (.ref C7) (.ref C2) = some false)
    (q7x3 : PySem.W.subIn K (.ref C7) (.ref C3) = some false)
    (q7x4 : PySem.W.subIn K (.ref C7) (.ref C4) = some false)
    (q7x5 : PySem.W.subIn K (.ref C7) (.ref C5) = some false)
    (q7x6 : PySem.W.subIn K (.ref C7) (.ref C6) = some false)
    (q7x8 : PySem.W.subIn K (.ref C7) (.ref C8) = some false)
    (q7x9 : PySem.W.subIn K (.ref C7) (.ref C9) = some false)
    (q7x10 : PySem.W.subIn K (.ref C7) (.ref C10) = some false)
    (q7x11 : PySem.W.subIn K (.ref C7) (.ref C11) = some false)
    (q7x12 : PySem.W.subIn K (.ref C7) (.ref C12) = some false)
    (q7x13 : PySem.W.subIn K (.ref C7) (.ref C13) = some false)
    (q7x14 : PySem.W.subIn K (.ref C7) (.ref C14) = some false)
    (q7x15 : PySem.W.subIn K (.ref C7) (.ref C15) = some false)
    (q7x16 : PySem.W.subIn K (.ref C7) (.ref C16) = some false)
    (q7x17 : PySem.W.subIn K (.ref C7) (.ref C17) = some false)
    (q7x18 : PySem.W.subIn K (.ref C7) (.ref C18) = some false)
    (q7x19 : PySem.W.subIn K (.ref C7) (.ref C19) = some false)
    (q7x20 : PySem.W.subIn K (.ref C7) (.ref C20) = some false)
    (q7x21 : PySem.W.subIn K (.ref C7) (.ref C21) = some false)
    (q7x22 : PySem.W.subIn K (.ref C7) (.ref C22) = some false)
    (q7x23 : PySem.W.subIn K (.ref C7) (.ref C23) = some false)
    (q7x24 : PySem.W.subIn K (.ref C7) (.ref C24) = some false)
    (q7x25 : PySem.W.subIn K (.ref C7) (.ref C25) = some false)
    (q7x26 : PySem.W.subIn K (.ref C7) (.ref C26) = some false)
    (q7x27 : PySem.W.subIn K (.ref C7) (.ref C27) = some false)
    (q7x28 : PySem.W.subIn K (.ref C7) (.ref C28) = some false)
    (q7x29 : PySem.W.subIn K (.ref C7) (.ref C29) = some false)
    (sv7 : PySem.W.subIn K (.ref C7) (.type "ValueError") = some true)
    (q8x0 : PySem.W.subIn K (.ref C8) (.ref C0) = some true)
    (q8x1 : PySem.W.subIn K (.ref C8) (.ref C1) = some false)
    (q8x2 : PySem.W.subIn K (.ref C8) (.ref C2) = some false)
    (q8x3 : PySem.W.subIn K (.ref C8) (.ref C3) = some false)
    (q8x4 : PySem.W.subIn K (.ref C8) (.ref C4) = some false)
    (q8x5 : PySem.W.subIn K (.ref C8) (.ref C5) = some false)
    (q8x6 : PySem.W.subIn K (.ref C8) (.ref C6) = some false)
    (q8x7 : PySem.W.subIn K (.ref C8) (.ref C7) = some false)
    (q8x9 : PySem.W.subIn K (.ref C8) (.ref C9) = some false)
    (q8x10 : PySem.W.subIn K (.ref C8) (.ref C10) = some false)
    (q8x11 : PySem.W.subIn K (.ref C8) (.ref C11) = some false)
    (q8x12 : PySem.W.subIn K (.ref C8) (.ref C12) = some false)
    (q8x13 : PySem.W.subIn K (.ref C8) (.ref C13) = some false)
    (q8x14 : PySem.W.subIn K (.ref C8) (.ref C14) = some false)
    (q8x15 : PySem.W.subIn K (.ref C8) (.ref C15) = some false)
    (q8x16 : PySem.W.subIn K (.ref C8) (.ref C16) = some false)
    (q8x17 : PySem.W.subIn K (.ref C8) (.ref C17) = some false)
    (q8x18 : PySem.W.subIn K (.ref C8) (.ref C18) = some false)
    (q8x19 : PySem.W.subIn K (.ref C8) (.ref C19) = some false)
    (q8x20 : PySem.W.subIn K (.ref C8) (.ref C20) = some false)
    (q8x21 : PySem.W.subIn K (.ref C8) (.ref C21) = some false)
    (q8x22 : PySem.W.subIn K (.ref C8) (.ref C22) = some false)
    (q8x23 : PySem.W.subIn K (.ref C8) (.ref C23) = some false)
    (q8x24 : PySem.W.subIn K (.ref C8) (.ref C24) = some false)
    (q8x25 : PySem.W.subIn K (.ref C8) (.ref C25) = some false)
    (q8x26 : PySem.W.subIn K (.ref C8) (.ref C26) = some false)
    (q8x27 : PySem.W.subIn K (.ref C8) (.ref C27) = some false)
    (q8x28 : PySem.W.subIn K (.ref C8) (.ref C28) = some false)
    (q8x29 : PySem.W.subIn K (.ref C8) (.ref C29) = some false)
    (sv8 : PySem.W.subIn K (.ref C8) (.type "ValueError") = some true)
    (q9x0 : PySem.W.subIn K (.ref C9) (.ref C0) = some true)
    (q9x1 : PySem.W.subIn K (.ref C9) (.ref C1) = some false)
    (q9x2 : PySem.W.subIn K (.ref C9) (.ref C2) = some false)
    (q9x3 : PySem.W.subIn K (.ref C9) (.ref C3) = some false)
    (q9x4 : PySem.W.subIn K (.ref C9) (.ref C4) = some false)
    (q9x5 : PySem.W.subIn K (.ref C9) (.ref C5) = some false)
    (q9x6 : PySem.W.subIn K (.ref C9) (.ref C6) = some false)
    (q9x7 : PySem.W.subIn K (.ref C9) (.ref C7) = some false)
    (q9x8 : PySem.W.subIn K (.ref C9) (.ref C8) = some false)
    (q9x10 : PySem.W.subIn K (.ref C9) (.ref C10) = some false)
    (q9x11 : PySem.W.subIn K (.ref C9) (.ref C11) = some false)
    (q9x12 : PySem.W.subIn K (.ref C9) (.ref C12) = some false)
    (q9x13 : PySem.W.subIn K (.ref C9) (.ref C13) = some false)
    (q9x14 : PySem.W.subIn K (.ref C9) (.ref C14) = some false)
    (q9x15 : PySem.W.subIn K (.ref C9) (.ref C15) = some false)
    (q9x16 : PySem.W.subIn K (.ref C9) (.ref C16) = some false)
    (q9x17 : PySem.W.subIn K (.ref C9) (.ref C17) = some false)
    (q9x18 : PySem.W.subIn K (.ref C9) (.ref C18) = some false)
    (q9x19 : PySem.W.subIn K (.ref C9) (.ref C19) = some false)
    (q9x20 : PySem.W.subIn K (.ref C9) (.ref C20) = some false)
    (q9x21 : PySem.W.subIn K (.ref C9) (.ref C21) = some false)
    (q9x22 : PySem.W.subIn K (.ref C9) (.ref C22) = some false)
    (q9x23 : PySem.W.subIn K (.ref C9) (.ref C23) = some false)
    (q9x24 : PySem.W.subIn K (.ref C9) (.ref C24) = some false)
    (q9x25 : PySem.W.subIn K (.ref C9) (.ref C25) = some false)
    (q9x26 : PySem.W.subIn K (.ref C9) (.ref C26) = some false)
    (q9x27 : PySem.W.subIn K (.ref C9) (.ref C27) = some false)
    (q9x28 : PySem.W.subIn K (.ref C9) (.ref C28) = some false)
    (q9x29 : PySem.W.subIn K (.ref C9) (.ref C29) = some false)
    (sv9 : PySem.W.subIn K (.ref C9) (.type "ValueError") = some true)
    (q10x0 : PySem.W.subIn K (.ref C10) (.ref C0) = some true)
    (q10x1 : PySem.W.subIn K (.ref C10) (.ref C1) = some false)
    (q10x2 : PySem.W.subIn K (.ref C10) (.ref C2) = some false)
    (q10x3 : PySem.W.subIn K (.ref C10) (.ref C3) = some false)
    (q10x4 : PySem.W.subIn K (.ref C10) (.ref C4) = some false)
    (q10x5 : PySem.W.subIn K (.ref C10) (.ref C5) = some false)
    (q10x6 : PySem.W.subIn K (.ref C10) (.ref C6) = some false)
    (q10x7 : PySem.W.subIn K (.ref C10) (.ref C7) = some false)
    (q10x8 : PySem.W.subIn K (.ref C10) (.ref C8) = some false)
    (q10x9 : PySem.W.subIn K (.ref C10) (.ref C9) = some false)
    (q10x11 : PySem.W.subIn K (.ref C10) (.ref C11) = some false)
    (q10x12 : PySem.W.subIn K (.ref C10) (.ref C12) = some false)
    (q10x13 : PySem.W.subIn K (.ref C10) (.ref C13) = some false)
    (q10x14 : PySem.W.subIn K (.ref C10) (.ref C14) = some false)
    (q10x15 : PySem.W.subIn K (.ref C10) (.ref C15) = some false)
    (q10x16 : PySem.W.subIn K (.ref C10) (.ref C16) = some false)
    (q10x17 : PySem.W.subIn K (.ref C10) (.ref C17) = some false)
    (q10x18 : PySem.W.subIn K (.ref C10) (.ref C18) = some false)
    (q10x19 : PySem.W.subIn K (.ref C10) (.ref C19) = some false)
    (q10x20 : PySem.W.subIn K (.ref C10) (.ref C20) = some false)
    (q10x21 : PySem.W.subIn K (.ref C10) (.ref C21) = some false)
    (q10x22 : PySem.W.subIn K (.ref C10) (.ref C22) = some false)
    (q10x23 : PySem.W.subIn K (.ref C10) (.ref C23) = some false)
    (q10x24 : PySem.W.subIn K (.ref C10) (.ref C24) = some false)
    (q10x25 : PySem.W.subIn K (.ref C10) (.ref C25) = some false)
    (q10x26 : PySem.W.subIn K (.ref C10) (.ref C26) = some false)
    (q10x27 : PySem.W.subIn K (.ref C10) (.ref C27) = some false)
    (q10x28 : PySem.W.subIn K (.ref C10) (.ref C28) = some false)
    (q10x29 : PySem.W.subIn K (.ref C10) (.ref C29) = some false)
    (q11x0 : PySem.W.subIn K (.ref C11) (.ref C0) = some true)
    (q11x1 : PySem.W.subIn K (.ref C11) (.ref C1) = some false)
    (q11x2 : PySem.W.subIn K (.ref C11) (.ref C2) = some false)
    (q11x3 : PySem.W.subIn K (.ref C11) (.ref C3) = some false)
    (q11x4 : PySem.W.subIn K (.ref C11) (.ref C4) = some false)
    (q11x5 : PySem.W.subIn K (.ref C11) (.ref C5) = some false)
    (q11x6 : PySem.W.subIn K (.ref C11) (.ref C6) = some false)
    (q11x7 : PySem.W.subIn K (.ref C11) (.ref C7) = some false)
    (q11x8 : PySem.W.subIn K (.ref C11) (.ref C8) = some false)
    (q11x9 : PySem.W.subIn K (.ref C11) (.ref C9) = some false)
    (q11x10 : PySem.W.subIn K (.ref C11) (.ref C10) = some false)
    (q11x12 : PySem.W.subIn K (.ref C11) (.ref C12) = some false)
    (q11x13 : PySem.W.subIn K (.ref C11) (.ref C13) = some false)
    (q11x14 : PySem.W.subIn K (.ref C11) (.ref C14) = some false)
    (q11x15 : PySem.W.subIn K (.ref C11) (.ref C15) = some false)
    (q11x16 : PySem.W.subIn K (.ref C11) (.ref C16) = some false)
    (q11x17 : PySem.W.subIn K (.ref C11) (.ref C17) = some false)
    (q11x18 : PySem.W.subIn K (.ref C11) (.ref C18) = some false)
    (q11x19 : PySem.W.subIn K (.ref C11) (.ref C19) = some false)
    (q11x20 : PySem.W.subIn K (.ref C11) (.ref C20) = some false)
    (q11x21 : PySem.W.subIn K (.ref C11) (.ref C21) = some false)
    (q11x22 : PySem.W.subIn K (.ref C11) (.ref C22) = some false)
    (q11x23 : PySem.W.subIn K (.ref C11) (.ref C23) = some false)
    (q11x24 : PySem.W.subIn K (.ref C11) (.ref C24) = some false)
    (q11x25 : PySem.W.subIn K (.ref C11) (.ref C25) = some false)
    (q11x26 : PySem.W.subIn K (.ref C11) (.ref C26) = some false)
    (q11x27 : PySem.W.subIn K (.ref C11) (.ref C27) = some false)
    (q11x28 : PySem.W.subIn K (.ref C11) (.ref C28) = some false)
    (q11x29 : PySem.W.subIn K (.ref C11) (.ref C29) = some false)
    (sv11 : PySem.W.subIn K (.ref C11) (.type "ValueError") = some true)
    (q12x1 : PySem.W.subIn K (.ref C12) (.ref C1) = some false)
    (q12x2 : PySem.W.subIn K (.ref C12) (.ref C2) = some false)
    (q12x3 : PySem.W.subIn K (.ref C12) (.ref C3) = some false)
    (q12x4 : PySem.W.subIn K (.ref C12) (.ref C4) = some false)
    (q12x5 : PySem.W.subIn K (.ref C12) (.ref C5) = some false)
    (q12x6 : PySem.W.subIn K (.ref C12) (.ref C6) = some false)
    (q12x7 : PySem.W.subIn K (.ref C12) (.ref C7) = some false)
    (q12x8 : PySem.W.subIn K (.ref C12) (.ref C8) = some false)
    (q12x9 : PySem.W.subIn K (.ref C12) (.ref C9) = some false)
    (q12x10 : PySem.W.subIn K (.ref C12) (.ref C10) = some false)
    (q12x11 : PySem.W.subIn K (.ref C12) (.ref C11) = some false)
    (q12x13 : PySem.W.subIn K (.ref C12) (.ref C13) = some false)
    (q12x14 : PySem.W.subIn K (.ref C12) (.ref C14) = some false)
    (q12x15 : PySem.W.subIn K (.ref C12) (.ref C15) = some false)
    (q12x17 : PySem.W.subIn K (.ref C12) (.ref C17) = some false)
    (q12x18 : PySem.W.subIn K (.ref C12) (.ref C18) = some false)
    (q12x19 : PySem.W.subIn K (.ref C12) (.ref C19) = some false)
    (q12x20 : PySem.W.subIn K (.ref C12) (.ref C20) = some false)
    (q12x21 : PySem.W.subIn K (.ref C12) (.ref C21) = some false)
    (q12x22 : PySem.W.subIn K (.ref C12) (.ref C22) = some false)
    (q12x23 : PySem.W.subIn K (.ref C12) (.ref C23) = some false)
    (q12x24 : PySem.W.subIn K (.ref C12) (.ref C24) = some false)
    (q12x25 : PySem.W.subIn K (.ref C12) (.ref C25) = some false)
    (q12x26 : PySem.W.subIn K (.ref C12) (.ref C26) = some false)
    (q12x27 : PySem.W.subIn K (.ref C12) (.ref C27) = some false)
    (q12x29 : PySem.W.subIn K (.ref C12) (.ref C29) = some false)
    (sv12 : PySem.W.subIn K (.ref C12) (.type "ValueError") = some true)
    (q13x0 : PySem.W.subIn K (.ref C13) (.ref C0) = some true)
    (q13x1 : PySem.W.subIn K (.ref C13) (.ref C1) = some false)
    (q13x2 : PySem.W.subIn K (.ref C13) (.ref C2) = some false)
    (q13x3 : PySem.W.subIn K (.ref C13) (.ref C3) = some false)
    (q13x4 : PySem.W.subIn K (.ref C13) (.ref C4) = some false)
    (q13x5 : PySem.W.subIn K (.ref C13) (.ref C5) = some false)
    (q13x6 : PySem.W.subIn K (.ref C13) (.ref C6) = some false)
    (q13x7 : PySem.W.subIn K (.ref C13) (.ref C7) = some false)
    (q13x8 : PySem.W.subIn K (.ref C13) (.ref C8) = some false)
    (q13x9 : PySem.W.subIn K (.ref C13) (.ref C9) = some false)
    (q13x10 : PySem.W.subIn K (.ref C13) (.ref C10) = some false)
    (q13x11 : PySem.W.subIn K (.ref C13) (.ref C11) = some false)
    (q13x12 : PySem.W.subIn K (.ref C13) (.ref C12) = some false)
    (q13x14 : PySem.W.subIn K (.ref C13) (.ref C14) = some false)
    (q13x15 : PySem.W.subIn K (.ref C13) (.ref C15) = some false)
    (q13x16 : PySem.W.subIn K (.ref C13) (.ref C16) = some false)
    (q13x17 : PySem.W.subIn K (.ref C13) (.ref C17) = some false)
    (q13x18 : PySem.W.subIn K (.ref C13) (.ref C18) = some false)
    (q13x19 : PySem.W.subIn K (.ref C13) (.ref C19) = some false)
    (q13x20 : PySem.W.subIn K (.ref C13) (.ref C20) = some false)
    (q13x21 : PySem.W.subIn K (.ref C13) (.ref C21) = some false)
    (q13x22 : PySem.W.subIn K (.ref C13) (.ref C22) = some false)
    (q13x23 : PySem.W.subIn K (.ref C13) (.ref C23) = some false)
    (q13x24 : PySem.W.subIn K (.ref C13) (.ref C24) = some false)
    (q13x25 : PySem.W.subIn K (.ref C13) (.ref C25) = some false)
    (q13x26 : PySem.W.subIn K (.ref C13) (.ref C26) = some false)
    (q13x27 : PySem.W.subIn K (.ref C13) (.ref C27) = some false)
    (q13x28 : PySem.W.subIn K (.ref C13) (.ref C28) = some false)
    (q13x29 : PySem.W.subIn K (.ref C13) (.ref C29) = some false)
    (sv13 : PySem.W.subIn K (.ref C13) (.type "ValueError") = some true)
    (q14x0 : PySem.W.subIn K (.ref C14) (.ref C0) = some true)
    (q14x1 : PySem.W.subIn K (.ref C14) (.ref C1) = some false)
    (q14x2 : PySem.W.subIn K (.ref C14) (.ref C2) = some false)
    (q14x3 : PySem.W.subIn K (.ref C14) (.ref C3) = some false)
    (q14x4 : PySem.W.subIn K (.ref C14) (.ref C4) = some false)
    (q14x5 : PySem.W.subIn K (.ref C14) (.ref C5) = some false)
    (q14x6 : PySem.W.subIn K (.ref C14) (.ref C6) = some false)
    (q14x7 : PySem.W.subIn K (.ref C14) (.ref C7) = some false)
    (q14x8 : PySem.W.subIn K (.ref C14) (.ref C8) = some false)
    (q14x9 : PySem.W.subIn K (.ref C14) (.ref C9) = some false)
    (q14x10 : PySem.W.subIn K (.ref C14) (.ref C10) = some false)
    (q14x11 : PySem.W.subIn K (.ref C14) (.ref C11) = some false)
    (q14x12 : PySem.W.subIn K (.ref C14) (.ref C12) = some false)
    (q14x13 : PySem.W.subIn K (.ref C14) (.ref C13) = some false)
    (q14x15 : PySem.W.subIn K (.ref C14) (.ref C15) = some false)
    (q14x16 : PySem.W.subIn K (.ref C14) (.ref C16) = some false)
    (q14x17 : PySem.W.subIn K (.ref C14) (.ref C17) = some false)
    (q14x18 : PySem.W.subIn K (.ref C14) (.ref C18) = some false)
    (q14x19 : PySem.W.subIn K (.ref C14) (.ref C19) = some false)
    (q14x20 : PySem.W.subIn K (.ref C14) (.ref C20) = some false)
    (q14x21 : PySem.W.subIn K (.ref C14) (.ref C21) = some false)
    (q14x22 : PySem.W.subIn K (.ref C14) (.ref C22) = some false)
    (q14x23 : PySem.W.subIn K (.ref C14) (.ref C23) = some false)
    (q14x24 : PySem.W.subIn K (.ref C14) (.ref C24) = some false)
    (q14x25 : PySem.W.subIn K (.ref C14) (.ref C25) = some false)
    (q14x26 : PySem.W.subIn K (.ref C14) (.ref C26) = some false)
    (q14x27 : PySem.W.subIn K (.ref C14) (.ref C27) = some false)
    (q14x28 : PySem.W.subIn K (.ref C14) (.ref C28) = some false)
    (q14x29 : PySem.W.subIn K (.ref C14) (.ref C29) = some false)
    (sv14 : PySem.W.subIn K (.ref C14) (.type "ValueError") = some true)
    (q15x0 : PySem.W.subIn K (.ref C15) (.ref C0) = some true)
    (q15x1 : PySem.W.subIn K (.ref C15) (.ref C1) = some false)
    (q15x2 : PySem.W.subIn K (.ref C15) (.ref C2) = some false)
    (q15x3 : PySem.W.subIn K (.ref C15) (.ref C3) = some false)
    (q15x4 : PySem.W.subIn K (.ref C15) (.ref C4) = some false)
    (q15x5 : PySem.W.subIn K (.ref C15) (.ref C5) = some false)
    (q15x6 : PySem.W.subIn K (.ref C15) (.ref C6) = some false)
    (q15x7 : PySem.W.subIn K (.ref C15) (.ref C7) = some false)
    (q15x8 : PySem.W.subIn K (.ref C15) (.ref C8) = some false)
    (q15x9 : PySem.W.subIn K (.ref C15) (.ref C9) = some false)
    (q15x10 : PySem.W.subIn K (.ref C15) (.ref C10) = some false)
    (q15x11 : PySem.W.subIn K (.ref C15) (.ref C11) = some false)
    (q15x12 : PySem.W.subIn K (.ref C15) (.ref C12) = some false)
    (q15x13 : PySem.W.subIn K (.ref C15) (.ref C13) = some false)
    (q15x14 : PySem.W.subIn K (.ref C15) (.ref C14) = some false)
    (q15x16 : PySem.W.subIn K (.ref C15) (.ref C16) = some false)
    (q15x17 : PySem.W.subIn K (.ref C15) (.ref C17) = some false)
    (q15x18 : PySem.W.subIn K (.ref C15) (.ref C18) = some false)
    (q15x19 : PySem.W.subIn K (.ref C15) (.ref C19) = some false)
    (q15x20 : PySem.W.subIn K (.ref C15) (.ref C20) = some false)
    (q15x21 : PySem.W.subIn K (.ref C15) (.ref C21) = some false)
    (q15x22 : PySem.W.subIn K (.ref C15) (.ref C22) = some false)
    (q15x23 : PySem.W.subIn K (.ref C15) (.ref C23) = some false)
    (q15x24 : PySem.W.subIn K (.ref C15) (.ref C24) = some false)
    (q15x25 : PySem.W.subIn K (.ref C15) (.ref C25) = some false)
    (q15x26 : PySem.W.subIn K (.ref C15) (.ref C26) = some false)
    (q15x27 : PySem.W.subIn K (.ref C15) (.ref C27) = some false)
    (q15x28 : PySem.W.subIn K (.ref C15) (.ref C28) = some false)
    (q15x29 : PySem.W.subIn K (.ref C15) (.ref C29) = some false)
    (q16x1 : PySem.W.subIn K (.ref C16) (.ref C1) = some false)
    (q16x2 : PySem.W.subIn K (.ref C16) (.ref C2) = some false)
    (q16x3 : PySem.W.subIn K (.ref C16) (.ref C3) = some false)
    (q16x4 : PySem.W.subIn K (.ref C16) (.ref C4) = some false)
    (q16x5 : PySem.W.subIn K (.ref C16) (.ref C5) = some false)
    (q16x6 : PySem.W.subIn K (.ref C16) (.ref C6) = some false)
    (q16x7 : PySem.W.subIn K (.ref C16) (.ref C7) = some false)
    (q16x8 : PySem.W.subIn K (.ref C16) (.ref C8) = some false)
    (q16x9 : PySem.W.subIn K (.ref C16) (.ref C9) = some false)
    (q16x10 : PySem.W.subIn K (.ref C16) (.ref C10) = some false)
    (q16x11 : PySem.W.subIn K (.ref C16) (.ref C11) = some false)
    (q16x13 : PySem.W.subIn K (.ref C16) (.ref C13) = some false)
    (q16x14 : PySem.W.subIn K (.ref C16) (.ref C14) = some false)
    (q16x15 : PySem.W.subIn K (.ref C16) (.ref C15) = some false)
    (q16x17 : PySem.W.subIn K (.ref C16) (.ref C17) = some false)
    (q16x18 : PySem.W.subIn K (.ref C16) (.ref C18) = some false)
    (q16x19 : PySem.W.subIn K (.ref C16) (.ref C19) = some false)
    (q16x20 : PySem.W.subIn K (.ref C16) (.ref C20) = some false)
    (q16x21 : PySem.W.subIn K (.ref C16) (.ref C21) = some false)
    (q16x22 : PySem.W.subIn K (.ref C16) (.ref C22) = some false)
    (q16x23 : PySem.W.subIn K (.ref C16) (.ref C23) = some false)
    (q16x24 : PySem.W.subIn K (.ref C16) (.ref C24) = some false)
    (q16x25 : PySem.W.subIn K (.ref C16) (.ref C25) = some false)
    (q16x26 : PySem.W.subIn K (.ref C16) (.ref C26) = some false)
    (q16x27 : PySem.W.subIn K (.ref C16) (.ref C27) = some false)
    (q16x29 : PySem.W.subIn K (.ref C16) (.ref C29) = some false)
    (q17x0 : PySem.W.subIn K (.ref C17) (.ref C0) = some true)
    (q17x1 : PySem.W.subIn K (.ref C17) (.ref C1) = some false)
    (q17x2 : PySem.W.subIn K (.ref C17) (.ref C2) = some false)
    (q17x3 : PySem.W.subIn K (.ref C17) (.ref C3) = some false)
    (q17x4 : PySem.W.subIn K (.ref C17) (.ref C4) = some false)
    (q17x5 : PySem.W.subIn K (.ref C17) (.ref C5) = some false)
    (q17x6 : PySem.W.subIn K (.ref C17) (.ref C6) = some false)
    (q17x7 : PySem.W.subIn K (.ref C17) (.ref C7) = some false)
    (q17x8 : PySem.W.subIn K (.ref C17) (.ref C8) = some false)
    (q17x9 : PySem.W.subIn K (.ref C17) (.ref C9) = some false)
    (q17x10 : PySem.W.subIn K (.ref C17) (.ref C10) = some false)
    (q17x11 : PySem.W.subIn K (.ref C17) (.ref C11) = some false)
    (q17x12 : PySem.W.subIn K (.ref C17) (.ref C12) = some false)
    (q17x13 : PySem.W.subIn K (.ref C17) (.ref C13) = some false)
    (q17x14 : PySem.W.subIn K (.ref C17) (.ref C14) = some false)
    (q17x15 : PySem.W.subIn K (.ref C17) (.ref C15) = some false)
    (q17x16 : PySem.W.subIn K (.ref C17) (.ref C16) = some false)
    (q17x18 : PySem.W.subIn K (.ref C17) (.ref C18) = some false)
    (q17x19 : PySem.W.subIn K (.ref C17) (.ref C19) = some false)
    (q17x20 : PySem.W.subIn K (.ref C17) (.ref C20) = some false)
    (q17x21 : PySem.W.subIn K (.ref C17) (.ref C21) = some false)
    (q17x22 : PySem.W.subIn K (.ref C17) (.ref C22) = some false)
    (q17x23 : PySem.W.subIn K (.ref C17) (.ref C23) = some false)
    (q17x24 : PySem.W.subIn K (.ref C17) (.ref C24) = some false)
    (q17x25 : PySem.W.subIn K (.ref C17) (.ref C25) = some false)
    (q17x26 : PySem.W.subIn K (.ref C17) (.ref C26) = some false)
    (q17x27 : PySem.W.subIn K (.ref C17) (.ref C27) = some false)
    (q17x28 : PySem.W.subIn K (.ref C17) (.ref C28) = some false)
    (q17x29 : PySem.W.subIn K (.ref C17) (.ref C29) = some false)
    (q18x0 : PySem.W.subIn K (.ref C18) (.ref C0) = some true)
    (q18x1 : PySem.W.subIn K (.ref C18) (.ref C1) = some false)
    (q18x2 : PySem.W.subIn K (.ref C18) (.ref C2) = some false)
    (q18x3 : PySem.W.subIn K (.ref C18) (.ref C3) = some false)
    (q18x4 : PySem.W.subIn K (.ref C18) (.ref C4) = some false)
    (q18x5 : PySem.W.subIn K (.ref C18) (.ref C5) = some false)
    (q18x6 : PySem.W.subIn K (.ref C18) (.ref C6) = some false)
    (q18x7 : PySem.W.subIn K (.ref C18) (.ref C7) = some false)
    (q18x8 : PySem.W.subIn K (.ref C18) (.ref C8) = some false)
    (q18x9 : PySem.W.subIn K (.ref C18) (.ref C9) = some false)
    (q18x10 : PySem.W.subIn K (.ref C18) (.ref C10) = some false)
    (q18x11 : PySem.W.subIn K (.ref C18) (.ref C11) = some false)
    (q18x12 : PySem.W.subIn K (.ref C18) (.ref C12) = some false)
    (q18x13 : PySem.W.subIn K (.ref C18) (.ref C13) = some false)
    (q18x14 : PySem.W.subIn K (.ref C18) (.ref C14) = some false)
    (q18x15 : PySem.W.subIn K (.ref C18) (.ref C15) = some false)
    (q18x16 : PySem.W.subIn K (.ref C18) (.ref C16) = some false)
    (q18x17 : PySem.W.subIn K (.ref C18) (.ref C17) = some false)
    (q18x19 : PySem.W.subIn K (.ref C18) (.ref C19) = some false)
    (q18x20 : PySem.W.subIn K (.ref C18) (.ref C20) = some false)
    (q18x21 : PySem.W.subIn K (.ref C18) (.ref C21) = some false)
    (q18x22 : PySem.W.subIn K (.ref C18) (.ref C22) = some false)
    (q18x23 : PySem.W.subIn K (.ref C18) (.ref C23) = some false)
    (q18x24 : PySem.W.subIn K (.ref C18) (.ref C24) = some false)
    (q18x25 : PySem.W.subIn K (.ref C18) (.ref C25) = some false)
    (q18x26 : PySem.W.subIn K (.ref C18) (.ref C26) = some false)
    (q18x27 : PySem.W.subIn K (.ref C18) (.ref C27) = some false)
    (q18x28 : PySem.W.subIn K (.ref C18) (.ref C28) = some false)
    (q18x29 : PySem.W.subIn K (.ref C18) (.ref C29) = some false)
    (sv18 : PySem.W.subIn K (.ref C18) (.type "ValueError") = some true)
    (q19x0 : PySem.W.subIn K (.ref C19) (.ref C0) = some true)
    (q19x1 : PySem.W.subIn K (.ref C19) (.ref C1) = some false)
    (q19x2 : PySem.W.subIn K (.ref C19) (.ref C2) = some false)
    (q19x3 : PySem.W.subIn K (.ref C19) (.ref C3) = some false)
    (q19x4 : PySem.W.subIn K (.ref C19) (.ref C4) = some false)
    (q19x5 : PySem.W.subIn K (.ref C19) (.ref C5) = some false)
    (q19x6 : PySem.W.subIn K (.ref C19) (.ref C6) = some false)
    (q19x7 : PySem.W.subIn K (.ref C19) (.ref C7) = some false)
    (q19x8 : PySem.W.subIn K (.ref C19) (.ref C8) = some false)
    (q19x9 : PySem.W.subIn K (.ref C19) (.ref C9) = some false)
    (q19x10 : PySem.W.subIn K (.ref C19) (.ref C10) = some false)
    (q19x11 : PySem.W.subIn K (.ref C19) (.ref C11) = some false)
    (q19x12 : PySem.W.subIn K (.ref C19) (.ref C12) = some false)
    (q19x13 : PySem.W.subIn K (.ref C19) (.ref C13) = some false)
    (q19x14 : PySem.W.subIn K (.ref C19) (.ref C14) = some false)
    (q19x15 : PySem.W.subIn K (.ref C19) (.ref C15) = some false)
    (q19x16 : PySem.W.subIn K (.ref C19) (.ref C16) = some false)
    (q19x17 : PySem.W.subIn K (.ref C19) (.ref C17) = some false)
    (q19x18 : PySem.W.subIn K (.ref C19) (.ref C18) = some false)
    (q19x20 : PySem.W.subIn K (.ref C19) (.ref C20) = some false)
    (q19x21 : PySem.W.subIn K (.ref C19) (.ref C21) = some false)
    (q19x22 : PySem.W.subIn K (.ref C19) (.ref C22) = some false)
    (q19x23 : PySem.W.subIn K (.ref C19) (.ref C23) = some false)
    (q19x24 : PySem.W.subIn K (.ref C19) (.ref C24) = some false)
    (q19x25 : PySem.W.subIn K (.ref C19) (.ref C25) = some false)
    (q19x26 : PySem.W.subIn K (.ref C19) (.ref C26) = some false)
    (q19x27 : PySem.W.subIn K (.ref C19) (.ref C27) = some false)
    (q19x28 : PySem.W.subIn K (.ref C19) (.ref C28) = some false)
    (q19x29 : PySem.W.subIn K (.ref C19) (.ref C29) = some false)
    (sv19 : PySem.W.subIn K (.ref C19) (.type "ValueError") = some true)
    (q20x0 : PySem.W.subIn K (.ref C20) (.ref C0) = some true)
    (q20x1 : PySem.W.subIn K (.ref C20) (.ref C1) = some false)
    (q20x2 : PySem.W.subIn K (.ref C20) (.ref C2) = some false)
    (q20x3 : PySem.W.subIn K (.ref C20) (.ref C3) = some false)
    (q20x4 : PySem.W.subIn K (.ref C20) (.ref C4) = some false)
    (q20x5 : PySem.W.subIn K (.ref C20) (.ref C5) = some false)
    (q20x6 : PySem.W.subIn K (.ref C20) (.ref C6) = some false)
    (q20x7 : PySem.W.subIn K (.ref C20) (.ref C7) = some false)
    (q20x8 : PySem.W.subIn K (.ref C20) (.ref C8) = some false)
    (q20x9 : PySem.W.subIn K (.ref C20) (.ref C9) = some false)
    (q20x10 : PySem.W.subIn K (.ref C20) (.ref C10) = some false)
    (q20x11 : PySem.W.subIn K (.ref C20) (.ref C11) = some false)
    (q20x12 : PySem.W.subIn K (.ref C20) (.ref C12) = some false)
    (q20x13 : PySem.W.subIn K (.ref C20) (.ref C13) = some false)
    (q20x14 : PySem.W.subIn K (.ref C20) (.ref C14) = some false)
    (q20x15 : PySem.W.subIn K (.ref C20) (.ref C15) = some false)
    (q20x16 : PySem.W.subIn K (.ref C20) (.ref C16) = some false)
    (q20x17 : PySem.W.subIn K (.ref C20) (.ref C17) = some false)
    (q20x18 : PySem.W.subIn K (.ref C20) (.ref C18) = some false)
    (q20x19 : PySem.W.subIn K (.ref C20) (.ref C19) = some false)
    (q20x21 : PySem.W.subIn K (.ref C20) (.ref C21) = some false)
    (q20x22 : PySem.W.subIn K (.ref C20) (.ref C22) = some false)
    (q20x23 : PySem.W.subIn K (.ref C20) (.ref C23) = some false)
    (q20x24 : PySem.W.subIn K (.ref C20) (.ref C24) = some false)
    (q20x25 : PySem.W.subIn K (.ref C20) (.ref C25) = some false)
    (q20x26 : PySem.W.subIn K (.ref C20) (.ref C26) = some false)
    (q20x27 : PySem.W.subIn K (.ref C20) (.ref C27) = some false)
    (q20x28 : PySem.W.subIn K (.ref C20) (.ref C28) = some false)
    (q20x29 : PySem.W.subIn K (.ref C20) (.ref C29) = some false)
    (sv20 : PySem.W.subIn K (.ref C20) (.type "ValueError") = some true)
    (q21x0 : PySem.W.subIn K (.ref C21) (.ref C0) = some true)
    (q21x1 : PySem.W.subIn K (.ref C21) (.ref C1) = some false)
    (q21x2 : PySem.W.subIn K (.ref C21) (.ref C2) = some false)
    (q21x3 : PySem.W.subIn K (.ref C21) (.ref C3) = some false)
    (q21x4 : PySem.W.subIn K (.ref C21) (.ref C4) = some false)
    (q21x5 : PySem.W.subIn K (.ref C21) (.ref C5) = some false)
    (q21x6 : PySem.W.subIn K (.ref C21) (.ref C6) = some false)
    (q21x7 : PySem.W.subIn K (.ref C21) (.ref C7) = some false)
    (q21x8 : PySem.W.subIn K (.ref C21) (.ref C8) = some false)
    (q21x9 : PySem.W.subIn K (.ref C21) (.ref C9) = some false)
    (q21x10 : PySem.W.subIn K (.ref C21) (.ref C10) = some false)
    (q21x11 : PySem.W.subIn K (.ref C21) (.ref C11) = some false)
    (q21x12 : PySem.W.subIn K (.ref C21) (.ref C12) = some false)
    (q21x13 : PySem.W.subIn K (.ref C21) (.ref C13) = some false)
    (q21x14 : PySem.W.subIn K (.ref C21) (.ref C14) = some false)
    (q21x15 : PySem.W.subIn K (.ref C21) (.ref C15) = some false)
    (q21x16 : PySem.W.subIn K (.ref C21) (.ref C16) = some false)
    (q21x17 : PySem.W.subIn K (.ref C21) (.ref C17) = some false)
    (q21x18 : PySem.W.subIn K (.ref C21) (.ref C18) = some false)
    (q21x19 : PySem.W.subIn K (.ref C21) (.ref C19) = some false)
    (q21x20 : PySem.W.subIn K (.ref C21) (.ref C20) = some false)
    (q21x22 : PySem.W.subIn K (.ref C21) (.ref C22) = some false)
    (q21x23 : PySem.W.subIn K (.ref C21) (.ref C23) = some false)
    (q21x24 : PySem.W.subIn K (.ref C21) (.ref C24) = some false)
    (q21x25 : PySem.W.subIn K (.ref C21) (.ref C25) = some false)
    (q21x26 : PySem.W.subIn K (.ref C21) (.ref C26) = some false)
    (q21x27 : PySem.W.subIn K (.ref C21) (.ref C27) = some false)
    (q21x28 : PySem.W.subIn K (.ref C21) (.ref C28) = some false)
    (q21x29 : PySem.W.subIn K (.ref C21) (.ref C29) = some false)
    (sv21 : PySem.W.subIn K (.ref C21) (.type "ValueError") = some true)
    (q22x0 : PySem.W.subIn K (.ref C22) (.ref C0) = some true)
    (q22x1 : PySem.W.subIn K (.ref C22) (.ref C1) = some false)
    (q22x2 : PySem.W.subIn K (.ref C22) (.ref C2) = some false)
    (q22x3 : PySem.W.subIn K (.ref C22) (.ref C3) = some false)
    (q22x4 : PySem.W.subIn K (.ref C22) (.ref C4) = some false)
    (q22x5 : PySem.W.subIn K (.ref C22) (.ref C5) = some false)
    (q22x6 : PySem.W.subIn K (.ref C22) (.ref C6) = some false)
    (q22x7 : PySem.W.subIn K (.ref C22) (.ref C7) = some false)
    (q22x8 : PySem.W.subIn K (.ref C22) (.ref C8) = some false)
    (q22x9 : PySem.W.subIn K (.ref C22) (.ref C9) = some false)
    (q22x10 : PySem.W.subIn K (.ref C22) (.ref C10) = some false)
    (q22x11 : PySem.W.subIn K (.ref C22) (.ref C11) = some false)
    (q22x12 : PySem.W.subIn K (.ref C22) (.ref C12) = some false)
    (q22x13 : PySem.W.subIn K (.ref C22) (.ref C13) = some false)
    (q22x14 : PySem.W.subIn K (.ref C22) (.ref C14) = some false)
    (q22x15 : PySem.W.subIn K (.ref C22) (.ref C15) = some false)
    (q22x16 : PySem.W.subIn K (.ref C22) (.ref C16) = some false)
    (q22x17 : PySem.W.subIn K (.ref C22) (.ref C17) = some false)
    (q22x18 : PySem.W.subIn K (.ref C22) (.ref C18) = some false)
    (q22x19 : PySem.W.subIn K (.ref C22) (.ref C19) = some false)
    (q22x20 : PySem.W.subIn K (.ref C22) (.ref C20) = some false)
    (q22x21 : PySem.W.subIn K (.ref C22) (.ref C21) = some false)
    (q22x23 : PySem.W.subIn K (.ref C22) (.ref C23) = some false)
    (q22x24 : PySem.W.subIn K (.ref C22) (.ref C24) = some false)
    (q22x25 : PySem.W.subIn K (.ref C22) (.ref C25) = some false)
    (q22x26 : PySem.W.subIn K (.ref C22) (.ref C26) = some false)
    (q22x27 : PySem.W.subIn K (.ref C22) (.ref C27) = some false)
    (q22x28 : PySem.W.subIn K (.ref C22) (.ref C28) = some false)
    (q22x29 : PySem.W.subIn K (.ref C22) (.ref C29) = some false)
    (q23x0 : PySem.W.subIn K (.ref C23) (.ref C0) = some true)
    (q23x1 : PySem.W.subIn K (.ref C23) (.ref C1) = some false)
    (q23x2 : PySem.W.subIn K (.ref C23) (.ref C2) = some false)
    (q23x3 : PySem.W.subIn K (.ref C23) (.ref C3) = some false)
    (q23x4 : PySem.W.subIn K (.ref C23) (.ref C4) = some false)
    (q23x5 : PySem.W.subIn K (.ref C23) (.ref C5) = some false)
    (q23x6 : PySem.W.subIn K (.ref C23) (.ref C6) = some false)
    (q23x7 : PySem.W.subIn K (.ref C23) (.ref C7) = some false)
    (q23x8 : PySem.W.subIn K (.ref C23) (.ref C8) = some false)
    (q23x9 : PySem.W.subIn K (.ref C23) (.ref C9) = some false)
    (q23x10 : PySem.W.subIn K (.ref C23) (.ref C10) = some false)
    (q23x11 : PySem.W.subIn K (.ref C23) (.ref C11) = some false)
    (q23x12 : PySem.W.subIn K (.ref C23) (.ref C12) = some false)
    (q23x13 : PySem.W.subIn K (.ref C23) (.ref C13) = some false)
    (q23x14 : PySem.W.subIn K (.ref C23) (.ref C14) = some false)
    (q23x15 : PySem.W.subIn K (.ref C23) (.ref C15) = some false)
    (q23x16 : PySem.W.subIn K (.ref C23) (.ref C16) = some false)
    (q23x17 : PySem.W.subIn K (.ref C23) (.ref C17) = some false)
    (q23x18 : PySem.W.subIn K (.ref C23) (.ref C18) = some false)
    (q23x19 : PySem.W.subIn K (.ref C23) (.ref C19) = some false)
    (q23x20 : PySem.W.subIn K (.ref C23) (.ref C20) = some false)
    (q23x21 : PySem.W.subIn K (.ref C23) (.ref C21) = some false)
    (q23x22 : PySem.W.subIn K (.ref C23) (.ref C22) = some false)
    (q23x24 : PySem.W.subIn K (.ref C23) (.ref C24) = some false)
    (q23x25 : PySem.W.subIn K (.ref C23) (.ref C25) = some false)
    (q23x26 : PySem.W.subIn K (.ref C23) (.ref C26) = some false)
    (q23x27 : PySem.W.subIn K (.ref C23) (.ref C27) = some false)
    (q23x28 : PySem.W.subIn K (.ref C23) (.ref C28) = some false)
    (q23x29 : PySem.W.subIn K (.ref C23) (.ref C29) = some false)
    (sv23 : PySem.W.subIn K (.ref C23) (.type "ValueError") = some true)
    (q24x0 : PySem.W.subIn K (.ref C24) (.ref C0) = some true)
    (q24x1 : PySem.W.subIn K (.ref C24) (.ref C1) = some false)
    (q24x2 : PySem.W.subIn K (.ref C24) (.ref C2) = some false)
    (q24x3 : PySem.W.subIn K (.ref C24) (.ref C3) = some false)
    (q24x4 : PySem.W.subIn K (.ref C24) (.ref C4) = some false)
    (q24x5 : PySem.W.subIn K (.ref C24) (.ref C5) = some false)
    (q24x6 : PySem.W.subIn K (.ref C24) (.ref C6) = some false)
    (q24x7 : PySem.W.subIn K (.ref C24) (.ref C7) = some false)
    (q24x8 : PySem.W.subIn K (.ref C24) (.ref C8) = some false)
    (q24x9 : PySem.W.subIn K (.ref C24) (.ref C9) = some false)
    (q24x10 : PySem.W.subIn K (.ref C24) (.ref C10) = some false)
    (q24x11 : PySem.W.subIn K (.ref C24) (.ref C11) = some false)
    (q24x12 : PySem.W.subIn K (.ref C24) (.ref C12) = some false)
    (q24x13 : PySem.W.subIn K (.ref C24) (.ref C13) = some false)
    (q24x14 : PySem.W.subIn K (.ref C24) (.ref C14) = some false)
    (q24x15 : PySem.W.subIn K (.ref C24) (.ref C15) = some false)
    (q24x16 : PySem.W.subIn K (.ref C24) (.ref C16) = some false)
    (q24x17 : PySem.W.subIn K (.ref C24) (.ref C17) = some false)
    (q24x18 : PySem.W.subIn K (.ref C24) (.ref C18) = some false)
    (q24x19 : PySem.W.subIn K (.ref C24) (.ref C19) = some false)
    (q24x20 : PySem.W.subIn K (.ref C24) (.ref C20) = some false)
    (q24x21 : PySem.W.subIn K (.ref C24) (.ref C21) = some false)
    (q24x22 : PySem.W.subIn K (.ref C24) (.ref C22) = some false)
    (q24x23 : PySem.W.subIn K (.ref C24) (.ref C23) = some false)
    (q24x25 : PySem.W.subIn K (.ref C24) (.ref C25) = some false)
    (q24x26 : PySem.W.subIn K (.ref C24) (.ref C26) = some false)
    (q24x27 : PySem.W.subIn K (.ref C24) (.ref C27) = some false)
    (q24x28 : PySem.W.subIn K (.ref C24) (.ref C28) = some false)
    (q24x29 : PySem.W.subIn K (.ref C24) (.ref C29) = some false)
    (sv24 : PySem.W.subIn K (.ref C24) (.type "ValueError") = some true)
    (q25x0 : PySem.W.subIn K (.ref C25) (.ref C0) = some true)
    (q25x1 : PySem.W.subIn K (.ref C25) (.ref C1) = some false)
    (q25x2 : PySem.W.subIn K (.ref C25) (.ref C2) = some false)
    (q25x3 : PySem.W.subIn K (.ref C25) (.ref C3) = some false)
    (q25x4 : PySem.W.subIn K (.ref C25) (.ref C4) = some false)
    (q25x5 : PySem.W.subIn K (.ref C25) (.ref C5) = some false)
    (q25x6 : PySem.W.subIn K (.ref C25) (.ref C6) = some false)
    (q25x7 : PySem.W.subIn K (.ref C25) (.ref C7) = some false)
    (q25x8 : PySem.W.subIn K (.ref C25) (.ref C8) = some false)
    (q25x9 : PySem.W.subIn K (.ref C25) (.ref C9) = some false)
    (q25x10 : PySem.W.subIn K (.ref C25) (.ref C10) = some false)
    (q25x11 : PySem.W.subIn K (.ref C25) (.ref C11) = some false)
    (q25x12 : PySem.W.subIn K (.ref C25) (.ref C12) = some false)
    (q25x13 : PySem.W.subIn K (.ref C25) (.ref C13) = some false)
    (q25x14 : PySem.W.subIn K (.ref C25) (.ref C14) = some false)
    (q25x15 : PySem.W.subIn K (.ref C25) (.ref C15) = some false)
    (q25x16 : PySem.W.subIn K (.ref C25) (.ref C16) = some false)
    (q25x17 : PySem.W.subIn K (.ref C25) (.ref C17) = some false)
    (q25x18 : PySem.W.subIn K (.ref C25) (.ref C18) = some false)
    (q25x19 : PySem.W.subIn K (.ref C25) (.ref C19) = some false)
    (q25x20 : PySem.W.subIn K (.ref C25) (.ref C20) = some false)
    (q25x21 : PySem.W.subIn K (.ref C25) (.ref C21) = some false)
    (q25x22 : PySem.W.subIn K (.ref C25) (.ref C22) = some false)
    (q25x23 : PySem.W.subIn K (.ref C25) (.ref C23) = some false)
    (q25x24 : PySem.W.subIn K (.ref C25) (.ref C24) = some false)
    (q25x26 : PySem.W.subIn K (.ref C25) (.ref C26) = some false)
    (q25x27 : PySem.W.subIn K (.ref C25) (.ref C27) = some false)
    (q25x28 : PySem.W.subIn K (.ref C25) (.ref C28) = some false)
    (q25x29 : PySem.W.subIn K (.ref C25) (.ref C29) = some false)
    (sv25 : PySem.W.subIn K (.ref C25) (.type "ValueError") = some true)
    (q26x0 : PySem.W.subIn K (.ref C26) (.ref C0) = some true)
    (q26x1 : PySem.W.subIn K (.ref C26) (.ref C1) = some false)
    (q26x2 : PySem.W.subIn K (.ref C26) (.ref C2) = some false)
    (q26x3 : PySem.W.subIn K (.ref C26) (.ref C3) = some false)
    (q26x4 : PySem.W.subIn K (.ref C26) (.ref C4) = some false)
    (q26x5 : PySem.W.subIn K (.ref C26) (.ref C5) = some false)
    (q26x6 : PySem.W.subIn K (.ref C26) (.ref C6) = some false)
    (q26x7 : PySem.W.subIn K (.ref C26) (.ref C7) = some false)
    (q26x8 : PySem.W.subIn K (.ref C26) (.ref C8) = some false)
    (q26x9 : PySem.W.subIn K (.ref C26) (.ref C9) = some false)
    (q26x10 : PySem.W.subIn K (.ref C26) (.ref C10) = some false)
    (q26x11 : PySem.W.subIn K (.ref C26) (.ref C11) = some false)
    (q26x12 : PySem.W.subIn K (.ref C26) (.ref C12) = some false)
    (q26x13 : PySem.W.subIn K (.ref C26) (.ref C13) = some false)
    (q26x14 : PySem.W.subIn K (.ref C26) (.ref C14) = some false)
    (q26x15 : PySem.W.subIn K (.ref C26) (.ref C15) = some false)
    (q26x16 : PySem.W.subIn K (.ref C26) (.ref C16) = some false)
    (q26x17 : PySem.W.subIn K (.ref C26) (.ref C17) = some false)
    (q26x18 : PySem.W.subIn K (.ref C26) (.ref C18) = some false)
    (q26x19 : PySem.W.subIn K (.ref C26) (.ref C19) = some false)
    (q26x20 : PySem.W.subIn K (.ref C26) (.ref C20) = some false)
    (q26x21 : PySem.W.subIn K (.ref C26) (.ref C21) = some false)
    (q26x22 : PySem.W.subIn K (.ref C26) (.ref C22) = some false)
    (q26x23 : PySem.W.subIn K (.ref C26) (.ref C23) = some false)
    (q26x24 : PySem.W.subIn K (.ref C26) (.ref C24) = some false)
    (q26x25 : PySem.W.subIn K (.ref C26) (.ref C25) = some false)
    (q26x27 : PySem.W.subIn K (.ref C26) (.ref C27) = some false)
    (q26x28 : PySem.W.subIn K (.ref C26) (.ref C28) = some false)
    (q26x29 : PySem.W.subIn K (.ref C26) (.ref C29) = some false)
    (sv26 : PySem.W.subIn K (.ref C26) (.type "ValueError") = some true)
    (q27x0 : PySem.W.subIn K (.ref C27) (.ref C0) = some true)
    (q27x1 : PySem.W.subIn K (.ref C27) (.ref C1) = some false)
    (q27x2 : PySem.W.subIn K (.ref C27) (.ref C2) = some false)
    (q27x3 : PySem.W.subIn K (.ref C27) (.ref C3) = some false)
    (q27x4 : PySem.W.subIn K (.ref C27) (.ref C4) = some false)
    (q27x5 : PySem.W.subIn K (.ref C27) (.ref C5) = some false)
    (q27x6 : PySem.W.subIn K (.ref C27) (.ref C6) = some false)
    (q27x7 : PySem.W.subIn K (.ref C27) (.ref C7) = some false)
    (q27x8 : PySem.W.subIn K (.ref C27) (.ref C8) = some false)
    (q27x9 : PySem.W.subIn K (.ref C27) (.ref C9) = some false)
    (q27x10 : PySem.W.subIn K (.ref C27) (.ref C10) = some false)
    (q27x11 : PySem.W.subIn K (.ref C27) (.ref C11) = some false)
    (q27x12 : PySem.W.subIn K (.ref C27) (.ref C12) = some false)
    (q27x13 : PySem.W.subIn K (.ref C27) (.ref C13) = some false)
    (q27x14 : PySem.W.subIn K (.ref C27) (.ref C14) = some false)
    (q27x15 : PySem.W.subIn K (.ref C27) (.ref C15) = some false)
    (q27x16 : PySem.W.subIn K (.ref C27) (.ref C16) = some false)
    (q27x17 : PySem.W.subIn K (.ref C27) (.ref C17) = some false)
    (q27x18 : PySem.W.subIn K (.ref C27) (.ref C18) = some false)
    (q27x19 : PySem.W.subIn K (.ref C27) (.ref C19) = some false)
    (q27x20 : PySem.W.subIn K (.ref C27) (.ref C20) = some false)
    (q27x21 : PySem.W.subIn K (.ref C27) (.ref C21) = some false)
    (q27x22 : PySem.W.subIn K (.ref C27) (.ref C22) = some false)
    (q27x23 : PySem.W.subIn K (.ref C27) (.ref C23) = some false)
    (q27x24 : PySem.W.subIn K (.ref C27) (.ref C24) = some false)
    (q27x25 : PySem.W.subIn K (.ref C27) (.ref C25) = some false)
    (q27x26 : PySem.W.subIn K (.ref C27) (.ref C26) = some false)
    (q27x28 : PySem.W.subIn K (.ref C27) (.ref C28) = some false)
    (q27x29 : PySem.W.subIn K (.ref C27) (.ref C29) = some false)
    (sv27 : PySem.W.subIn K (.ref C27) (.type "ValueError") = some true)
    (q28x1 : PySem.W.subIn K (.ref C28) (.ref C1) = some false)
    (q28x2 : PySem.W.subIn K (.ref C28) (.ref C2) = some false)
    (q28x3 : PySem.W.subIn K (.ref C28) (.ref C3) = some false)
    (q28x4 : PySem.W.subIn K (.ref C28) (.ref C4) = some false)
    (q28x5 : PySem.W.subIn K (.ref C28) (.ref C5) = some false)
    (q28x6 : PySem.W.subIn K (.ref C28) (.ref C6) = some false)
    (q28x7 : PySem.W.subIn K (.ref C28) (.ref C7) = some false)
    (q28x8 : PySem.W.subIn K (.ref C28) (.ref C8) = some false)
    (q28x9 : PySem.W.subIn K (.ref C28) (.ref C9) = some false)
    (q28x10 : PySem.W.subIn K (.ref C28) (.ref C10) = some false)
    (q28x11 : PySem.W.subIn K (.ref C28) (.ref C11) = some false)
    (q28x13 : PySem.W.subIn K (.ref C28) (.ref C13) = some false)
    (q28x14 : PySem.W.subIn K (.ref C28) (.ref C14) = some false)
    (q28x15 : PySem.W.subIn K (.ref C28) (.ref C15) = some false)
    (q28x17 : PySem.W.subIn K (.ref C28) (.ref C17) = some false)
    (q28x18 : PySem.W.subIn K (.ref C28) (.ref C18) = some false)
    (q28x19 : PySem.W.subIn K (.ref C28) (.ref C19) = some false)
    (q28x20 : PySem.W.subIn K (.ref C28) (.ref C20) = some false)
    (q28x21 : PySem.W.subIn K (.ref C28) (.ref C21) = some false)
    (q28x22 : PySem.W.subIn K (.ref C28) (.ref C22) = some false)
    (q28x23 : PySem.W.subIn K (.ref C28) (.ref C23) = some false)
    (q28x24 : PySem.W.subIn K (.ref C28) (.ref C24) = some false)
    (q28x25 : PySem.W.subIn K (.ref C28) (.ref C25) = some false)
    (q28x26 : PySem.W.subIn K (.ref C28) (.ref C26) = some false)
    (q28x27 : PySem.W.subIn K (.ref C28) (.ref C27) = some false)
    (q28x29 : PySem.W.subIn K (.ref C28) (.ref C29) = some false)
    (sv28 : PySem.W.subIn K (.ref C28) (.type "ValueError") = some true)
    (q29x0 : PySem.W.subIn K (.ref C29) (.ref C0) = some true)
    (q29x1 : PySem.W.subIn K (.ref C29) (.ref C1) = some false)
    (q29x2 : PySem.W.subIn K (.ref C29) (.ref C2) = some false)
    (q29x3 : PySem.W.subIn K (.ref C29) (.ref C3) = some false)
    (q29x4 : PySem.W.subIn K (.ref C29) (.ref C4) = some false)
    (q29x5 : PySem.W.subIn K (.ref C29) (.ref C5) = some false)
    (q29x6 : PySem.W.subIn K (.ref C29) (.ref C6) = some false)
    (q29x7 : PySem.W.subIn K (.ref C29) (.ref C7) = some false)
    (q29x8 : PySem.W.subIn K (.ref C29) (.ref C8) = some false)
    (q29x9 : PySem.W.subIn K (.ref C29) (.ref C9) = some false)
    (q29x10 : PySem.W.subIn K (.ref C29) (.ref C10) = some false)
    (q29x11 : PySem.W.subIn K (.ref C29) (.ref C11) = some false)
    (q29x12 : PySem.W.subIn K (.ref C29) (.ref C12) = some false)
    (q29x13 : PySem.W.subIn K (.ref C29) (.ref C13) = some false)
    (q29x14 : PySem.W.subIn K (.ref C29) (.ref C14) = some false)
    (q29x15 : PySem.W.subIn K (.ref C29) (.ref C15) = some false)
    (q29x16 : PySem.W.subIn K (.ref C29) (.ref C16) = some false)
    (q29x17 : PySem.W.subIn K (.ref C29) (.ref C17) = some false)
    (q29x18 : PySem.W.subIn K (.ref C29) (.ref C18) = some false)
    (q29x19 : PySem.W.subIn K (.ref C29) (.ref C19) = some false)
    (q29x20 : PySem.W.subIn K (.ref C29) (.ref C20) = some false)
    (q29x21 : PySem.W.subIn K (.ref C29) (.ref C21) = some false)
    (q29x22 : PySem.W.subIn K (.ref C29) (.ref C22) = some false)
    (q29x23 : PySem.W.subIn K (.ref C29) (.ref C23) = some false)
    (q29x24 : PySem.W.subIn K (.ref C29) (.ref C24) = some false)
    (q29x25 : PySem.W.subIn K (.ref C29) (.ref C25) = some false)
    (q29x26 : PySem.W.subIn K (.ref C29) (.ref C26) = some false)
    (q29x27 : PySem.W.subIn K (.ref C29) (.ref C27) = some false)
    (q29x28 : PySem.W.subIn K (.ref C29) (.ref C28) = some false)
    (hn : PySem.W.specialIn K (.builtin "object.__class__") "__get__" = some (some (.builtin "getset_descriptor.__get__")))
    (ht : PySem.W.takesIn K (.builtin "object.__class__") = some true)
    (opq : PySem.W.nsIn K cStatics "thirdparty.any" = some none)
    (zsup : PySem.W.nsIn K mainGlobals "super" = some none)
    (zve : PySem.W.nsIn K mainGlobals "ValueError" = some none)
    (nsup : (l.prog.main.scope.names.lookup ("super" : Str)).isSome = false)
    : LawFd l w K mg fa 4 := by
  have e := hfa.symm.trans (PySem.W.mg_of X G a6)
  cases e
  have F0 := fun_mk (st := topS 32) l0 c0 k0
  have F1 := fun_mk (st := topS 33) l1 c1 k1
  have F2 := fun_mk (st := topS 34) l2 c2 k2
  have F3 := fun_mk (st := topS 35) l3 c3 k3
  have F4 := fun_mk (st := topS 36) l4 c4 k4
  have F5 := fun_mk (st := topS 37) l5 c5 k5
  have F6 := fun_mk (st := topS 38) l6 c6 k6
  have T : Txt l.prog K mg (caL [(7, C0), (8, C1), (9, C2), (10, C3), (11, C4), (12, C5), (13, C6), (14, C7), (15, C8), (16, C9), (17, C10), (18, C11), (19, C12), (20, C13), (21, C14), (22, C15), (23, C16), (24, C17), (25, C18), (26, C19), (27, C20), (28, C21), (29, C22), (30, C23), (31, C24), (32, C25), (33, C26), (34, C27), (35, C28), (36, C29)]) := {
    s_law_pot := stands_mk (PySem.W.mg_of X G a0) F0 (F0.binds (ps := ["_law_script"]) fun _ _ _ _ _ _ us hl => match us, hl with | [_], _ => rfl)
    s_law_draw := stands_mk (PySem.W.mg_of X G a1) F1 (F1.binds (ps := ["_law_pot_here", "_law_many"]) fun _ _ _ _ _ _ us hl => match us, hl with | [_, _], _ => rfl)
    s_law_made := stands_mk (PySem.W.mg_of X G a2) F2 (F2.binds (ps := ["_law_value"]) fun _ _ _ _ _ _ us hl => match us, hl with | [_], _ => rfl)
    s_law_kinds := stands_mk (PySem.W.mg_of X G a3) F3 (F3.binds (ps := ["_law_e"]) fun _ _ _ _ _ _ us hl => match us, hl with | [_], _ => rfl)
    s_law_same := stands_mk (PySem.W.mg_of X G a4) F4 (F4.binds (ps := ["_law_told", "_law_value"]) fun _ _ _ _ _ _ us hl => match us, hl with | [_, _], _ => rfl)
    s_law_caught := stands_mk (PySem.W.mg_of X G a5) F5 (F5.binds (ps := ["_law_which", "_law_value"]) fun _ _ _ _ _ _ us hl => match us, hl with | [_, _], _ => rfl)
    s_law := stands_mk (PySem.W.mg_of X G a6) F6 (F6.binds (ps := ["_law_script"]) fun _ _ _ _ _ _ us hl => match us, hl with | [_], _ => rfl)
    con := all_nil
    blt := all_cons (PySem.W.mg_none_of X G z0) (all_cons (PySem.W.mg_none_of X G z1) (all_cons (PySem.W.mg_none_of X G z2) (all_cons (PySem.W.mg_none_of X G z3) (all_cons (PySem.W.mg_none_of X G z4) (all_cons (PySem.W.mg_none_of X G z5) (all_cons (PySem.W.mg_none_of X G z6) (all_cons (PySem.W.mg_none_of X G z7) (all_cons (PySem.W.mg_none_of X G z8) (all_cons (PySem.W.mg_none_of X G z9) (all_cons (PySem.W.mg_none_of X G z10) (all_cons (PySem.W.mg_none_of X G z11) (all_cons (PySem.W.mg_none_of X G z12) (all_cons (PySem.W.mg_none_of X G z13) (all_cons (PySem.W.mg_none_of X G z14) (all_cons (PySem.W.mg_none_of X G z15) (all_cons (PySem.W.mg_none_of X G z16) (all_cons (PySem.W.mg_none_of X G z17) (all_cons (PySem.W.mg_none_of X G z18) (all_nil)))))))))))))))))))
    xt := fun w base lv h2 => ⟨all_cons (fun x e => by cases e; exact ⟨C1, _, _, _, _, PySem.F.excBase_ValueError, xC1, PySem.W.mg_of X G aC1, kC1, bC1, tC1, nC1, rfl⟩) (all_cons (fun x e => by cases e; exact ⟨C2, _, _, _, _, PySem.F.excBase_ValueError, xC2, PySem.W.mg_of X G aC2, kC2, bC2, tC2, nC2, rfl⟩) (all_cons (fun x e => by cases e; exact ⟨h2, C3, g3, _, ["self", "part"], ⟨⟨_, _, _, _, _, _, _, _, _, _, _, _, _, _, _, lC3, rv3⟩, sa3, bC3, tC3, kC3⟩, iC3, tI3, init_ok (sup_of (P := l.prog) (mg := mg) (st := (inCls (topS 4) 0)) (slf := "self") (part := "part") (fld := "part") (by decide +kernel) lI3 cI3 ce3 coI3 fi3 fe3 nsup (PySem.W.mg_none_of X G zsup) ⟨⟨_, _, _, _, _, _, _, _, _, _, _, _, _, _, _, lC3, rv3⟩, sa3, bC3, tC3, kC3⟩ rC3 sv3 su3 opq ex3 fd3), Binds.all (fun us hl => match us, hl with | [_, _], _ => rfl), PySem.W.mg_of X G aC3, nC3, rfl⟩) (all_cons (fun x e => by cases e; exact ⟨h2, C4, g4, _, ["self", "ring"], ⟨⟨_, _, _, _, _, _, _, _, _, _, _, _, _, _, _, lC4, rv4⟩, sa4, bC4, tC4, kC4⟩, iC4, tI4, init_ok (sup_of (P := l.prog) (mg := mg) (st := (inCls (topS 5) 0)) (slf := "self") (part := "ring") (fld := "ring") (by decide +kernel) lI4 cI4 ce4 coI4 fi4 fe4 nsup (PySem.W.mg_none_of X G zsup) ⟨⟨_, _, _, _, _, _, _, _, _, _, _, _, _, _, _, lC4, rv4⟩, sa4, bC4, tC4, kC4⟩ rC4 sv4 su4 opq ex4 fd4), Binds.all (fun us hl => match us, hl with | [_, _], _ => rfl), PySem.W.mg_of X G aC4, nC4, rfl⟩) (all_cons (fun x e => by cases e; exact ⟨C5, _, _, _, _, PySem.F.excBase_ValueError, xC5, PySem.W.mg_of X G aC5, kC5, bC5, tC5, nC5, rfl⟩) (all_cons (fun x e => by cases e; exact ⟨C6, _, _, _, _, PySem.F.excBase_ValueError, xC6, PySem.W.mg_of X G aC6, kC6, bC6, tC6, nC6, rfl⟩) (all_cons (fun x e => by cases e; exact ⟨C7, _, _, _, _, PySem.F.excBase_ValueError, xC7, PySem.W.mg_of X G aC7, kC7, bC7, tC7, nC7, rfl⟩) (all_cons (fun x e => by cases e; exact ⟨C8, _, _, _, _, PySem.F.excBase_ValueError, xC8, PySem.W.mg_of X G aC8, kC8, bC8, tC8, nC8, rfl⟩) (all_cons (fun x e => by cases e; exact ⟨C9, _, _, _, _, PySem.F.excBase_ValueError, xC9, PySem.W.mg_of X G aC9, kC9, bC9, tC9, nC9, rfl⟩) (all_cons (fun x e => by cases e; exact ⟨h2, C10, g10, _, ["self", "part"], ⟨⟨_, _, _, _, _, _, _, _, _, _, _, _, _, _, _, lC10, rv10⟩, sa10, bC10, tC10, kC10⟩, iC10, tI10, init_ok (sup_of (P := l.prog) (mg := mg) (st := (inCls (topS 11) 0)) (slf := "self") (part := "part") (fld := "part") (by decide +kernel) lI10 cI10 ce10 coI10 fi10 fe10 nsup (PySem.W.mg_none_of X G zsup) ⟨⟨_, _, _, _, _, _, _, _, _, _, _, _, _, _, _, lC10, rv10⟩, sa10, bC10, tC10, kC10⟩ rC10 sv10 su10 opq ex10 fd10), Binds.all (fun us hl => match us, hl with | [_, _], _ => rfl), PySem.W.mg_of X G aC10, nC10, rfl⟩) (all_cons (fun x e => by cases e; exact ⟨C11, _, _, _, _, PySem.F.excBase_ValueError, xC11, PySem.W.mg_of X G aC11, kC11, bC11, tC11, nC11, rfl⟩) (all_cons (fun x e => by cases e; exact ⟨C12, _, _, _, _, PySem.F.excBase_ValueError, xC12, PySem.W.mg_of X G aC12, kC12, bC12, tC12, nC12, rfl⟩) (all_cons (fun x e => by cases e; exact ⟨C13, _, _, _, _, PySem.F.excBase_ValueError, xC13, PySem.W.mg_of X G aC13, kC13, bC13, tC13, nC13, rfl⟩) (all_cons (fun x e => by cases e; exact ⟨C14, _, _, _, _, PySem.F.excBase_ValueError, xC14, PySem.W.mg_of X G aC14, kC14, bC14, tC14, nC14, rfl⟩) (all_cons (fun x e => by cases e; exact ⟨h2, C15, g15, _, ["self", "part"], ⟨⟨_, _, _, _, _, _, _, _, _, _, _, _, _, _, _, lC15, rv15⟩, sa15, bC15, tC15, kC15⟩, iC15, tI15, init_ok (sup_of (P := l.prog) (mg := mg) (st := (inCls (topS 16) 0)) (slf := "self") (part := "part") (fld := "part") (by decide +kernel) lI15 cI15 ce15 coI15 fi15 fe15 nsup (PySem.W.mg_none_of X G zsup) ⟨⟨_, _, _, _, _, _, _, _, _, _, _, _, _, _, _, lC15, rv15⟩, sa15, bC15, tC15, kC15⟩ rC15 sv15 su15 opq ex15 fd15), Binds.all (fun us hl => match us, hl with | [_, _], _ => rfl), PySem.W.mg_of X G aC15, nC15, rfl⟩) (all_cons (fun x e => by cases e; exact ⟨h2, C16, g16, _, ["self", "most"], ⟨⟨_, _, _, _, _, _, _, _, _, _, _, _, _, _, _, lC16, rv16⟩, sa16, bC16, tC16, kC16⟩, iC16, tI16, init_ok (sup_of (P := l.prog) (mg := mg) (st := (inCls (topS 17) 0)) (slf := "self") (part := "most") (fld := "most") (by decide +kernel) lI16 cI16 ce16 coI16 fi16 fe16 nsup (PySem.W.mg_none_of X G zsup) ⟨⟨_, _, _, _, _, _, _, _, _, _, _, _, _, _, _, lC16, rv16⟩, sa16, bC16, tC16, kC16⟩ rC16 sv16 su16 opq ex16 fd16), Binds.all (fun us hl => match us, hl with | [_, _], _ => rfl), PySem.W.mg_of X G aC16, nC16, rfl⟩) (all_cons (fun x e => by cases e; exact ⟨h2, C17, g17, _, ["self", "line"], ⟨⟨_, _, _, _, _, _, _, _, _, _, _, _, _, _, _, lC17, rv17⟩, sa17, bC17, tC17, kC17⟩, iC17, tI17, init_ok (sup_of (P := l.prog) (mg := mg) (st := (inCls (topS 18) 0)) (slf := "self") (part := "line") (fld := "line") (by decide +kernel) lI17 cI17 ce17 coI17 fi17 fe17 nsup (PySem.W.mg_none_of X G zsup) ⟨⟨_, _, _, _, _, _, _, _, _, _, _, _, _, _, _, lC17, rv17⟩, sa17, bC17, tC17, kC17⟩ rC17 sv17 su17 opq ex17 fd17), Binds.all (fun us hl => match us, hl with | [_, _], _ => rfl), PySem.W.mg_of X G aC17, nC17, rfl⟩) (all_cons (fun x e => by cases e; exact ⟨C18, _, _, _, _, PySem.F.excBase_ValueError, xC18, PySem.W.mg_of X G aC18, kC18, bC18, tC18, nC18, rfl⟩) (all_cons (fun x e => by cases e; exact ⟨C19, _, _, _, _, PySem.F.excBase_ValueError, xC19, PySem.W.mg_of X G aC19, kC19, bC19, tC19, nC19, rfl⟩) (all_cons (fun x e => by cases e; exact ⟨C20, _, _, _, _, PySem.F.excBase_ValueError, xC20, PySem.W.mg_of X G aC20, kC20, bC20, tC20, nC20, rfl⟩) (all_cons (fun x e => by cases e; exact ⟨C21, _, _, _, _, PySem.F.excBase_ValueError, xC21, PySem.W.mg_of X G aC21, kC21, bC21, tC21, nC21, rfl⟩) (all_cons (fun x e => by cases e; exact ⟨h2, C22, g22, _, ["self", "part"], ⟨⟨_, _, _, _, _, _, _, _, _, _, _, _, _, _, _, lC22, rv22⟩, sa22, bC22, tC22, kC22⟩, iC22, tI22, init_ok (sup_of (P := l.prog) (mg := mg) (st := (inCls (topS 23) 0)) (slf := "self") (part := "part") (fld := "part") (by decide +kernel) lI22 cI22 ce22 coI22 fi22 fe22 nsup (PySem.W.mg_none_of X G zsup) ⟨⟨_, _, _, _, _, _, _, _, _, _, _, _, _, _, _, lC22, rv22⟩, sa22, bC22, tC22, kC22⟩ rC22 sv22 su22 opq ex22 fd22), Binds.all (fun us hl => match us, hl with | [_, _], _ => rfl), PySem.W.mg_of X G aC22, nC22, rfl⟩) (all_cons (fun x e => by cases e; exact ⟨C23, _, _, _, _, PySem.F.excBase_ValueError, xC23, PySem.W.mg_of X G aC23, kC23, bC23, tC23, nC23, rfl⟩) (all_cons (fun x e => by cases e; exact ⟨C24, _, _, _, _, PySem.F.excBase_ValueError, xC24, PySem.W.mg_of X G aC24, kC24, bC24, tC24, nC24, rfl⟩) (all_cons (fun x e => by cases e; exact ⟨C25, _, _, _, _, PySem.F.excBase_ValueError, xC25, PySem.W.mg_of X G aC25, kC25, bC25, tC25, nC25, rfl⟩) (all_cons (fun x e => by cases e; exact ⟨C26, _, _, _, _, PySem.F.excBase_ValueError, xC26, PySem.W.mg_of X G aC26, kC26, bC26, tC26, nC26, rfl⟩) (all_cons (fun x e => by cases e; exact ⟨C27, _, _, _, _, PySem.F.excBase_ValueError, xC27, PySem.W.mg_of X G aC27, kC27, bC27, tC27, nC27, rfl⟩) (all_cons (fun x e => by cases e; exact ⟨C28, _, _, _, _, PySem.F.excBase_ValueError, xC28, PySem.W.mg_of X G aC28, kC28, bC28, tC28, nC28, rfl⟩) (all_cons (fun x e => by cases e; exact ⟨h2, C29, g29, _, ["self", "name"], ⟨⟨_, _, _, _, _, _, _, _, _, _, _, _, _, _, _, lC29, rv29⟩, sa29, bC29, tC29, kC29⟩, iC29, tI29, init_ok (sup_of (P := l.prog) (mg := mg) (st := (inCls (topS 30) 0)) (slf := "self") (part := "name") (fld := "name") (by decide +kernel) lI29 cI29 ce29 coI29 fi29 fe29 nsup (PySem.W.mg_none_of X G zsup) ⟨⟨_, _, _, _, _, _, _, _, _, _, _, _, _, _, _, lC29, rv29⟩, sa29, bC29, tC29, kC29⟩ rC29 sv29 su29 opq ex29 fd29), Binds.all (fun us hl => match us, hl with | [_, _], _ => rfl), PySem.W.mg_of X G aC29, nC29, rfl⟩) (all_nil))))))))))))))))))))))))))))), all_cons (fun x e => by cases e; exact ⟨.ref C0, .ref C0, .own _, rfl, (.inl (PySem.W.mg_of X G aC0)), all_cons (fun C hC => by cases uniq_of uC1 hC; exact ⟨ec_mk cl1 hg1 hk1 bC1 dC1 ha1 hn ht hm1, kit_own rC1 q1x0 cl0 tC0⟩) (all_cons (fun C hC => by cases uniq_of uC2 hC; exact ⟨ec_mk cl2 hg2 hk2 bC2 dC2 ha2 hn ht hm2, kit_own rC2 q2x0 cl0 tC0⟩) (all_cons (fun C hC => by cases uniq_of uC3 hC; exact ⟨ec_mk cl3 hg3 hk3 bC3 dC3 ha3 hn ht hm3, kit_own rC3 q3x0 cl0 tC0⟩) (all_cons (fun C hC => by cases uniq_of uC4 hC; exact ⟨ec_mk cl4 hg4 hk4 bC4 dC4 ha4 hn ht hm4, kit_own rC4 q4x0 cl0 tC0⟩) (all_cons (fun C hC => by cases uniq_of uC5 hC; exact ⟨ec_mk cl5 hg5 hk5 bC5 dC5 ha5 hn ht hm5, kit_own rC5 q5x0 cl0 tC0⟩) (all_cons (fun C hC => by cases uniq_of uC6 hC; exact ⟨ec_mk cl6 hg6 hk6 bC6 dC6 ha6 hn ht hm6, kit_own rC6 q6x0 cl0 tC0⟩) (all_cons (fun C hC => by cases uniq_of uC7 hC; exact ⟨ec_mk cl7 hg7 hk7 bC7 dC7 ha7 hn ht hm7, kit_own rC7 q7x0 cl0 tC0⟩) (all_cons (fun C hC => by cases uniq_of uC8 hC; exact ⟨ec_mk cl8 hg8 hk8 bC8 dC8 ha8 hn ht hm8, kit_own rC8 q8x0 cl0 tC0⟩) (all_cons (fun C hC => by cases uniq_of uC9 hC; exact ⟨ec_mk cl9 hg9 hk9 bC9 dC9 ha9 hn ht hm9, kit_own rC9 q9x0 cl0 tC0⟩) (all_cons (fun C hC => by cases uniq_of uC10 hC; exact ⟨ec_mk cl10 hg10 hk10 bC10 dC10 ha10 hn ht hm10, kit_own rC10 q10x0 cl0 tC0⟩) (all_cons (fun C hC => by cases uniq_of uC11 hC; exact ⟨ec_mk cl11 hg11 hk11 bC11 dC11 ha11 hn ht hm11, kit_own rC11 q11x0 cl0 tC0⟩) (all_cons (fun C hC => by cases uniq_of uC12 hC; exact ⟨ec_mk cl12 hg12 hk12 bC12 dC12 ha12 hn ht hm12, kit_own rC12 q12x0 cl0 tC0⟩) (all_cons (fun C hC => by cases uniq_of uC13 hC; exact ⟨ec_mk cl13 hg13 hk13 bC13 dC13 ha13 hn ht hm13, kit_own rC13 q13x0 cl0 tC0⟩) (all_cons (fun C hC => by cases uniq_of uC14 hC; exact ⟨ec_mk cl14 hg14 hk14 bC14 dC14 ha14 hn ht hm14, kit_own rC14 q14x0 cl0 tC0⟩) (all_cons (fun C hC => by cases uniq_of uC15 hC; exact ⟨ec_mk cl15 hg15 hk15 bC15 dC15 ha15 hn ht hm15, kit_own rC15 q15x0 cl0 tC0⟩) (all_cons (fun C hC => by cases uniq_of uC16 hC; exact ⟨ec_mk cl16 hg16 hk16 bC16 dC16 ha16 hn ht hm16, kit_own rC16 q16x0 cl0 tC0⟩) (all_cons (fun C hC => by cases uniq_of uC17 hC; exact ⟨ec_mk cl17 hg17 hk17 bC17 dC17 ha17 hn ht hm17, kit_own rC17 q17x0 cl0 tC0⟩) (all_cons (fun C hC => by cases uniq_of uC18 hC; exact ⟨ec_mk cl18 hg18 hk18 bC18 dC18 ha18 hn ht hm18, kit_own rC18 q18x0 cl0 tC0⟩) (all_cons (fun C hC => by cases uniq_of uC19 hC; exact ⟨ec_mk cl19 hg19 hk19 bC19 dC19 ha19 hn ht hm19, kit_own rC19 q19x0 cl0 tC0⟩) (all_cons (fun C hC => by cases uniq_of uC20 hC; exact ⟨ec_mk cl20 hg20 hk20 bC20 dC20 ha20 hn ht hm20, kit_own rC20 q20x0 cl0 tC0⟩) (all_cons (fun C hC => by cases uniq_of uC21 hC; exact ⟨ec_mk cl21 hg21 hk21 bC21 dC21 ha21 hn ht hm21, kit_own rC21 q21x0 cl0 tC0⟩) (all_cons (fun C hC => by cases uniq_of uC22 hC; exact ⟨ec_mk cl22 hg22 hk22 bC22 dC22 ha22 hn ht hm22, kit_own rC22 q22x0 cl0 tC0⟩) (all_cons (fun C hC => by cases uniq_of uC23 hC; exact ⟨ec_mk cl23 hg23 hk23 bC23 dC23 ha23 hn ht hm23, kit_own rC23 q23x0 cl0 tC0⟩) (all_cons (fun C hC => by cases uniq_of uC24 hC; exact ⟨ec_mk cl24 hg24 hk24 bC24 dC24 ha24 hn ht hm24, kit_own rC24 q24x0 cl0 tC0⟩) (all_cons (fun C hC => by cases uniq_of uC25 hC; exact ⟨ec_mk cl25 hg25 hk25 bC25 dC25 ha25 hn ht hm25, kit_own rC25 q25x0 cl0 tC0⟩) (all_cons (fun C hC => by cases uniq_of uC26 hC; exact ⟨ec_mk cl26 hg26 hk26 bC26 dC26 ha26 hn ht hm26, kit_own rC26 q26x0 cl0 tC0⟩) (all_cons (fun C hC => by cases uniq_of uC27 hC; exact ⟨ec_mk cl27 hg27 hk27 bC27 dC27 ha27 hn ht hm27, kit_own rC27 q27x0 cl0 tC0⟩) (all_cons (fun C hC => by cases uniq_of uC28 hC; exact ⟨ec_mk cl28 hg28 hk28 bC28 dC28 ha28 hn ht hm28, kit_own rC28 q28x0 cl0 tC0⟩) (all_cons (fun C hC => by cases uniq_of uC29 hC; exact ⟨ec_mk cl29 hg29 hk29 bC29 dC29 ha29 hn ht hm29, kit_own rC29 q29x0 cl0 tC0⟩) (all_nil)))))))))))))))))))))))))))))⟩) (all_cons (fun x e => by cases e; exact ⟨.ref C1, .ref C1, .own _, rfl, (.inl (PySem.W.mg_of X G aC1)), all_cons (fun C hC => by cases uniq_of uC1 hC; exact ⟨ec_mk cl1 hg1 hk1 bC1 dC1 ha1 hn ht hm1, kit_own rC1 rC1 cl1 tC1⟩) (all_cons (fun C hC => by cases uniq_of uC2 hC; exact ⟨ec_mk cl2 hg2 hk2 bC2 dC2 ha2 hn ht hm2, kit_own rC2 q2x1 cl1 tC1⟩) (all_cons (fun C hC => by cases uniq_of uC3 hC; exact ⟨ec_mk cl3 hg3 hk3 bC3 dC3 ha3 hn ht hm3, kit_own rC3 q3x1 cl1 tC1⟩) (all_cons (fun C hC => by cases uniq_of uC4 hC; exact ⟨ec_mk cl4 hg4 hk4 bC4 dC4 ha4 hn ht hm4, kit_own rC4 q4x1 cl1 tC1⟩) (all_cons (fun C hC => by cases uniq_of uC5 hC; exact ⟨ec_mk cl5 hg5 hk5 bC5 dC5 ha5 hn ht hm5, kit_own rC5 q5x1 cl1 tC1⟩) (all_cons (fun C hC => by cases uniq_of uC6 hC; exact ⟨ec_mk cl6 hg6 hk6 bC6 dC6 ha6 hn ht hm6, kit_own rC6 q6x1 cl1 tC1⟩) (all_cons (fun C hC => by cases uniq_of uC7 hC; exact ⟨ec_mk cl7 hg7 hk7 bC7 dC7 ha7 hn ht hm7, kit_own rC7 q7x1 cl1 tC1⟩) (all_cons (fun C hC => by cases uniq_of uC8 hC; exact ⟨ec_mk cl8 hg8 hk8 bC8 dC8 ha8 hn ht hm8, kit_own rC8 q8x1 cl1 tC1⟩) (all_cons (fun C hC => by cases uniq_of uC9 hC; exact ⟨ec_mk cl9 hg9 hk9 bC9 dC9 ha9 hn ht hm9, kit_own rC9 q9x1 cl1 tC1⟩) (all_cons (fun C hC => by cases uniq_of uC10 hC; exact ⟨ec_mk cl10 hg10 hk10 bC10 dC10 ha10 hn ht hm10, kit_own rC10 q10x1 cl1 tC1⟩) (all_cons (fun C hC => by cases uniq_of uC11 hC; exact ⟨ec_mk cl11 hg11 hk11 bC11 dC11 ha11 hn ht hm11, kit_own rC11 q11x1 cl1 tC1⟩) (all_cons (fun C hC => by cases uniq_of uC12 hC; exact ⟨ec_mk cl12 hg12 hk12 bC12 dC12 ha12 hn ht hm12, kit_own rC12 q12x1 cl1 tC1⟩) (all_cons (fun C hC => by cases uniq_of uC13 hC; exact ⟨ec_mk cl13 hg13 hk13 bC13 dC13 ha13 hn ht hm13, kit_own rC13 q13x1 cl1 tC1⟩) (all_cons (fun C hC => by cases uniq_of uC14 hC; exact ⟨ec_mk cl14 hg14 hk14 bC14 dC14 ha14 hn ht hm14, kit_own rC14 q14x1 cl1 tC1⟩) (all_cons (fun C hC => by cases uniq_of uC15 hC; exact ⟨ec_mk cl15 hg15 hk15 bC15 dC15 ha15 hn ht hm15, kit_own rC15 q15x1 cl1 tC1⟩) (all_cons (fun C hC => by cases uniq_of uC16 hC; exact ⟨ec_mk cl16 hg16 hk16 bC16 dC16 ha16 hn ht hm16, kit_own rC16 q16x1 cl1 tC1⟩) (all_cons (fun C hC => by cases uniq_of uC17 hC; exact ⟨ec_mk cl17 hg17 hk17 bC17 dC17 ha17 hn ht hm17, kit_own rC17 q17x1 cl1 tC1⟩) (all_cons (fun C hC => by cases uniq_of uC18 hC; exact ⟨ec_mk cl18 hg18 hk18 bC18 dC18 ha18 hn ht hm18, kit_own rC18 q18x1 cl1 tC1⟩) (all_cons (fun C hC => by cases uniq_of uC19 hC; exact ⟨ec_mk cl19 hg19 hk19 bC19 dC19 ha19 hn ht hm19, kit_own rC19 q19x1 cl1 tC1⟩) (all_cons (fun C hC => by cases uniq_of uC20 hC; exact ⟨ec_mk cl20 hg20 hk20 bC20 dC20 ha20 hn ht hm20, kit_own rC20 q20x1 cl1 tC1⟩) (all_cons (fun C hC => by cases uniq_of uC21 hC; exact ⟨ec_mk cl21 hg21 hk21 bC21 dC21 ha21 hn ht hm21, kit_own rC21 q21x1 cl1 tC1⟩) (all_cons (fun C hC => by cases uniq_of uC22 hC; exact ⟨ec_mk cl22 hg22 hk22 bC22 dC22 ha22 hn ht hm22, kit_own rC22 q22x1 cl1 tC1⟩) (all_cons (fun C hC => by cases uniq_of uC23 hC; exact ⟨ec_mk cl23 hg23 hk23 bC23 dC23 ha23 hn ht hm23, kit_own rC23 q23x1 cl1 tC1⟩) (all_cons (fun C hC => by cases uniq_of uC24 hC; exact ⟨ec_mk cl24 hg24 hk24 bC24 dC24 ha24 hn ht hm24, kit_own rC24 q24x1 cl1 tC1⟩) (all_cons (fun C hC => by cases uniq_of uC25 hC; exact ⟨ec_mk cl25 hg25 hk25 bC25 dC25 ha25 hn ht hm25, kit_own rC25 q25x1 cl1 tC1⟩) (all_cons (fun C hC => by cases uniq_of uC26 hC; exact ⟨ec_mk cl26 hg26 hk26 bC26 dC26 ha26 hn ht hm26, kit_own rC26 q26x1 cl1 tC1⟩) (all_cons (fun C hC => by cases uniq_of uC27 hC; exact ⟨ec_mk cl27 hg27 hk27 bC27 dC27 ha27 hn ht hm27, kit_own rC27 q27x1 cl1 tC1⟩) (all_cons (fun C hC => by cases uniq_of uC28 hC; exact ⟨ec_mk cl28 hg28 hk28 bC28 dC28 ha28 hn ht hm28, kit_own rC28 q28x1 cl1 tC1⟩) (all_cons (fun C hC => by cases uniq_of uC29 hC; exact ⟨ec_mk cl29 hg29 hk29 bC29 dC29 ha29 hn ht hm29, kit_own rC29 q29x1 cl1 tC1⟩) (all_nil)))))))))))))))))))))))))))))⟩) (all_cons (fun x e => by cases e; exact ⟨.ref C2, .ref C2, .own _, rfl, (.inl (PySem.W.mg_of X G aC2)), all_cons (fun C hC => by cases uniq_of uC1 hC; exact ⟨ec_mk cl1 hg1 hk1 bC1 dC1 ha1 hn ht hm1, kit_own rC1 q1x2 cl2 tC2⟩) (all_cons (fun C hC => by cases uniq_of uC2 hC; exact ⟨ec_mk cl2 hg2 hk2 bC2 dC2 ha2 hn ht hm2, kit_own rC2 rC2 cl2 tC2⟩) (all_cons (fun C hC => by cases uniq_of uC3 hC; exact ⟨ec_mk cl3 hg3 hk3 bC3 dC3 ha3 hn ht hm3, kit_own rC3 q3x2 cl2 tC2⟩) (all_cons (fun C hC => by cases uniq_of uC4 hC; exact ⟨ec_mk cl4 hg4 hk4 bC4 dC4 ha4 hn ht hm4, kit_own rC4 q4x2 cl2 tC2⟩) (all_cons (fun C hC => by cases uniq_of uC5 hC; exact ⟨ec_mk cl5 hg5 hk5 bC5 dC5 ha5 hn ht hm5, kit_own rC5 q5x2 cl2 tC2⟩) (all_cons (fun C hC => by cases uniq_of uC6 hC; exact ⟨ec_mk cl6 hg6 hk6 bC6 dC6 ha6 hn ht hm6, kit_own rC6 q6x2 cl2 tC2⟩) (all_cons (fun C hC => by cases uniq_of uC7 hC; exact ⟨ec_mk cl7 hg7 hk7 bC7 dC7 ha7 hn ht hm7, kit_own rC7 q7x2 cl2 tC2⟩) (all_cons (fun C hC => by cases uniq_of uC8 hC; exact ⟨ec_mk cl8 hg8 hk8 bC8 dC8 ha8 hn ht hm8, kit_own rC8 q8x2 cl2 tC2⟩) (all_cons (fun C hC => by cases uniq_of uC9 hC; exact ⟨ec_mk cl9 hg9 hk9 bC9 dC9 ha9 hn ht hm9, kit_own rC9 q9x2 cl2 tC2⟩) (all_cons (fun C hC => by cases uniq_of uC10 hC; exact ⟨ec_mk cl10 hg10 hk10 bC10 dC10 ha10 hn ht hm10, kit_own rC10 q10x2 cl2 tC2⟩) (all_cons (fun C hC => by cases uniq_of uC11 hC; exact ⟨ec_mk cl11 hg11 hk11 bC11 dC11 ha11 hn ht hm11, kit_own rC11 q11x2 cl2 tC2⟩) (all_cons (fun C hC => by cases uniq_of uC12 hC; exact ⟨ec_mk cl12 hg12 hk12 bC12 dC12 ha12 hn ht hm12, kit_own rC12 q12x2 cl2 tC2⟩) (all_cons (fun C hC => by cases uniq_of uC13 hC; exact ⟨ec_mk cl13 hg13 hk13 bC13 dC13 ha13 hn ht hm13, kit_own rC13 q13x2 cl2 tC2⟩) (all_cons (fun C hC => by cases uniq_of uC14 hC; exact ⟨ec_mk cl14 hg14 hk14 bC14 dC14 ha14 hn ht hm14, kit_own rC14 q14x2 cl2 tC2⟩) (all_cons (fun C hC => by cases uniq_of uC15 hC; exact ⟨ec_mk cl15 hg15 hk15 bC15 dC15 ha15 hn ht hm15, kit_own rC15 q15x2 cl2 tC2⟩) (all_cons (fun C hC => by cases uniq_of uC16 hC; exact ⟨ec_mk cl16 hg16 hk16 bC16 dC16 ha16 hn ht hm16, kit_own rC16 q16x2 cl2 tC2⟩) (all_cons (fun C hC => by cases uniq_of uC17 hC; exact ⟨ec_mk cl17 hg17 hk17 bC17 dC17 ha17 hn ht hm17, kit_own rC17 q17x2 cl2 tC2⟩) (all_cons (fun C hC => by cases uniq_of uC18 hC; exact ⟨ec_mk cl18 hg18 hk18 bC18 dC18 ha18 hn ht hm18, kit_own rC18 q18x2 cl2 tC2⟩) (all_cons (fun C hC => by cases uniq_of uC19 hC; exact ⟨ec_mk cl19 hg19 hk19 bC19 dC19 ha19 hn ht hm19, kit_own rC19 q19x2 cl2 tC2⟩) (all_cons (fun C hC => by cases uniq_of uC20 hC; exact ⟨ec_mk cl20 hg20 hk20 bC20 dC20 ha20 hn ht hm20, kit_own rC20 q20x2 cl2 tC2⟩) (all_cons (fun C hC => by cases uniq_of uC21 hC; exact ⟨ec_mk cl21 hg21 hk21 bC21 dC21 ha21 hn ht hm21, kit_own rC21 q21x2 cl2 tC2⟩) (all_cons (fun C hC => by cases uniq_of uC22 hC; exact ⟨ec_mk cl22 hg22 hk22 bC22 dC22 ha22 hn ht hm22, kit_own rC22 q22x2 cl2 tC2⟩) (all_cons (fun C hC => by cases uniq_of uC23 hC; exact ⟨ec_mk cl23 hg23 hk23 bC23 dC23 ha23 hn ht hm23, kit_own rC23 q23x2 cl2 tC2⟩) (all_cons (fun C hC => by cases uniq_of uC24 hC; exact ⟨ec_mk cl24 hg24 hk24 bC24 dC24 ha24 hn ht hm24, kit_own rC24 q24x2 cl2 tC2⟩) (all_cons (fun C hC => by cases uniq_of uC25 hC; exact ⟨ec_mk cl25 hg25 hk25 bC25 dC25 ha25 hn ht hm25, kit_own rC25 q25x2 cl2 tC2⟩) (all_cons (fun C hC => by cases uniq_of uC26 hC; exact ⟨ec_mk cl26 hg26 hk26 bC26 dC26 ha26 hn ht hm26, kit_own rC26 q26x2 cl2 tC2⟩) (all_cons (fun C hC => by cases uniq_of uC27 hC; exact ⟨ec_mk cl27 hg27 hk27 bC27 dC27 ha27 hn ht hm27, kit_own rC27 q27x2 cl2 tC2⟩) (all_cons (fun C hC => by cases uniq_of uC28 hC; exact ⟨ec_mk cl28 hg28 hk28 bC28 dC28 ha28 hn ht hm28, kit_own rC28 q28x2 cl2 tC2⟩) (all_cons (fun C hC => by cases uniq_of uC29 hC; exact ⟨ec_mk cl29 hg29 hk29 bC29 dC29 ha29 hn ht hm29, kit_own rC29 q29x2 cl2 tC2⟩) (all_nil)))))))))))))))))))))))))))))⟩) (all_cons (fun x e => by cases e; exact ⟨.ref C3, .ref C3, .own _, rfl, (.inl (PySem.W.mg_of X G aC3)), all_cons (fun C hC => by cases uniq_of uC1 hC; exact ⟨ec_mk cl1 hg1 hk1 bC1 dC1 ha1 hn ht hm1, kit_own rC1 q1x3 cl3 tC3⟩) (all_cons (fun C hC => by cases uniq_of uC2 hC; exact ⟨ec_mk cl2 hg2 hk2 bC2 dC2 ha2 hn ht hm2, kit_own rC2 q2x3 cl3 tC3⟩) (all_cons (fun C hC => by cases uniq_of uC3 hC; exact ⟨ec_mk cl3 hg3 hk3 bC3 dC3 ha3 hn ht hm3, kit_own rC3 rC3 cl3 tC3⟩) (all_cons (fun C hC => by cases uniq_of uC4 hC; exact ⟨ec_mk cl4 hg4 hk4 bC4 dC4 ha4 hn ht hm4, kit_own rC4 q4x3 cl3 tC3⟩) (all_cons (fun C hC => by cases uniq_of uC5 hC; exact ⟨ec_mk cl5 hg5 hk5 bC5 dC5 ha5 hn ht hm5, kit_own rC5 q5x3 cl3 tC3⟩) (all_cons (fun C hC => by cases uniq_of uC6 hC; exact ⟨ec_mk cl6 hg6 hk6 bC6 dC6 ha6 hn ht hm6, kit_own rC6 q6x3 cl3 tC3⟩) (all_cons (fun C hC => by cases uniq_of uC7 hC; exact ⟨ec_mk cl7 hg7 hk7 bC7 dC7 ha7 hn ht hm7, kit_own rC7 q7x3 cl3 tC3⟩) (all_cons (fun C hC => by cases uniq_of uC8 hC; exact ⟨ec_mk cl8 hg8 hk8 bC8 dC8 ha8 hn ht hm8, kit_own rC8 q8x3 cl3 tC3⟩) (all_cons (fun C hC => by cases uniq_of uC9 hC; exact ⟨ec_mk cl9 hg9 hk9 bC9 dC9 ha9 hn ht hm9, kit_own rC9 q9x3 cl3 tC3⟩) (all_cons (fun C hC => by cases uniq_of uC10 hC; exact ⟨ec_mk cl10 hg10 hk10 bC10 dC10 ha10 hn ht hm10, kit_own rC10 q10x3 cl3 tC3⟩) (all_cons (fun C hC => by cases uniq_of uC11 hC; exact ⟨ec_mk cl11 hg11 hk11 bC11 dC11 ha11 hn ht hm11, kit_own rC11 q11x3 cl3 tC3⟩) (all_cons (fun C hC => by cases uniq_of uC12 hC; exact ⟨ec_mk cl12 hg12 hk12 bC12 dC12 ha12 hn ht hm12, kit_own rC12 q12x3 cl3 tC3⟩) (all_cons (fun C hC => by cases uniq_of uC13 hC; exact ⟨ec_mk cl13 hg13 hk13 bC13 dC13 ha13 hn ht hm13, kit_own rC13 q13x3 cl3 tC3⟩) (all_cons (fun C hC => by cases uniq_of uC14 hC; exact ⟨ec_mk cl14 hg14 hk14 bC14 dC14 ha14 hn ht hm14, kit_own rC14 q14x3 cl3 tC3⟩) (all_cons (fun C hC => by cases uniq_of uC15 hC; exact ⟨ec_mk cl15 hg15 hk15 bC15 dC15 ha15 hn ht hm15, kit_own rC15 q15x3 cl3 tC3⟩) (all_cons (fun C hC => by cases uniq_of uC16 hC; exact ⟨ec_mk cl16 hg16 hk16 bC16 dC16 ha16 hn ht hm16, kit_own rC16 q16x3 cl3 tC3⟩) (all_cons (fun C hC => by cases uniq_of uC17 hC; exact ⟨ec_mk cl17 hg17 hk17 bC17 dC17 ha17 hn ht hm17, kit_own rC17 q17x3 cl3 tC3⟩) (all_cons (fun C hC => by cases uniq_of uC18 hC; exact ⟨ec_mk cl18 hg18 hk18 bC18 dC18 ha18 hn ht hm18, kit_own rC18 q18x3 cl3 tC3⟩) (all_cons (fun C hC => by cases uniq_of uC19 hC; exact ⟨ec_mk cl19 hg19 hk19 bC19 dC19 ha19 hn ht hm19, kit_own rC19 q19x3 cl3 tC3⟩) (all_cons (fun C hC => by cases uniq_of uC20 hC; exact ⟨ec_mk cl20 hg20 hk20 bC20 dC20 ha20 hn ht hm20, kit_own rC20 q20x3 cl3 tC3⟩) (all_cons (fun C hC => by cases uniq_of uC21 hC; exact ⟨ec_mk cl21 hg21 hk21 bC21 dC21 ha21 hn ht hm21, kit_own rC21 q21x3 cl3 tC3⟩) (all_cons (fun C hC => by cases uniq_of uC22 hC; exact ⟨ec_mk cl22 hg22 hk22 bC22 dC22 ha22 hn ht hm22, kit_own rC22 q22x3 cl3 tC3⟩) (all_cons (fun C hC => by cases uniq_of uC23 hC; exact ⟨ec_mk cl23 hg23 hk23 bC23 dC23 ha23 hn ht hm23, kit_own rC23 q23x3 cl3 tC3⟩) (all_cons (fun C hC => by cases uniq_of uC24 hC; exact ⟨ec_mk cl24 hg24 hk24 bC24 dC24 ha24 hn ht hm24, kit_own rC24 q24x3 cl3 tC3⟩) (all_cons (fun C hC => by cases uniq_of uC25 hC; exact ⟨ec_mk cl25 hg25 hk25 bC25 dC25 ha25 hn ht hm25, kit_own rC25 q25x3 cl3 tC3⟩) (all_cons (fun C hC => by cases uniq_of uC26 hC; exact ⟨ec_mk cl26 hg26 hk26 bC26 dC26 ha26 hn ht hm26, kit_own rC26 q26x3 cl3 tC3⟩) (all_cons (fun C hC => by cases uniq_of uC27 hC; exact ⟨ec_mk cl27 hg27 hk27 bC27 dC27 ha27 hn ht hm27, kit_own rC27 q27x3 cl3 tC3⟩) (all_cons (fun C hC => by cases uniq_of uC28 hC; exact ⟨ec_mk cl28 hg28 hk28 bC28 dC28 ha28 hn ht hm28, kit_own rC28 q28x3 cl3 tC3⟩) (all_cons (fun C hC => by cases uniq_of uC29 hC; exact ⟨ec_mk cl29 hg29 hk29 bC29 dC29 ha29 hn ht hm29, kit_own rC29 q29x3 cl3 tC3⟩) (all_nil)))))))))))))))))))))))))))))⟩) (all_cons (fun x e => by cases e; exact ⟨.ref C4, .ref C4, .own _, rfl, (.inl (PySem.W.mg_of X G aC4)), all_cons (fun C hC => by cases uniq_of uC1 hC; exact ⟨ec_mk cl1 hg1 hk1 bC1 dC1 ha1 hn ht hm1, kit_own rC1 q1x4 cl4 tC4⟩) (all_cons (fun C hC => by cases uniq_of uC2 hC; exact ⟨ec_mk cl2 hg2 hk2 bC2 dC2 ha2 hn ht hm2, kit_own rC2 q2x4 cl4 tC4⟩) (all_cons (fun C hC => by cases uniq_of uC3 hC; exact ⟨ec_mk cl3 hg3 hk3 bC3 dC3 ha3 hn ht hm3, kit_own rC3 q3x4 cl4 tC4⟩) (all_cons (fun C hC => by cases uniq_of uC4 hC; exact ⟨ec_mk cl4 hg4 hk4 bC4 dC4 ha4 hn ht hm4, kit_own rC4 rC4 cl4 tC4⟩) (all_cons (fun C hC => by cases uniq_of uC5 hC; exact ⟨ec_mk cl5 hg5 hk5 bC5 dC5 ha5 hn ht hm5, kit_own rC5 q5x4 cl4 tC4⟩) (all_cons (fun C hC => by cases uniq_of uC6 hC; exact ⟨ec_mk cl6 hg6 hk6 bC6 dC6 ha6 hn ht hm6, kit_own rC6 q6x4 cl4 tC4⟩) (all_cons (fun C hC => by cases uniq_of uC7 hC; exact ⟨ec_mk cl7 hg7 hk7 bC7 dC7 ha7 hn ht hm7, kit_own rC7 q7x4 cl4 tC4⟩) (all_cons (fun C hC => by cases uniq_of uC8 hC; exact ⟨ec_mk cl8 hg8 hk8 bC8 dC8 ha8 hn ht hm8, kit_own rC8 q8x4 cl4 tC4⟩) (all_cons (fun C hC => by cases uniq_of uC9 hC; exact ⟨ec_mk cl9 hg9 hk9 bC9 dC9 ha9 hn ht hm9, kit_own rC9 q9x4 cl4 tC4⟩) (all_cons (fun C hC => by cases uniq_of uC10 hC; exact ⟨ec_mk cl10 hg10 hk10 bC10 dC10 ha10 hn ht hm10, kit_own rC10 q10x4 cl4 tC4⟩) (all_cons (fun C hC => by cases uniq_of uC11 hC; exact ⟨ec_mk cl11 hg11 hk11 bC11 dC11 ha11 hn ht hm11, kit_own rC11 q11x4 cl4 tC4⟩) (all_cons (fun C hC => by cases uniq_of uC12 hC; exact ⟨ec_mk cl12 hg12 hk12 bC12 dC12 ha12 hn ht hm12, kit_own rC12 q12x4 cl4 tC4⟩) (all_cons (fun C hC => by cases uniq_of uC13 hC; exact ⟨ec_mk cl13 hg13 hk13 bC13 dC13 ha13 hn ht hm13, kit_own rC13 q13x4 cl4 tC4⟩) (all_cons (fun C hC => by cases uniq_of uC14 hC; exact ⟨ec_mk cl14 hg14 hk14 bC14 dC14 ha14 hn ht hm14, kit_own rC14 q14x4 cl4 tC4⟩) (all_cons (fun C hC => by cases uniq_of uC15 hC; exact ⟨ec_mk cl15 hg15 hk15 bC15 dC15 ha15 hn ht hm15, kit_own rC15 q15x4 cl4 tC4⟩) (all_cons (fun C hC => by cases uniq_of uC16 hC; exact ⟨ec_mk cl16 hg16 hk16 bC16 dC16 ha16 hn ht hm16, kit_own rC16 q16x4 cl4 tC4⟩) (all_cons (fun C hC => by cases uniq_of uC17 hC; exact ⟨ec_mk cl17 hg17 hk17 bC17 dC17 ha17 hn ht hm17, kit_own rC17 q17x4 cl4 tC4⟩) (all_cons (fun C hC => by cases uniq_of uC18 hC; exact ⟨ec_mk cl18 hg18 hk18 bC18 dC18 ha18 hn ht hm18, kit_own rC18 q18x4 cl4 tC4⟩) (all_cons (fun C hC => by cases uniq_of uC19 hC; exact ⟨ec_mk cl19 hg19 hk19 bC19 dC19 ha19 hn ht hm19, kit_own rC19 q19x4 cl4 tC4⟩) (all_cons (fun C hC => by cases uniq_of uC20 hC; exact ⟨ec_mk cl20 hg20 hk20 bC20 dC20 ha20 hn ht hm20, kit_own rC20 q20x4 cl4 tC4⟩) (all_cons (fun C hC => by cases uniq_of uC21 hC; exact ⟨ec_mk cl21 hg21 hk21 bC21 dC21 ha21 hn ht hm21, kit_own rC21 q21x4 cl4 tC4⟩) (all_cons (fun C hC => by cases uniq_of uC22 hC; exact ⟨ec_mk cl22 hg22 hk22 bC22 dC22 ha22 hn ht hm22, kit_own rC22 q22x4 cl4 tC4⟩) (all_cons (fun C hC => by cases uniq_of uC23 hC; exact ⟨ec_mk cl23 hg23 hk23 bC23 dC23 ha23 hn ht hm23, kit_own rC23 q23x4 cl4 tC4⟩) (all_cons (fun C hC => by cases uniq_of uC24 hC; exact ⟨ec_mk cl24 hg24 hk24 bC24 dC24 ha24 hn ht hm24, kit_own rC24 q24x4 cl4 tC4⟩) (all_cons (fun C hC => by cases uniq_of uC25 hC; exact ⟨ec_mk cl25 hg25 hk25 bC25 dC25 ha25 hn ht hm25, kit_own rC25 q25x4 cl4 tC4⟩) (all_cons (fun C hC => by cases uniq_of uC26 hC; exact ⟨ec_mk cl26 hg26 hk26 bC26 dC26 ha26 hn ht hm26, kit_own rC26 q26x4 cl4 tC4⟩) (all_cons (fun C hC => by cases uniq_of uC27 hC; exact ⟨ec_mk cl27 hg27 hk27 bC27 dC27 ha27 hn ht hm27, kit_own rC27 q27x4 cl4 tC4⟩) (all_cons (fun C hC => by cases uniq_of uC28 hC; exact ⟨ec_mk cl28 hg28 hk28 bC28 dC28 ha28 hn ht hm28, kit_own rC28 q28x4 cl4 tC4⟩) (all_cons (fun C hC => by cases uniq_of uC29 hC; exact ⟨ec_mk cl29 hg29 hk29 bC29 dC29 ha29 hn ht hm29, kit_own rC29 q29x4 cl4 tC4⟩) (all_nil)))))))))))))))))))))))))))))⟩) (all_cons (fun x e => by cases e; exact ⟨.ref C5, .ref C5, .own _, rfl, (.inl (PySem.W.mg_of X G aC5)), all_cons (fun C hC => by cases uniq_of uC1 hC; exact ⟨ec_mk cl1 hg1 hk1 bC1 dC1 ha1 hn ht hm1, kit_own rC1 q1x5 cl5 tC5⟩) (all_cons (fun C hC => by cases uniq_of uC2 hC; exact ⟨ec_mk cl2 hg2 hk2 bC2 dC2 ha2 hn ht hm2, kit_own rC2 q2x5 cl5 tC5⟩) (all_cons (fun C hC => by cases uniq_of uC3 hC; exact ⟨ec_mk cl3 hg3 hk3 bC3 dC3 ha3 hn ht hm3, kit_own rC3 q3x5 cl5 tC5⟩) (all_cons (fun C hC => by cases uniq_of uC4 hC; exact ⟨ec_mk cl4 hg4 hk4 bC4 dC4 ha4 hn ht hm4, kit_own rC4 q4x5 cl5 tC5⟩) (all_cons (fun C hC => by cases uniq_of uC5 hC; exact ⟨ec_mk cl5 hg5 hk5 bC5 dC5 ha5 hn ht hm5, kit_own rC5 rC5 cl5 tC5⟩) (all_cons (fun C hC => by cases uniq_of uC6 hC; exact ⟨ec_mk cl6 hg6 hk6 bC6 dC6 ha6 hn ht hm6, kit_own rC6 q6x5 cl5 tC5⟩) (all_cons (fun C hC => by cases uniq_of uC7 hC; exact ⟨ec_mk cl7 hg7 hk7 bC7 dC7 ha7 hn ht hm7, kit_own rC7 q7x5 cl5 tC5⟩) (all_cons (fun C hC => by cases uniq_of uC8 hC; exact ⟨ec_mk cl8 hg8 hk8 bC8 dC8 ha8 hn ht hm8, kit_own rC8 q8x5 cl5 tC5⟩) (all_cons (fun C hC => by cases uniq_of uC9 hC; exact ⟨ec_mk cl9 hg9 hk9 bC9 dC9 ha9 hn ht hm9, kit_own rC9 q9x5 cl5 tC5⟩) (all_cons (fun C hC => by cases uniq_of uC10 hC; exact ⟨ec_mk cl10 hg10 hk10 bC10 dC10 ha10 hn ht hm10, kit_own rC10 q10x5 cl5 tC5⟩) (all_cons (fun C hC => by cases uniq_of uC11 hC; exact ⟨ec_mk cl11 hg11 hk11 bC11 dC11 ha11 hn ht hm11, kit_own rC11 q11x5 cl5 tC5⟩) (all_cons (fun C hC => by cases uniq_of uC12 hC; exact ⟨ec_mk cl12 hg12 hk12 bC12 dC12 ha12 hn ht hm12, kit_own rC12 q12x5 cl5 tC5⟩) (all_cons (fun C hC => by cases uniq_of uC13 hC; exact ⟨ec_mk cl13 hg13 hk13 bC13 dC13 ha13 hn ht hm13, kit_own rC13 q13x5 cl5 tC5⟩) (all_cons (fun C hC => by cases uniq_of uC14 hC; exact ⟨ec_mk cl14 hg14 hk14 bC14 dC14 ha14 hn ht hm14, kit_own rC14 q14x5 cl5 tC5⟩) (all_cons (fun C hC => by cases uniq_of uC15 hC; exact ⟨ec_mk cl15 hg15 hk15 bC15 dC15 ha15 hn ht hm15, kit_own rC15 q15x5 cl5 tC5⟩) (all_cons (fun C hC => by cases uniq_of uC16 hC; exact ⟨ec_mk cl16 hg16 hk16 bC16 dC16 ha16 hn ht hm16, kit_own rC16 q16x5 cl5 tC5⟩) (all_cons (fun C hC => by cases uniq_of uC17 hC; exact ⟨ec_mk cl17 hg17 hk17 bC17 dC17 ha17 hn ht hm17, kit_own rC17 q17x5 cl5 tC5⟩) (all_cons (fun C hC => by cases uniq_of uC18 hC; exact ⟨ec_mk cl18 hg18 hk18 bC18 dC18 ha18 hn ht hm18, kit_own rC18 q18x5 cl5 tC5⟩) (all_cons (fun C hC => by cases uniq_of uC19 hC; exact ⟨ec_mk cl19 hg19 hk19 bC19 dC19 ha19 hn ht hm19, kit_own rC19 q19x5 cl5 tC5⟩) (all_cons (fun C hC => by cases uniq_of uC20 hC; exact ⟨ec_mk cl20 hg20 hk20 bC20 dC20 ha20 hn ht hm20, kit_own rC20 q20x5 cl5 tC5⟩) (all_cons (fun C hC => by cases uniq_of uC21 hC; exact ⟨ec_mk cl21 hg21 hk21 bC21 dC21 ha21 hn ht hm21, kit_own rC21 q21x5 cl5 tC5⟩) (all_cons (fun C hC => by cases uniq_of uC22 hC; exact ⟨ec_mk cl22 hg22 hk22 bC22 dC22 ha22 hn ht hm22, kit_own rC22 q22x5 cl5 tC5⟩) (all_cons (fun C hC => by cases uniq_of uC23 hC; exact ⟨ec_mk cl23 hg23 hk23 bC23 dC23 ha23 hn ht hm23, kit_own rC23 q23x5 cl5 tC5⟩) (all_cons (fun C hC => by cases uniq_of uC24 hC; exact ⟨ec_mk cl24 hg24 hk24 bC24 dC24 ha24 hn ht hm24, kit_own rC24 q24x5 cl5 tC5⟩) (all_cons (fun C hC => by cases uniq_of uC25 hC; exact ⟨ec_mk cl25 hg25 hk25 bC25 dC25 ha25 hn ht hm25, kit_own rC25 q25x5 cl5 tC5⟩) (all_cons (fun C hC => by cases uniq_of uC26 hC; exact ⟨ec_mk cl26 hg26 hk26 bC26 dC26 ha26 hn ht hm26, kit_own rC26 q26x5 cl5 tC5⟩) (all_cons (fun C hC => by cases uniq_of uC27 hC; exact ⟨ec_mk cl27 hg27 hk27 bC27 dC27 ha27 hn ht hm27, kit_own rC27 q27x5 cl5 tC5⟩) (all_cons (fun C hC => by cases uniq_of uC28 hC; exact ⟨ec_mk cl28 hg28 hk28 bC28 dC28 ha28 hn ht hm28, kit_own rC28 q28x5 cl5 tC5⟩) (all_cons (fun C hC => by cases uniq_of uC29 hC; exact ⟨ec_mk cl29 hg29 hk29 bC29 dC29 ha29 hn ht hm29, kit_own rC29 q29x5 cl5 tC5⟩) (all_nil)))))))))))))))))))))))))))))⟩) (all_cons (fun x e => by cases e; exact ⟨.ref C6, .ref C6, .own _, rfl, (.inl (PySem.W.mg_of X G aC6)), all_cons (fun C hC => by cases uniq_of uC1 hC; exact ⟨ec_mk cl1 hg1 hk1 bC1 dC1 ha1 hn ht hm1, kit_own rC1 q1x6 cl6 tC6⟩) (all_cons (fun C hC => by cases uniq_of uC2 hC; exact ⟨ec_mk cl2 hg2 hk2 bC2 dC2 ha2 hn ht hm2, kit_own rC2 q2x6 cl6 tC6⟩) (all_cons (fun C hC => by cases uniq_of uC3 hC; exact ⟨ec_mk cl3 hg3 hk3 bC3 dC3 ha3 hn ht hm3, kit_own rC3 q3x6 cl6 tC6⟩) (all_cons (fun C hC => by cases uniq_of uC4 hC; exact ⟨ec_mk cl4 hg4 hk4 bC4 dC4 ha4 hn ht hm4, kit_own rC4 q4x6 cl6 tC6⟩) (all_cons (fun C hC => by cases uniq_of uC5 hC; exact ⟨ec_mk cl5 hg5 hk5 bC5 dC5 ha5 hn ht hm5, kit_own rC5 q5x6 cl6 tC6⟩) (all_cons (fun C hC => by cases uniq_of uC6 hC; exact ⟨ec_mk cl6 hg6 hk6 bC6 dC6 ha6 hn ht hm6, kit_own rC6 rC6 cl6 tC6⟩) (all_cons (fun C hC => by cases uniq_of uC7 hC; exact ⟨ec_mk cl7 hg7 hk7 bC7 dC7 ha7 hn ht hm7, kit_own rC7 q7x6 cl6 tC6⟩) (all_cons (fun C hC => by cases uniq_of uC8 hC; exact ⟨ec_mk cl8 hg8 hk8 bC8 dC8 ha8 hn ht hm8, kit_own rC8 q8x6 cl6 tC6⟩) (all_cons (fun C hC => by cases uniq_of uC9 hC; exact ⟨ec_mk cl9 hg9 hk9 bC9 dC9 ha9 hn ht hm9, kit_own rC9 q9x6 cl6 tC6⟩) (all_cons (fun C hC => by cases uniq_of uC10 hC; exact ⟨ec_mk cl10 hg10 hk10 bC10 dC10 ha10 hn ht hm10, kit_own rC10 q10x6 cl6 tC6⟩) (all_cons (fun C hC => by cases uniq_of uC11 hC; exact ⟨ec_mk cl11 hg11 hk11 bC11 dC11 ha11 hn ht hm11, kit_own rC11 q11x6 cl6 tC6⟩) (all_cons (fun C hC => by cases uniq_of uC12 hC; exact ⟨ec_mk cl12 hg12 hk12 bC12 dC12 ha12 hn ht hm12, kit_own rC12 q12x6 cl6 tC6⟩) (all_cons (fun C hC => by cases uniq_of uC13 hC; exact ⟨ec_mk cl13 hg13 hk13 bC13 dC13 ha13 hn ht hm13, kit_own rC13 q13x6 cl6 tC6⟩) (all_cons (fun C hC => by cases uniq_of uC14 hC; exact ⟨ec_mk cl14 hg14 hk14 bC14 dC14 ha14 hn ht hm14, kit_own rC14 q14x6 cl6 tC6⟩) (all_cons (fun C hC => by cases uniq_of uC15 hC; exact ⟨ec_mk cl15 hg15 hk15 bC15 dC15 ha15 hn ht hm15, kit_own rC15 q15x6 cl6 tC6⟩) (all_cons (fun C hC => by cases uniq_of uC16 hC; exact ⟨ec_mk cl16 hg16 hk16 bC16 dC16 ha16 hn ht hm16, kit_own rC16 q16x6 cl6 tC6⟩) (all_cons (fun C hC => by cases uniq_of uC17 hC; exact ⟨ec_mk cl17 hg17 hk17 bC17 dC17 ha17 hn ht hm17, kit_own rC17 q17x6 cl6 tC6⟩) (all_cons (fun C hC => by cases uniq_of uC18 hC; exact ⟨ec_mk cl18 hg18 hk18 bC18 dC18 ha18 hn ht hm18, kit_own rC18 q18x6 cl6 tC6⟩) (all_cons (fun C hC => by cases uniq_of uC19 hC; exact ⟨ec_mk cl19 hg19 hk19 bC19 dC19 ha19 hn ht hm19, kit_own rC19 q19x6 cl6 tC6⟩) (all_cons (fun C hC => by cases uniq_of uC20 hC; exact ⟨ec_mk cl20 hg20 hk20 bC20 dC20 ha20 hn ht hm20, kit_own rC20 q20x6 cl6 tC6⟩) (all_cons (fun C hC => by cases uniq_of uC21 hC; exact ⟨ec_mk cl21 hg21 hk21 bC21 dC21 ha21 hn ht hm21, kit_own rC21 q21x6 cl6 tC6⟩) (all_cons (fun C hC => by cases uniq_of uC22 hC; exact ⟨ec_mk cl22 hg22 hk22 bC22 dC22 ha22 hn ht hm22, kit_own rC22 q22x6 cl6 tC6⟩) (all_cons (fun C hC => by cases uniq_of uC23 hC; exact ⟨ec_mk cl23 hg23 hk23 bC23 dC23 ha23 hn ht hm23, kit_own rC23 q23x6 cl6 tC6⟩) (all_cons (fun C hC => by cases uniq_of uC24 hC; exact ⟨ec_mk cl24 hg24 hk24 bC24 dC24 ha24 hn ht hm24, kit_own rC24 q24x6 cl6 tC6⟩) (all_cons (fun C hC => by cases uniq_of uC25 hC; exact ⟨ec_mk cl25 hg25 hk25 bC25 dC25 ha25 hn ht hm25, kit_own rC25 q25x6 cl6 tC6⟩) (all_cons (fun C hC => by cases uniq_of uC26 hC; exact ⟨ec_mk cl26 hg26 hk26 bC26 dC26 ha26 hn ht hm26, kit_own rC26 q26x6 cl6 tC6⟩) (all_cons (fun C hC => by cases uniq_of uC27 hC; exact ⟨ec_mk cl27 hg27 hk27 bC27 dC27 ha27 hn ht hm27, kit_own rC27 q27x6 cl6 tC6⟩) (all_cons (fun C hC => by cases uniq_of uC28 hC; exact ⟨ec_mk cl28 hg28 hk28 bC28 dC28 ha28 hn ht hm28, kit_own rC28 q28x6 cl6 tC6⟩) (all_cons (fun C hC => by cases uniq_of uC29 hC; exact ⟨ec_mk cl29 hg29 hk29 bC29 dC29 ha29 hn ht hm29, kit_own rC29 q29x6 cl6 tC6⟩) (all_nil)))))))))))))))))))))))))))))⟩) (all_cons (fun x e => by cases e; exact ⟨.ref C7, .ref C7, .own _, rfl, (.inl (PySem.W.mg_of X G aC7)), all_cons (fun C hC => by cases uniq_of uC1 hC; exact ⟨ec_mk cl1 hg1 hk1 bC1 dC1 ha1 hn ht hm1, kit_own rC1 q1x7 cl7 tC7⟩) (all_cons (fun C hC => by cases uniq_of uC2 hC; exact ⟨ec_mk cl2 hg2 hk2 bC2 dC2 ha2 hn ht hm2, kit_own rC2 q2x7 cl7 tC7⟩) (all_cons (fun C hC => by cases uniq_of uC3 hC; exact ⟨ec_mk cl3 hg3 hk3 bC3 dC3 ha3 hn ht hm3, kit_own rC3 q3x7 cl7 tC7⟩) (all_cons (fun C hC => by cases uniq_of uC4 hC; exact ⟨ec_mk cl4 hg4 hk4 bC4 dC4 ha4 hn ht hm4, kit_own rC4 q4x7 cl7 tC7⟩) (all_cons (fun C hC => by cases uniq_of uC5 hC; exact ⟨ec_mk cl5 hg5 hk5 bC5 dC5 ha5 hn ht hm5, kit_own rC5 q5x7 cl7 tC7⟩) (all_cons (fun C hC => by cases uniq_of uC6 hC; exact ⟨ec_mk cl6 hg6 hk6 bC6 dC6 ha6 hn ht hm6, kit_own rC6 q6x7 cl7 tC7⟩) (all_cons (fun C hC => by cases uniq_of uC7 hC; exact ⟨ec_mk cl7 hg7 hk7 bC7 dC7 ha7 hn ht hm7, kit_own rC7 rC7 cl7 tC7⟩) (all_cons (fun C hC => by cases uniq_of uC8 hC; exact ⟨ec_mk cl8 hg8 hk8 bC8 dC8 ha8 hn ht hm8, kit_own rC8 q8x7 cl7 tC7⟩) (all_cons (fun C hC => by cases uniq_of uC9 hC; exact ⟨ec_mk cl9 hg9 hk9 bC9 dC9 ha9 hn ht hm9, kit_own rC9 q9x7 cl7 tC7⟩) (all_cons (fun C hC => by cases uniq_of uC10 hC; exact ⟨ec_mk cl10 hg10 hk10 bC10 dC10 ha10 hn ht hm10, kit_own rC10 q10x7 cl7 tC7⟩) (all_cons (fun C hC => by cases uniq_of uC11 hC; exact ⟨ec_mk cl11 hg11 hk11 bC11 dC11 ha11 hn ht hm11, kit_own rC11 q11x7 cl7 tC7⟩) (all_cons (fun C hC => by cases uniq_of uC12 hC; exact ⟨ec_mk cl12 hg12 hk12 bC12 dC12 ha12 hn ht hm12, kit_own rC12 q12x7 cl7 tC7⟩) (all_cons (fun C hC => by cases uniq_of uC13 hC; exact ⟨ec_mk cl13 hg13 hk13 bC13 dC13 ha13 hn ht hm13, kit_own rC13 q13x7 cl7 tC7⟩) (all_cons (fun C hC => by cases uniq_of uC14 hC; exact ⟨ec_mk cl14 hg14 hk14 bC14 dC14 ha14 hn ht hm14, kit_own rC14 q14x7 cl7 tC7⟩) (all_cons (fun C hC => by cases uniq_of uC15 hC; exact ⟨ec_mk cl15 hg15 hk15 bC15 dC15 ha15 hn ht hm15, kit_own rC15 q15x7 cl7 tC7⟩) (all_cons (fun C hC => by cases uniq_of uC16 hC; exact ⟨ec_mk cl16 hg16 hk16 bC16 dC16 ha16 hn ht hm16, kit_own rC16 q16x7 cl7 tC7⟩) (all_cons (fun C hC => by cases uniq_of uC17 hC; exact ⟨ec_mk cl17 hg17 hk17 bC17 dC17 ha17 hn ht hm17, kit_own rC17 q17x7 cl7 tC7⟩) (all_cons (fun C hC => by cases uniq_of uC18 hC; exact ⟨ec_mk cl18 hg18 hk18 bC18 dC18 ha18 hn ht hm18, kit_own rC18 q18x7 cl7 tC7⟩) (all_cons (fun C hC => by cases uniq_of uC19 hC; exact ⟨ec_mk cl19 hg19 hk19 bC19 dC19 ha19 hn ht hm19, kit_own rC19 q19x7 cl7 tC7⟩) (all_cons (fun C hC => by cases uniq_of uC20 hC; exact ⟨ec_mk cl20 hg20 hk20 bC20 dC20 ha20 hn ht hm20, kit_own rC20 q20x7 cl7 tC7⟩) (all_cons (fun C hC => by cases uniq_of uC21 hC; exact ⟨ec_mk cl21 hg21 hk21 bC21 dC21 ha21 hn ht hm21, kit_own rC21 q21x7 cl7 tC7⟩) (all_cons (fun C hC => by cases uniq_of uC22 hC; exact ⟨ec_mk cl22 hg22 hk22 bC22 dC22 ha22 hn ht hm22, kit_own rC22 q22x7 cl7 tC7⟩) (all_cons (fun C hC => by cases uniq_of uC23 hC; exact ⟨ec_mk cl23 hg23 hk23 bC23 dC23 ha23 hn ht hm23, kit_own rC23 q23x7 cl7 tC7⟩) (all_cons (fun C hC => by cases uniq_of uC24 hC; exact ⟨ec_mk cl24 hg24 hk24 bC24 dC24 ha24 hn ht hm24, kit_own rC24 q24x7 cl7 tC7⟩) (all_cons (fun C hC => by cases uniq_of uC25 hC; exact ⟨ec_mk cl25 hg25 hk25 bC25 dC25 ha25 hn ht hm25, kit_own rC25 q25x7 cl7 tC7⟩) (all_cons (fun C hC => by cases uniq_of uC26 hC; exact ⟨ec_mk cl26 hg26 hk26 bC26 dC26 ha26 hn ht hm26, kit_own rC26 q26x7 cl7 tC7⟩) (all_cons (fun C hC => by cases uniq_of uC27 hC; exact ⟨ec_mk cl27 hg27 hk27 bC27 dC27 ha27 hn ht hm27, kit_own rC27 q27x7 cl7 tC7⟩) (all_cons (fun C hC => by cases uniq_of uC28 hC; exact ⟨ec_mk cl28 hg28 hk28 bC28 dC28 ha28 hn ht hm28, kit_own rC28 q28x7 cl7 tC7⟩) (all_cons (fun C hC => by cases uniq_of uC29 hC; exact ⟨ec_mk cl29 hg29 hk29 bC29 dC29 ha29 hn ht hm29, kit_own rC29 q29x7 cl7 tC7⟩) (all_nil)))))))))))))))))))))))))))))⟩) (all_cons (fun x e => by cases e; exact ⟨.ref C8, .ref C8, .own _, rfl, (.inl (PySem.W.mg_of X G aC8)), all_cons (fun C hC => by cases uniq_of uC1 hC; exact ⟨ec_mk cl1 hg1 hk1 bC1 dC1 ha1 hn ht hm1, kit_own rC1 q1x8 cl8 tC8⟩) (all_cons (fun C hC => by cases uniq_of uC2 hC; exact ⟨ec_mk cl2 hg2 hk2 bC2 dC2 ha2 hn ht hm2, kit_own rC2 q2x8 cl8 tC8⟩) (all_cons (fun C hC => by cases uniq_of uC3 hC; exact ⟨ec_mk cl3 hg3 hk3 bC3 dC3 ha3 hn ht hm3, kit_own rC3 q3x8 cl8 tC8⟩) (all_cons (fun C hC => by cases uniq_of uC4 hC; exact ⟨ec_mk cl4 hg4 hk4 bC4 dC4 ha4 hn ht hm4, kit_own rC4 q4x8 cl8 tC8⟩) (all_cons (fun C hC => by cases uniq_of uC5 hC; exact ⟨ec_mk cl5 hg5 hk5 bC5 dC5 ha5 hn ht hm5, kit_own rC5 q5x8 cl8 tC8⟩) (all_cons (fun C hC => by cases uniq_of uC6 hC; exact ⟨ec_mk cl6 hg6 hk6 bC6 dC6 ha6 hn ht hm6, kit_own rC6 q6x8 cl8 tC8⟩) (all_cons (fun C hC => by cases uniq_of uC7 hC; exact ⟨ec_mk cl7 hg7 hk7 bC7 dC7 ha7 hn ht hm7, kit_own rC7 q7x8 cl8 tC8⟩) (all_cons (fun C hC => by cases uniq_of uC8 hC; exact ⟨ec_mk cl8 hg8 hk8 bC8 dC8 ha8 hn ht hm8, kit_own rC8 rC8 cl8 tC8⟩) (all_cons (fun C hC => by cases uniq_of uC9 hC; exact ⟨ec_mk cl9 hg9 hk9 bC9 dC9 ha9 hn ht hm9, kit_own rC9 q9x8 cl8 tC8⟩) (all_cons (fun C hC => by cases uniq_of uC10 hC; exact ⟨ec_mk cl10 hg10 hk10 bC10 dC10 ha10 hn ht hm10, kit_own rC10 q10x8 cl8 tC8⟩) (all_cons (fun C hC => by cases uniq_of uC11 hC; exact ⟨ec_mk cl11 hg11 hk11 bC11 dC11 ha11 hn ht hm11, kit_own rC11 q11x8 cl8 tC8⟩) (all_cons (fun C hC => by cases uniq_of uC12 hC; exact ⟨ec_mk cl12 hg12 hk12 bC12 dC12 ha12 hn ht hm12, kit_own rC12 q12x8 cl8 tC8⟩) (all_cons (fun C hC => by cases uniq_of uC13 hC; exact ⟨ec_mk cl13 hg13 hk13 bC13 dC13 ha13 hn ht hm13, kit_own rC13 q13x8 cl8 tC8⟩) (all_cons (fun C hC => by cases uniq_of uC14 hC; exact ⟨ec_mk cl14 hg14 hk14 bC14 dC14 ha14 hn ht hm14, kit_own rC14 q14x8 cl8 tC8⟩) (all_cons (fun C hC => by cases uniq_of uC15 hC; exact ⟨ec_mk cl15 hg15 hk15 bC15 dC15 ha15 hn ht hm15, kit_own rC15 q15x8 cl8 tC8⟩) (all_cons (fun C hC => by cases uniq_of uC16 hC; exact ⟨ec_mk cl16 hg16 hk16 bC16 dC16 ha16 hn ht hm16, kit_own rC16 q16x8 cl8 tC8⟩) (all_cons (fun C hC => by cases uniq_of uC17 hC; exact ⟨ec_mk cl17 hg17 hk17 bC17 dC17 ha17 hn ht hm17, kit_own rC17 q17x8 cl8 tC8⟩) (all_cons (fun C hC => by cases uniq_of uC18 hC; exact ⟨ec_mk cl18 hg18 hk18 bC18 dC18 ha18 hn ht hm18, kit_own rC18 q18x8 cl8 tC8⟩) (all_cons (fun C hC => by cases uniq_of uC19 hC; exact ⟨ec_mk cl19 hg19 hk19 bC19 dC19 ha19 hn ht hm19, kit_own rC19 q19x8 cl8 tC8⟩) (all_cons (fun C hC => by cases uniq_of uC20 hC; exact ⟨ec_mk cl20 hg20 hk20 bC20 dC20 ha20 hn ht hm20, kit_own rC20 q20x8 cl8 tC8⟩) (all_cons (fun C hC => by cases uniq_of uC21 hC; exact ⟨ec_mk cl21 hg21 hk21 bC21 dC21 ha21 hn ht hm21, kit_own rC21 q21x8 cl8 tC8⟩) (all_cons (fun C hC => by cases uniq_of uC22 hC; exact ⟨ec_mk cl22 hg22 hk22 bC22 dC22 ha22 hn ht hm22, kit_own rC22 q22x8 cl8 tC8⟩) (all_cons (fun C hC => by cases uniq_of uC23 hC; exact ⟨ec_mk cl23 hg23 hk23 bC23 dC23 ha23 hn ht hm23, kit_own rC23 q23x8 cl8 tC8⟩) (all_cons (fun C hC => by cases uniq_of uC24 hC; exact ⟨ec_mk cl24 hg24 hk24 bC24 dC24 ha24 hn ht hm24, kit_own rC24 q24x8 cl8 tC8⟩) (all_cons (fun C hC => by cases uniq_of uC25 hC; exact ⟨ec_mk cl25 hg25 hk25 bC25 dC25 ha25 hn ht hm25, kit_own rC25 q25x8 cl8 tC8⟩) (all_cons (fun C hC => by cases uniq_of uC26 hC; exact ⟨ec_mk cl26 hg26 hk26 bC26 dC26 ha26 hn ht hm26, kit_own rC26 q26x8 cl8 tC8⟩) (all_cons (fun C hC => by cases uniq_of uC27 hC; exact ⟨ec_mk cl27 hg27 hk27 bC27 dC27 ha27 hn ht hm27, kit_own rC27 q27x8 cl8 tC8⟩) (all_cons (fun C hC => by cases uniq_of uC28 hC; exact ⟨ec_mk cl28 hg28 hk28 bC28 dC28 ha28 hn ht hm28, kit_own rC28 q28x8 cl8 tC8⟩) (all_cons (fun C hC => by cases uniq_of uC29 hC; exact ⟨ec_mk cl29 hg29 hk29 bC29 dC29 ha29 hn ht hm29, kit_own rC29 q29x8 cl8 tC8⟩) (all_nil)))))))))))))))))))))))))))))⟩) (all_cons (fun x e => by cases e; exact ⟨.ref C9, .ref C9, .own _, rfl, (.inl (PySem.W.mg_of X G aC9)), all_cons (fun C hC => by cases uniq_of uC1 hC; exact ⟨ec_mk cl1 hg1 hk1 bC1 dC1 ha1 hn ht hm1, kit_own rC1 q1x9 cl9 tC9⟩) (all_cons (fun C hC => by cases uniq_of uC2 hC; exact ⟨ec_mk cl2 hg2 hk2 bC2 dC2 ha2 hn ht hm2, kit_own rC2 q2x9 cl9 tC9⟩) (all_cons (fun C hC => by cases uniq_of uC3 hC; exact ⟨ec_mk cl3 hg3 hk3 bC3 dC3 ha3 hn ht hm3, kit_own rC3 q3x9 cl9 tC9⟩) (all_cons (fun C hC => by cases uniq_of uC4 hC; exact ⟨ec_mk cl4 hg4 hk4 bC4 dC4 ha4 hn ht hm4, kit_own rC4 q4x9 cl9 tC9⟩) (all_cons (fun C hC => by cases uniq_of uC5 hC; exact ⟨ec_mk cl5 hg5 hk5 bC5 dC5 ha5 hn ht hm5, kit_own rC5 q5x9 cl9 tC9⟩) (all_cons (fun C hC => by cases uniq_of uC6 hC; exact ⟨ec_mk cl6 hg6 hk6 bC6 dC6 ha6 hn ht hm6, kit_own rC6 q6x9 cl9 tC9⟩) (all_cons (fun C hC => by cases uniq_of uC7 hC; exact ⟨ec_mk cl7 hg7 hk7 bC7 dC7 ha7 hn ht hm7, kit_own rC7 q7x9 cl9 tC9⟩) (all_cons (fun C hC => by cases uniq_of uC8 hC; exact ⟨ec_mk cl8 hg8 hk8 bC8 dC8 ha8 hn ht hm8, kit_own rC8 q8x9 cl9 tC9⟩) (all_cons (fun C hC => by cases uniq_of uC9 hC; exact ⟨ec_mk cl9 hg9 hk9 bC9 dC9 ha9 hn ht hm9, kit_own rC9 rC9 cl9 tC9⟩) (all_cons (fun C hC => by cases uniq_of uC10 hC; exact ⟨ec_mk cl10 hg10 hk10 bC10 dC10 ha10 hn ht hm10, kit_own rC10 q10x9 cl9 tC9⟩) (all_cons (fun C hC => by cases uniq_of uC11 hC; exact ⟨ec_mk cl11 hg11 hk11 bC11 dC11 ha11 hn ht hm11, kit_own rC11 q11x9 cl9 tC9⟩) (all_cons (fun C hC => by cases uniq_of uC12 hC; exact ⟨ec_mk cl12 hg12 hk12 bC12 dC12 ha12 hn ht hm12, kit_own rC12 q12x9 cl9 tC9⟩) (all_cons (fun C hC => by cases uniq_of uC13 hC; exact ⟨ec_mk cl13 hg13 hk13 bC13 dC13 ha13 hn ht hm13, kit_own rC13 q13x9 cl9 tC9⟩) (all_cons (fun C hC => by cases uniq_of uC14 hC; exact ⟨ec_mk cl14 hg14 hk14 bC14 dC14 ha14 hn ht hm14, kit_own rC14 q14x9 cl9 tC9⟩) (all_cons (fun C hC => by cases uniq_of uC15 hC; exact ⟨ec_mk cl15 hg15 hk15 bC15 dC15 ha15 hn ht hm15, kit_own rC15 q15x9 cl9 tC9⟩) (all_cons (fun C hC => by cases uniq_of uC16 hC; exact ⟨ec_mk cl16 hg16 hk16 bC16 dC16 ha16 hn ht hm16, kit_own rC16 q16x9 cl9 tC9⟩) (all_cons (fun C hC => by cases uniq_of uC17 hC; exact ⟨ec_mk cl17 hg17 hk17 bC17 dC17 ha17 hn ht hm17, kit_own rC17 q17x9 cl9 tC9⟩) (all_cons (fun C hC => by cases uniq_of uC18 hC; exact ⟨ec_mk cl18 hg18 hk18 bC18 dC18 ha18 hn ht hm18, kit_own rC18 q18x9 cl9 tC9⟩) (all_cons (fun C hC => by cases uniq_of uC19 hC; exact ⟨ec_mk cl19 hg19 hk19 bC19 dC19 ha19 hn ht hm19, kit_own rC19 q19x9 cl9 tC9⟩) (all_cons (fun C hC => by cases uniq_of uC20 hC; exact ⟨ec_mk cl20 hg20 hk20 bC20 dC20 ha20 hn ht hm20, kit_own rC20 q20x9 cl9 tC9⟩) (all_cons (fun C hC => by cases uniq_of uC21 hC; exact ⟨ec_mk cl21 hg21 hk21 bC21 dC21 ha21 hn ht hm21, kit_own rC21 q21x9 cl9 tC9⟩) (all_cons (fun C hC => by cases uniq_of uC22 hC; exact ⟨ec_mk cl22 hg22 hk22 bC22 dC22 ha22 hn ht hm22, kit_own rC22 q22x9 cl9 tC9⟩) (all_cons (fun C hC => by cases uniq_of uC23 hC; exact ⟨ec_mk cl23 hg23 hk23 bC23 dC23 ha23 hn ht hm23, kit_own rC23 q23x9 cl9 tC9⟩) (all_cons (fun C hC => by cases uniq_of uC24 hC; exact ⟨ec_mk cl24 hg24 hk24 bC24 dC24 ha24 hn ht hm24, kit_own rC24 q24x9 cl9 tC9⟩) (all_cons (fun C hC => by cases uniq_of uC25 hC; exact ⟨ec_mk cl25 hg25 hk25 bC25 dC25 ha25 hn ht hm25, kit_own rC25 q25x9 cl9 tC9⟩) (all_cons (fun C hC => by cases uniq_of uC26 hC; exact ⟨ec_mk cl26 hg26 hk26 bC26 dC26 ha26 hn ht hm26, kit_own rC26 q26x9 cl9 tC9⟩) (all_cons (fun C hC => by cases uniq_of uC27 hC; exact ⟨ec_mk cl27 hg27 hk27 bC27 dC27 ha27 hn ht hm27, kit_own rC27 q27x9 cl9 tC9⟩) (all_cons (fun C hC => by cases uniq_of uC28 hC; exact ⟨ec_mk cl28 hg28 hk28 bC28 dC28 ha28 hn ht hm28, kit_own rC28 q28x9 cl9 tC9⟩) (all_cons (fun C hC => by cases uniq_of uC29 hC; exact ⟨ec_mk cl29 hg29 hk29 bC29 dC29 ha29 hn ht hm29, kit_own rC29 q29x9 cl9 tC9⟩) (all_nil)))))))))))))))))))))))))))))⟩) (all_cons (fun x e => by cases e; exact ⟨.ref C10, .ref C10, .own _, rfl, (.inl (PySem.W.mg_of X G aC10)), all_cons (fun C hC => by cases uniq_of uC1 hC; exact ⟨ec_mk cl1 hg1 hk1 bC1 dC1 ha1 hn ht hm1, kit_own rC1 q1x10 cl10 tC10⟩) (all_cons (fun C hC => by cases uniq_of uC2 hC; exact ⟨ec_mk cl2 hg2 hk2 bC2 dC2 ha2 hn ht hm2, kit_own rC2 q2x10 cl10 tC10⟩) (all_cons (fun C hC => by cases uniq_of uC3 hC; exact ⟨ec_mk cl3 hg3 hk3 bC3 dC3 ha3 hn ht hm3, kit_own rC3 q3x10 cl10 tC10⟩) (all_cons (fun C hC => by cases uniq_of uC4 hC; exact ⟨ec_mk cl4 hg4 hk4 bC4 dC4 ha4 hn ht hm4, kit_own rC4 q4x10 cl10 tC10⟩) (all_cons (fun C hC => by cases uniq_of uC5 hC; exact ⟨ec_mk cl5 hg5 hk5 bC5 dC5 ha5 hn ht hm5, kit_own rC5 q5x10 cl10 tC10⟩) (all_cons (fun C hC => by cases uniq_of uC6 hC; exact ⟨ec_mk cl6 hg6 hk6 bC6 dC6 ha6 hn ht hm6, kit_own rC6 q6x10 cl10 tC10⟩) (all_cons (fun C hC => by cases uniq_of uC7 hC; exact ⟨ec_mk cl7 hg7 hk7 bC7 dC7 ha7 hn ht hm7, kit_own rC7 q7x10 cl10 tC10⟩) (all_cons (fun C hC => by cases uniq_of uC8 hC; exact ⟨ec_mk cl8 hg8 hk8 bC8 dC8 ha8 hn ht hm8, kit_own rC8 q8x10 cl10 tC10⟩) (all_cons (fun C hC => by cases uniq_of uC9 hC; exact ⟨ec_mk cl9 hg9 hk9 bC9 dC9 ha9 hn ht hm9, kit_own rC9 q9x10 cl10 tC10⟩) (all_cons (fun C hC => by cases uniq_of uC10 hC; exact ⟨ec_mk cl10 hg10 hk10 bC10 dC10 ha10 hn ht hm10, kit_own rC10 rC10 cl10 tC10⟩) (all_cons (fun C hC => by cases uniq_of uC11 hC; exact ⟨ec_mk cl11 hg11 hk11 bC11 dC11 ha11 hn ht hm11, kit_own rC11 q11x10 cl10 tC10⟩) (all_cons (fun C hC => by cases uniq_of uC12 hC; exact ⟨ec_mk cl12 hg12 hk12 bC12 dC12 ha12 hn ht hm12, kit_own rC12 q12x10 cl10 tC10⟩) (all_cons (fun C hC => by cases uniq_of uC13 hC; exact ⟨ec_mk cl13 hg13 hk13 bC13 dC13 ha13 hn ht hm13, kit_own rC13 q13x10 cl10 tC10⟩) (all_cons (fun C hC => by cases uniq_of uC14 hC; exact ⟨ec_mk cl14 hg14 hk14 bC14 dC14 ha14 hn ht hm14, kit_own rC14 q14x10 cl10 tC10⟩) (all_cons (fun C hC => by cases uniq_of uC15 hC; exact ⟨ec_mk cl15 hg15 hk15 bC15 dC15 ha15 hn ht hm15, kit_own rC15 q15x10 cl10 tC10⟩) (all_cons (fun C hC => by cases uniq_of uC16 hC; exact ⟨ec_mk cl16 hg16 hk16 bC16 dC16 ha16 hn ht hm16, kit_own rC16 q16x10 cl10 tC10⟩) (all_cons (fun C hC => by cases uniq_of uC17 hC; exact ⟨ec_mk cl17 hg17 hk17 bC17 dC17 ha17 hn ht hm17, kit_own rC17 q17x10 cl10 tC10⟩) (all_cons (fun C hC => by cases uniq_of uC18 hC; exact ⟨ec_mk cl18 hg18 hk18 bC18 dC18 ha18 hn ht hm18, kit_own rC18 q18x10 cl10 tC10⟩) (all_cons (fun C hC => by cases uniq_of uC19 hC; exact ⟨ec_mk cl19 hg19 hk19 bC19 dC19 ha19 hn ht hm19, kit_own rC19 q19x10 cl10 tC10⟩) (all_cons (fun C hC => by cases uniq_of uC20 hC; exact ⟨ec_mk cl20 hg20 hk20 bC20 dC20 ha20 hn ht hm20, kit_own rC20 q20x10 cl10 tC10⟩) (all_cons (fun C hC => by cases uniq_of uC21 hC; exact ⟨ec_mk cl21 hg21 hk21 bC21 dC21 ha21 hn ht hm21, kit_own rC21 q21x10 cl10 tC10⟩) (all_cons (fun C hC => by cases uniq_of uC22 hC; exact ⟨ec_mk cl22 hg22 hk22 bC22 dC22 ha22 hn ht hm22, kit_own rC22 q22x10 cl10 tC10⟩) (all_cons (fun C hC => by cases uniq_of uC23 hC; exact ⟨ec_mk cl23 hg23 hk23 bC23 dC23 ha23 hn ht hm23, kit_own rC23 q23x10 cl10 tC10⟩) (all_cons (fun C hC => by cases uniq_of uC24 hC; exact ⟨ec_mk cl24 hg24 hk24 bC24 dC24 ha24 hn ht hm24, kit_own rC24 q24x10 cl10 tC10⟩) (all_cons (fun C hC => by cases uniq_of uC25 hC; exact ⟨ec_mk cl25 hg25 hk25 bC25 dC25 ha25 hn ht hm25, kit_own rC25 q25x10 cl10 tC10⟩) (all_cons (fun C hC => by cases uniq_of uC26 hC; exact ⟨ec_mk cl26 hg26 hk26 bC26 dC26 ha26 hn ht hm26, kit_own rC26 q26x10 cl10 tC10⟩) (all_cons (fun C hC => by cases uniq_of uC27 hC; exact ⟨ec_mk cl27 hg27 hk27 bC27 dC27 ha27 hn ht hm27, kit_own rC27 q27x10 cl10 tC10⟩) (all_cons (fun C hC => by cases uniq_of uC28 hC; exact ⟨ec_mk cl28 hg28 hk28 bC28 dC28 ha28 hn ht hm28, kit_own rC28 q28x10 cl10 tC10⟩) (all_cons (fun C hC => by cases uniq_of uC29 hC; exact ⟨ec_mk cl29 hg29 hk29 bC29 dC29 ha29 hn ht hm29, kit_own rC29 q29x10 cl10 tC10⟩) (all_nil)))))))))))))))))))))))))))))⟩) (all_cons (fun x e => by cases e; exact ⟨.ref C11, .ref C11, .own _, rfl, (.inl (PySem.W.mg_of X G aC11)), all_cons (fun C hC => by cases uniq_of uC1 hC; exact ⟨ec_mk cl1 hg1 hk1 bC1 dC1 ha1 hn ht hm1, kit_own rC1 q1x11 cl11 tC11⟩) (all_cons (fun C hC => by cases uniq_of uC2 hC; exact ⟨ec_mk cl2 hg2 hk2 bC2 dC2 ha2 hn ht hm2, kit_own rC2 q2x11 cl11 tC11⟩) (all_cons (fun C hC => by cases uniq_of uC3 hC; exact ⟨ec_mk cl3 hg3 hk3 bC3 dC3 ha3 hn ht hm3, kit_own rC3 q3x11 cl11 tC11⟩) (all_cons (fun C hC => by cases uniq_of uC4 hC; exact ⟨ec_mk cl4 hg4 hk4 bC4 dC4 ha4 hn ht hm4, kit_own rC4 q4x11 cl11 tC11⟩) (all_cons (fun C hC => by cases uniq_of uC5 hC; exact ⟨ec_mk cl5 hg5 hk5 bC5 dC5 ha5 hn ht hm5, kit_own rC5 q5x11 cl11 tC11⟩) (all_cons (fun C hC => by cases uniq_of uC6 hC; exact ⟨ec_mk cl6 hg6 hk6 bC6 dC6 ha6 hn ht hm6, kit_own rC6 q6x11 cl11 tC11⟩) (all_cons (fun C hC => by cases uniq_of uC7 hC; exact ⟨ec_mk cl7 hg7 hk7 bC7 dC7 ha7 hn ht hm7, kit_own rC7 q7x11 cl11 tC11⟩) (all_cons (fun C hC => by cases uniq_of uC8 hC; exact ⟨ec_mk cl8 hg8 hk8 bC8 dC8 ha8 hn ht hm8, kit_own rC8 q8x11 cl11 tC11⟩) (all_cons (fun C hC => by cases uniq_of uC9 hC; exact ⟨ec_mk cl9 hg9 hk9 bC9 dC9 ha9 hn ht hm9, kit_own rC9 q9x11 cl11 tC11⟩) (all_cons (fun C hC => by cases uniq_of uC10 hC; exact ⟨ec_mk cl10 hg10 hk10 bC10 dC10 ha10 hn ht hm10, kit_own rC10 q10x11 cl11 tC11⟩) (all_cons (fun C hC => by cases uniq_of uC11 hC; exact ⟨ec_mk cl11 hg11 hk11 bC11 dC11 ha11 hn ht hm11, kit_own rC11 rC11 cl11 tC11⟩) (all_cons (fun C hC => by cases uniq_of uC12 hC; exact ⟨ec_mk cl12 hg12 hk12 bC12 dC12 ha12 hn ht hm12, kit_own rC12 q12x11 cl11 tC11⟩) (all_cons (fun C hC => by cases uniq_of uC13 hC; exact ⟨ec_mk cl13 hg13 hk13 bC13 dC13 ha13 hn ht hm13, kit_own rC13 q13x11 cl11 tC11⟩) (all_cons (fun C hC => by cases uniq_of uC14 hC; exact ⟨ec_mk cl14 hg14 hk14 bC14 dC14 ha14 hn ht hm14, kit_own rC14 q14x11 cl11 tC11⟩) (all_cons (fun C hC => by cases uniq_of uC15 hC; exact ⟨ec_mk cl15 hg15 hk15 bC15 dC15 ha15 hn ht hm15, kit_own rC15 q15x11 cl11 tC11⟩) (all_cons (fun C hC => by cases uniq_of uC16 hC; exact ⟨ec_mk cl16 hg16 hk16 bC16 dC16 ha16 hn ht hm16, kit_own rC16 q16x11 cl11 tC11⟩) (all_cons (fun C hC => by cases uniq_of uC17 hC; exact ⟨ec_mk cl17 hg17 hk17 bC17 dC17 ha17 hn ht hm17, kit_own rC17 q17x11 cl11 tC11⟩) (all_cons (fun C hC => by cases uniq_of uC18 hC; exact ⟨ec_mk cl18 hg18 hk18 bC18 dC18 ha18 hn ht hm18, kit_own rC18 q18x11 cl11 tC11⟩) (all_cons (fun C hC => by cases uniq_of uC19 hC; exact ⟨ec_mk cl19 hg19 hk19 bC19 dC19 ha19 hn ht hm19, kit_own rC19 q19x11 cl11 tC11⟩) (all_cons (fun C hC => by cases uniq_of uC20 hC; exact ⟨ec_mk cl20 hg20 hk20 bC20 dC20 ha20 hn ht hm20, kit_own rC20 q20x11 cl11 tC11⟩) (all_cons (fun C hC => by cases uniq_of uC21 hC; exact ⟨ec_mk cl21 hg21 hk21 bC21 dC21 ha21 hn ht hm21, kit_own rC21 q21x11 cl11 tC11⟩) (all_cons (fun C hC => by cases uniq_of uC22 hC; exact ⟨ec_mk cl22 hg22 hk22 bC22 dC22 ha22 hn ht hm22, kit_own rC22 q22x11 cl11 tC11⟩) (all_cons (fun C hC => by cases uniq_of uC23 hC; exact ⟨ec_mk cl23 hg23 hk23 bC23 dC23 ha23 hn ht hm23, kit_own rC23 q23x11 cl11 tC11⟩) (all_cons (fun C hC => by cases uniq_of uC24 hC; exact ⟨ec_mk cl24 hg24 hk24 bC24 dC24 ha24 hn ht hm24, kit_own rC24 q24x11 cl11 tC11⟩) (all_cons (fun C hC => by cases uniq_of uC25 hC; exact ⟨ec_mk cl25 hg25 hk25 bC25 dC25 ha25 hn ht hm25, kit_own rC25 q25x11 cl11 tC11⟩) (all_cons (fun C hC => by cases uniq_of uC26 hC; exact ⟨ec_mk cl26 hg26 hk26 bC26 dC26 ha26 hn ht hm26, kit_own rC26 q26x11 cl11 tC11⟩) (all_cons (fun C hC => by cases uniq_of uC27 hC; exact ⟨ec_mk cl27 hg27 hk27 bC27 dC27 ha27 hn ht hm27, kit_own rC27 q27x11 cl11 tC11⟩) (all_cons (fun C hC => by cases uniq_of uC28 hC; exact ⟨ec_mk cl28 hg28 hk28 bC28 dC28 ha28 hn ht hm28, kit_own rC28 q28x11 cl11 tC11⟩) (all_cons (fun C hC => by cases uniq_of uC29 hC; exact ⟨ec_mk cl29 hg29 hk29 bC29 dC29 ha29 hn ht hm29, kit_own rC29 q29x11 cl11 tC11⟩) (all_nil)))))))))))))))))))))))))))))⟩) (all_cons (fun x e => by cases e; exact ⟨.ref C12, .ref C12, .own _, rfl, (.inl (PySem.W.mg_of X G aC12)), all_cons (fun C hC => by cases uniq_of uC1 hC; exact ⟨ec_mk cl1 hg1 hk1 bC1 dC1 ha1 hn ht hm1, kit_own rC1 q1x12 cl12 tC12⟩) (all_cons (fun C hC => by cases uniq_of uC2 hC; exact ⟨ec_mk cl2 hg2 hk2 bC2 dC2 ha2 hn ht hm2, kit_own rC2 q2x12 cl12 tC12⟩) (all_cons (fun C hC => by cases uniq_of uC3 hC; exact ⟨ec_mk cl3 hg3 hk3 bC3 dC3 ha3 hn ht hm3, kit_own rC3 q3x12 cl12 tC12⟩) (all_cons (fun C hC => by cases uniq_of uC4 hC; exact ⟨ec_mk cl4 hg4 hk4 bC4 dC4 ha4 hn ht hm4, kit_own rC4 q4x12 cl12 tC12⟩) (all_cons (fun C hC => by cases uniq_of uC5 hC; exact ⟨ec_mk cl5 hg5 hk5 bC5 dC5 ha5 hn ht hm5, kit_own rC5 q5x12 cl12 tC12⟩) (all_cons (fun C hC => by cases uniq_of uC6 hC; exact ⟨ec_mk cl6 hg6 hk6 bC6 dC6 ha6 hn ht hm6, kit_own rC6 q6x12 cl12 tC12⟩) (all_cons (fun C hC => by cases uniq_of uC7 hC; exact ⟨ec_mk cl7 hg7 hk7 bC7 dC7 ha7 hn ht hm7, kit_own rC7 q7x12 cl12 tC12⟩) (all_cons (fun C hC => by cases uniq_of uC8 hC; exact ⟨ec_mk cl8 hg8 hk8 bC8 dC8 ha8 hn ht hm8, kit_own rC8 q8x12 cl12 tC12⟩) (all_cons (fun C hC => by cases uniq_of uC9 hC; exact ⟨ec_mk cl9 hg9 hk9 bC9 dC9 ha9 hn ht hm9, kit_own rC9 q9x12 cl12 tC12⟩) (all_cons (fun C hC => by cases uniq_of uC10 hC; exact ⟨ec_mk cl10 hg10 hk10 bC10 dC10 ha10 hn ht hm10, kit_own rC10 q10x12 cl12 tC12⟩) (all_cons (fun C hC => by cases uniq_of uC11 hC; exact ⟨ec_mk cl11 hg11 hk11 bC11 dC11 ha11 hn ht hm11, kit_own rC11 q11x12 cl12 tC12⟩) (all_cons (fun C hC => by cases uniq_of uC12 hC; exact ⟨ec_mk cl12 hg12 hk12 bC12 dC12 ha12 hn ht hm12, kit_own rC12 rC12 cl12 tC12⟩) (all_cons (fun C hC => by cases uniq_of uC13 hC; exact ⟨ec_mk cl13 hg13 hk13 bC13 dC13 ha13 hn ht hm13, kit_own rC13 q13x12 cl12 tC12⟩) (all_cons (fun C hC => by cases uniq_of uC14 hC; exact ⟨ec_mk cl14 hg14 hk14 bC14 dC14 ha14 hn ht hm14, kit_own rC14 q14x12 cl12 tC12⟩) (all_cons (fun C hC => by cases uniq_of uC15 hC; exact ⟨ec_mk cl15 hg15 hk15 bC15 dC15 ha15 hn ht hm15, kit_own rC15 q15x12 cl12 tC12⟩) (all_cons (fun C hC => by cases uniq_of uC16 hC; exact ⟨ec_mk cl16 hg16 hk16 bC16 dC16 ha16 hn ht hm16, kit_own rC16 q16x12 cl12 tC12⟩) (all_cons (fun C hC => by cases uniq_of uC17 hC; exact ⟨ec_mk cl17 hg17 hk17 bC17 dC17 ha17 hn ht hm17, kit_own rC17 q17x12 cl12 tC12⟩) (all_cons (fun C hC => by cases uniq_of uC18 hC; exact ⟨ec_mk cl18 hg18 hk18 bC18 dC18 ha18 hn ht hm18, kit_own rC18 q18x12 cl12 tC12⟩) (all_cons (fun C hC => by cases uniq_of uC19 hC; exact ⟨ec_mk cl19 hg19 hk19 bC19 dC19 ha19 hn ht hm19, kit_own rC19 q19x12 cl12 tC12⟩) (all_cons (fun C hC => by cases uniq_of uC20 hC; exact ⟨ec_mk cl20 hg20 hk20 bC20 dC20 ha20 hn ht hm20, kit_own rC20 q20x12 cl12 tC12⟩) (all_cons (fun C hC => by cases uniq_of uC21 hC; exact ⟨ec_mk cl21 hg21 hk21 bC21 dC21 ha21 hn ht hm21, kit_own rC21 q21x12 cl12 tC12⟩) (all_cons (fun C hC => by cases uniq_of uC22 hC; exact ⟨ec_mk cl22 hg22 hk22 bC22 dC22 ha22 hn ht hm22, kit_own rC22 q22x12 cl12 tC12⟩) (all_cons (fun C hC => by cases uniq_of uC23 hC; exact ⟨ec_mk cl23 hg23 hk23 bC23 dC23 ha23 hn ht hm23, kit_own rC23 q23x12 cl12 tC12⟩) (all_cons (fun C hC => by cases uniq_of uC24 hC; exact ⟨ec_mk cl24 hg24 hk24 bC24 dC24 ha24 hn ht hm24, kit_own rC24 q24x12 cl12 tC12⟩) (all_cons (fun C hC => by cases uniq_of uC25 hC; exact ⟨ec_mk cl25 hg25 hk25 bC25 dC25 ha25 hn ht hm25, kit_own rC25 q25x12 cl12 tC12⟩) (all_cons (fun C hC => by cases uniq_of uC26 hC; exact ⟨ec_mk cl26 hg26 hk26 bC26 dC26 ha26 hn ht hm26, kit_own rC26 q26x12 cl12 tC12⟩) (all_cons (fun C hC => by cases uniq_of uC27 hC; exact ⟨ec_mk cl27 hg27 hk27 bC27 dC27 ha27 hn ht hm27, kit_own rC27 q27x12 cl12 tC12⟩) (all_cons (fun C hC => by cases uniq_of uC28 hC; exact ⟨ec_mk cl28 hg28 hk28 bC28 dC28 ha28 hn ht hm28, kit_own rC28 q28x12 cl12 tC12⟩) (all_cons (fun C hC => by cases uniq_of uC29 hC; exact ⟨ec_mk cl29 hg29 hk29 bC29 dC29 ha29 hn ht hm29, kit_own rC29 q29x12 cl12 tC12⟩) (all_nil)))))))))))))))))))))))))))))⟩) (all_cons (fun x e => by cases e; exact ⟨.ref C13, .ref C13, .own _, rfl, (.inl (PySem.W.mg_of X G aC13)), all_cons (fun C hC => by cases uniq_of uC1 hC; exact ⟨ec_mk cl1 hg1 hk1 bC1 dC1 ha1 hn ht hm1, kit_own rC1 q1x13 cl13 tC13⟩) (all_cons (fun C hC => by cases uniq_of uC2 hC; exact ⟨ec_mk cl2 hg2 hk2 bC2 dC2 ha2 hn ht hm2, kit_own rC2 q2x13 cl13 tC13⟩) (all_cons (fun C hC => by cases uniq_of uC3 hC; exact ⟨ec_mk cl3 hg3 hk3 bC3 dC3 ha3 hn ht hm3, kit_own rC3 q3x13 cl13 tC13⟩) (all_cons (fun C hC => by cases uniq_of uC4 hC; exact ⟨ec_mk cl4 hg4 hk4 bC4 dC4 ha4 hn ht hm4, kit_own rC4 q4x13 cl13 tC13⟩) (all_cons (fun C hC => by cases uniq_of uC5 hC; exact ⟨ec_mk cl5 hg5 hk5 bC5 dC5 ha5 hn ht hm5, kit_own rC5 q5x13 cl13 tC13⟩) (all_cons (fun C hC => by cases uniq_of uC6 hC; exact ⟨ec_mk cl6 hg6 hk6 bC6 dC6 ha6 hn ht hm6, kit_own rC6 q6x13 cl13 tC13⟩) (all_cons (fun C hC => by cases uniq_of uC7 hC; exact ⟨ec_mk cl7 hg7 hk7 bC7 dC7 ha7 hn ht hm7, kit_own rC7 q7x13 cl13 tC13⟩) (all_cons (fun C hC => by cases uniq_of uC8 hC; exact ⟨ec_mk cl8 hg8 hk8 bC8 dC8 ha8 hn ht hm8, kit_own rC8 q8x13 cl13 tC13⟩) (all_cons (fun C hC => by cases uniq_of uC9 hC; exact ⟨ec_mk cl9 hg9 hk9 bC9 dC9 ha9 hn ht hm9, kit_own rC9 q9x13 cl13 tC13⟩) (all_cons (fun C hC => by cases uniq_of uC10 hC; exact ⟨ec_mk cl10 hg10 hk10 bC10 dC10 ha10 hn ht hm10, kit_own rC10 q10x13 cl13 tC13⟩) (all_cons (fun C hC => by cases uniq_of uC11 hC; exact ⟨ec_mk cl11 hg11 hk11 bC11 dC11 ha11 hn ht hm11, kit_own rC11 q11x13 cl13 tC13⟩) (all_cons (fun C hC => by cases uniq_of uC12 hC; exact ⟨ec_mk cl12 hg12 hk12 bC12 dC12 ha12 hn ht hm12, kit_own rC12 q12x13 cl13 tC13⟩) (all_cons (fun C hC => by cases uniq_of uC13 hC; exact ⟨ec_mk cl13 hg13 hk13 bC13 dC13 ha13 hn ht hm13, kit_own rC13 rC13 cl13 tC13⟩) (all_cons (fun C hC => by cases uniq_of uC14 hC; exact ⟨ec_mk cl14 hg14 hk14 bC14 dC14 ha14 hn ht hm14, kit_own rC14 q14x13 cl13 tC13⟩) (all_cons (fun C hC => by cases uniq_of uC15 hC; exact ⟨ec_mk cl15 hg15 hk15 bC15 dC15 ha15 hn ht hm15, kit_own rC15 q15x13 cl13 tC13⟩) (all_cons (fun C hC => by cases uniq_of uC16 hC; exact ⟨ec_mk cl16 hg16 hk16 bC16 dC16 ha16 hn ht hm16, kit_own rC16 q16x13 cl13 tC13⟩) (all_cons (fun C hC => by cases uniq_of uC17 hC; exact ⟨ec_mk cl17 hg17 hk17 bC17 dC17 ha17 hn ht hm17, kit_own rC17 q17x13 cl13 tC13⟩) (all_cons (fun C hC => by cases uniq_of uC18 hC; exact ⟨ec_mk cl18 hg18 hk18 bC18 dC18 ha18 hn ht hm18, kit_own rC18 q18x13 cl13 tC13⟩) (all_cons (fun C hC => by cases uniq_of uC19 hC; exact ⟨ec_mk cl19 hg19 hk19 bC19 dC19 ha19 hn ht hm19, kit_own rC19 q19x13 cl13 tC13⟩) (all_cons (fun C hC => by cases uniq_of uC20 hC; exact ⟨ec_mk cl20 hg20 hk20 bC20 dC20 ha20 hn ht hm20, kit_own rC20 q20x13 cl13 tC13⟩) (all_cons (fun C hC => by cases uniq_of uC21 hC; exact ⟨ec_mk cl21 hg21 hk21 bC21 dC21 ha21 hn ht hm21, kit_own rC21 q21x13 cl13 tC13⟩) (all_cons (fun C hC => by cases uniq_of uC22 hC; exact ⟨ec_mk cl22 hg22 hk22 bC22 dC22 ha22 hn ht hm22, kit_own rC22 q22x13 cl13 tC13⟩) (all_cons (fun C hC => by cases uniq_of uC23 hC; exact ⟨ec_mk cl23 hg23 hk23 bC23 dC23 ha23 hn ht hm23, kit_own rC23 q23x13 cl13 tC13⟩) (all_cons (fun C hC => by cases uniq_of uC24 hC; exact ⟨ec_mk cl24 hg24 hk24 bC24 dC24 ha24 hn ht hm24, kit_own rC24 q24x13 cl13 tC13⟩) (all_cons (fun C hC => by cases uniq_of uC25 hC; exact ⟨ec_mk cl25 hg25 hk25 bC25 dC25 ha25 hn ht hm25, kit_own rC25 q25x13 cl13 tC13⟩) (all_cons (fun C hC => by cases uniq_of uC26 hC; exact ⟨ec_mk cl26 hg26 hk26 bC26 dC26 ha26 hn ht hm26, kit_own rC26 q26x13 cl13 tC13⟩) (all_cons (fun C hC => by cases uniq_of uC27 hC; exact ⟨ec_mk cl27 hg27 hk27 bC27 dC27 ha27 hn ht hm27, kit_own rC27 q27x13 cl13 tC13⟩) (all_cons (fun C hC => by cases uniq_of uC28 hC; exact ⟨ec_mk cl28 hg28 hk28 bC28 dC28 ha28 hn ht hm28, kit_own rC28 q28x13 cl13 tC13⟩) (all_cons (fun C hC => by cases uniq_of uC29 hC; exact ⟨ec_mk cl29 hg29 hk29 bC29 dC29 ha29 hn ht hm29, kit_own rC29 q29x13 cl13 tC13⟩) (all_nil)))))))))))))))))))))))))))))⟩) (all_cons (fun x e => by cases e; exact ⟨.ref C14, .ref C14, .own _, rfl, (.inl (PySem.W.mg_of X G aC14)), all_cons (fun C hC => by cases uniq_of uC1 hC; exact ⟨ec_mk cl1 hg1 hk1 bC1 dC1 ha1 hn ht hm1, kit_own rC1 q1x14 cl14 tC14⟩) (all_cons (fun C hC => by cases uniq_of uC2 hC; exact ⟨ec_mk cl2 hg2 hk2 bC2 dC2 ha2 hn ht hm2, kit_own rC2 q2x14 cl14 tC14⟩) (all_cons (fun C hC => by cases uniq_of uC3 hC; exact ⟨ec_mk cl3 hg3 hk3 bC3 dC3 ha3 hn ht hm3, kit_own rC3 q3x14 cl14 tC14⟩) (all_cons (fun C hC => by cases uniq_of uC4 hC; exact ⟨ec_mk cl4 hg4 hk4 bC4 dC4 ha4 hn ht hm4, kit_own rC4 q4x14 cl14 tC14⟩) (all_cons (fun C hC => by cases uniq_of uC5 hC; exact ⟨ec_mk cl5 hg5 hk5 bC5 dC5 ha5 hn ht hm5, kit_own rC5 q5x14 cl14 tC14⟩) (all_cons (fun C hC => by cases uniq_of uC6 hC; exact ⟨ec_mk cl6 hg6 hk6 bC6 dC6 ha6 hn ht hm6, kit_own rC6 q6x14 cl14 tC14⟩) (all_cons (fun C hC => by cases uniq_of uC7 hC; exact ⟨ec_mk cl7 hg7 hk7 bC7 dC7 ha7 hn ht hm7, kit_own rC7 q7x14 cl14 tC14⟩) (all_cons (fun C hC => by cases uniq_of uC8 hC; exact ⟨ec_mk cl8 hg8 hk8 bC8 dC8 ha8 hn ht hm8, kit_own rC8 q8x14 cl14 tC14⟩) (all_cons (fun C hC => by cases uniq_of uC9 hC; exact ⟨ec_mk cl9 hg9 hk9 bC9 dC9 ha9 hn ht hm9, kit_own rC9 q9x14 cl14 tC14⟩) (all_cons (fun C hC => by cases uniq_of uC10 hC; exact ⟨ec_mk cl10 hg10 hk10 bC10 dC10 ha10 hn ht hm10, kit_own rC10 q10x14 cl14 tC14⟩) (all_cons (fun C hC => by cases uniq_of uC11 hC; exact ⟨ec_mk cl11 hg11 hk11 bC11 dC11 ha11 hn ht hm11, kit_own rC11 q11x14 cl14 tC14⟩) (all_cons (fun C hC => by cases uniq_of uC12 hC; exact ⟨ec_mk cl12 hg12 hk12 bC12 dC12 ha12 hn ht hm12, kit_own rC12 q12x14 cl14 tC14⟩) (all_cons (fun C hC => by cases uniq_of uC13 hC; exact ⟨ec_mk cl13 hg13 hk13 bC13 dC13 ha13 hn ht hm13, kit_own rC13 q13x14 cl14 tC14⟩) (all_cons (fun C hC => by cases uniq_of uC14 hC; exact ⟨ec_mk cl14 hg14 hk14 bC14 dC14 ha14 hn ht hm14, kit_own rC14 rC14 cl14 tC14⟩) (all_cons (fun C hC => by cases uniq_of uC15 hC; exact ⟨ec_mk cl15 hg15 hk15 bC15 dC15 ha15 hn ht hm15, kit_own rC15 q15x14 cl14 tC14⟩) (all_cons (fun C hC => by cases uniq_of uC16 hC; exact ⟨ec_mk cl16 hg16 hk16 bC16 dC16 ha16 hn ht hm16, kit_own rC16 q16x14 cl14 tC14⟩) (all_cons (fun C hC => by cases uniq_of uC17 hC; exact ⟨ec_mk cl17 hg17 hk17 bC17 dC17 ha17 hn ht hm17, kit_own rC17 q17x14 cl14 tC14⟩) (all_cons (fun C hC => by cases uniq_of uC18 hC; exact ⟨ec_mk cl18 hg18 hk18 bC18 dC18 ha18 hn ht hm18, kit_own rC18 q18x14 cl14 tC14⟩) (all_cons (fun C hC => by cases uniq_of uC19 hC; exact ⟨ec_mk cl19 hg19 hk19 bC19 dC19 ha19 hn ht hm19, kit_own rC19 q19x14 cl14 tC14⟩) (all_cons (fun C hC => by cases uniq_of uC20 hC; exact ⟨ec_mk cl20 hg20 hk20 bC20 dC20 ha20 hn ht hm20, kit_own rC20 q20x14 cl14 tC14⟩) (all_cons (fun C hC => by cases uniq_of uC21 hC; exact ⟨ec_mk cl21 hg21 hk21 bC21 dC21 ha21 hn ht hm21, kit_own rC21 q21x14 cl14 tC14⟩) (all_cons (fun C hC => by cases uniq_of uC22 hC; exact ⟨ec_mk cl22 hg22 hk22 bC22 dC22 ha22 hn ht hm22, kit_own rC22 q22x14 cl14 tC14⟩) (all_cons (fun C hC => by cases uniq_of uC23 hC; exact ⟨ec_mk cl23 hg23 hk23 bC23 dC23 ha23 hn ht hm23, kit_own rC23 q23x14 cl14 tC14⟩) (all_cons (fun C hC => by cases uniq_of uC24 hC; exact ⟨ec_mk cl24 hg24 hk24 bC24 dC24 ha24 hn ht hm24, kit_own rC24 q24x14 cl14 tC14⟩) (all_cons (fun C hC => by cases uniq_of uC25 hC; exact ⟨ec_mk cl25 hg25 hk25 bC25 dC25 ha25 hn ht hm25, kit_own rC25 q25x14 cl14 tC14⟩) (all_cons (fun C hC => by cases uniq_of uC26 hC; exact ⟨ec_mk cl26 hg26 hk26 bC26 dC26 ha26 hn ht hm26, kit_own rC26 q26x14 cl14 tC14⟩) (all_cons (fun C hC => by cases uniq_of uC27 hC; exact ⟨ec_mk cl27 hg27 hk27 bC27 dC27 ha27 hn ht hm27, kit_own rC27 q27x14 cl14 tC14⟩) (all_cons (fun C hC => by cases uniq_of uC28 hC; exact ⟨ec_mk cl28 hg28 hk28 bC28 dC28 ha28 hn ht hm28, kit_own rC28 q28x14 cl14 tC14⟩) (all_cons (fun C hC => by cases uniq_of uC29 hC; exact ⟨ec_mk cl29 hg29 hk29 bC29 dC29 ha29 hn ht hm29, kit_own rC29 q29x14 cl14 tC14⟩) (all_nil)))))))))))))))))))))))))))))⟩) (all_cons (fun x e => by cases e; exact ⟨.ref C15, .ref C15, .own _, rfl, (.inl (PySem.W.mg_of X G aC15)), all_cons (fun C hC => by cases uniq_of uC1 hC; exact ⟨ec_mk cl1 hg1 hk1 bC1 dC1 ha1 hn ht hm1, kit_own rC1 q1x15 cl15 tC15⟩) (all_cons (fun C hC => by cases uniq_of uC2 hC; exact ⟨ec_mk cl2 hg2 hk2 bC2 dC2 ha2 hn ht hm2, kit_own rC2 q2x15 cl15 tC15⟩) (all_cons (fun C hC => by cases uniq_of uC3 hC; exact ⟨ec_mk cl3 hg3 hk3 bC3 dC3 ha3 hn ht hm3, kit_own rC3 q3x15 cl15 tC15⟩) (all_cons (fun C hC => by cases uniq_of uC4 hC; exact ⟨ec_mk cl4 hg4 hk4 bC4 dC4 ha4 hn ht hm4, kit_own rC4 q4x15 cl15 tC15⟩) (all_cons (fun C hC => by cases uniq_of uC5 hC; exact ⟨ec_mk cl5 hg5 hk5 bC5 dC5 ha5 hn ht hm5, kit_own rC5 q5x15 cl15 tC15⟩) (all_cons (fun C hC => by cases uniq_of uC6 hC; exact ⟨ec_mk cl6 hg6 hk6 bC6 dC6 ha6 hn ht hm6, kit_own rC6 q6x15 cl15 tC15⟩) (all_cons (fun C hC => by cases uniq_of uC7 hC; exact ⟨ec_mk cl7 hg7 hk7 bC7 dC7 ha7 hn ht hm7, kit_own rC7 q7x15 cl15 tC15⟩) (all_cons (fun C hC => by cases uniq_of uC8 hC; exact ⟨ec_mk cl8 hg8 hk8 bC8 dC8 ha8 hn ht hm8, kit_own rC8 q8x15 cl15 tC15⟩) (all_cons (fun C hC => by cases uniq_of uC9 hC; exact ⟨ec_mk cl9 hg9 hk9 bC9 dC9 ha9 hn ht hm9, kit_own rC9 q9x15 cl15 tC15⟩) (all_cons (fun C hC => by cases uniq_of uC10 hC; exact ⟨ec_mk cl10 hg10 hk10 bC10 dC10 ha10 hn ht hm10, kit_own rC10 q10x15 cl15 tC15⟩) (all_cons (fun C hC => by cases uniq_of uC11 hC; exact ⟨ec_mk cl11 hg11 hk11 bC11 dC11 ha11 hn ht hm11, kit_own rC11 q11x15 cl15 tC15⟩) (all_cons (fun C hC => by cases uniq_of uC12 hC; exact ⟨ec_mk cl12 hg12 hk12 bC12 dC12 ha12 hn ht hm12, kit_own rC12 q12x15 cl15 tC15⟩) (all_cons (fun C hC => by cases uniq_of uC13 hC; exact ⟨ec_mk cl13 hg13 hk13 bC13 dC13 ha13 hn ht hm13, kit_own rC13 q13x15 cl15 tC15⟩) (all_cons (fun C hC => by cases uniq_of uC14 hC; exact ⟨ec_mk cl14 hg14 hk14 bC14 dC14 ha14 hn ht hm14, kit_own rC14 q14x15 cl15 tC15⟩) (all_cons (fun C hC => by cases uniq_of uC15 hC; exact ⟨ec_mk cl15 hg15 hk15 bC15 dC15 ha15 hn ht hm15, kit_own rC15 rC15 cl15 tC15⟩) (all_cons (fun C hC => by cases uniq_of uC16 hC; exact ⟨ec_mk cl16 hg16 hk16 bC16 dC16 ha16 hn ht hm16, kit_own rC16 q16x15 cl15 tC15⟩) (all_cons (fun C hC => by cases uniq_of uC17 hC; exact ⟨ec_mk cl17 hg17 hk17 bC17 dC17 ha17 hn ht hm17, kit_own rC17 q17x15 cl15 tC15⟩) (all_cons (fun C hC => by cases uniq_of uC18 hC; exact ⟨ec_mk cl18 hg18 hk18 bC18 dC18 ha18 hn ht hm18, kit_own rC18 q18x15 cl15 tC15⟩) (all_cons (fun C hC => by cases uniq_of uC19 hC; exact ⟨ec_mk cl19 hg19 hk19 bC19 dC19 ha19 hn ht hm19, kit_own rC19 q19x15 cl15 tC15⟩) (all_cons (fun C hC => by cases uniq_of uC20 hC; exact ⟨ec_mk cl20 hg20 hk20 bC20 dC20 ha20 hn ht hm20, kit_own rC20 q20x15 cl15 tC15⟩) (all_cons (fun C hC => by cases uniq_of uC21 hC; exact ⟨ec_mk cl21 hg21 hk21 bC21 dC21 ha21 hn ht hm21, kit_own rC21 q21x15 cl15 tC15⟩) (all_cons (fun C hC => by cases uniq_of uC22 hC; exact ⟨ec_mk cl22 hg22 hk22 bC22 dC22 ha22 hn ht hm22, kit_own rC22 q22x15 cl15 tC15⟩) (all_cons (fun C hC => by cases uniq_of uC23 hC; exact ⟨ec_mk cl23 hg23 hk23 bC23 dC23 ha23 hn ht hm23, kit_own rC23 q23x15 cl15 tC15⟩) (all_cons (fun C hC => by cases uniq_of uC24 hC; exact ⟨ec_mk cl24 hg24 hk24 bC24 dC24 ha24 hn ht hm24, kit_own rC24 q24x15 cl15 tC15⟩) (all_cons (fun C hC => by cases uniq_of uC25 hC; exact ⟨ec_mk cl25 hg25 hk25 bC25 dC25 ha25 hn ht hm25, kit_own rC25 q25x15 cl15 tC15⟩) (all_cons (fun C hC => by cases uniq_of uC26 hC; exact ⟨ec_mk cl26 hg26 hk26 bC26 dC26 ha26 hn ht hm26, kit_own rC26 q26x15 cl15 tC15⟩) (all_cons (fun C hC => by cases uniq_of uC27 hC; exact ⟨ec_mk cl27 hg27 hk27 bC27 dC27 ha27 hn ht hm27, kit_own rC27 q27x15 cl15 tC15⟩) (all_cons (fun C hC => by cases uniq_of uC28 hC; exact ⟨ec_mk cl28 hg28 hk28 bC28 dC28 ha28 hn ht hm28, kit_own rC28 q28x15 cl15 tC15⟩) (all_cons (fun C hC => by cases uniq_of uC29 hC; exact ⟨ec_mk cl29 hg29 hk29 bC29 dC29 ha29 hn ht hm29, kit_own rC29 q29x15 cl15 tC15⟩) (all_nil)))))))))))))))))))))))))))))⟩) (all_cons (fun x e => by cases e; exact ⟨.ref C16, .ref C16, .own _, rfl, (.inl (PySem.W.mg_of X G aC16)), all_cons (fun C hC => by cases uniq_of uC1 hC; exact ⟨ec_mk cl1 hg1 hk1 bC1 dC1 ha1 hn ht hm1, kit_own rC1 q1x16 cl16 tC16⟩) (all_cons (fun C hC => by cases uniq_of uC2 hC; exact ⟨ec_mk cl2 hg2 hk2 bC2 dC2 ha2 hn ht hm2, kit_own rC2 q2x16 cl16 tC16⟩) (all_cons (fun C hC => by cases uniq_of uC3 hC; exact ⟨ec_mk cl3 hg3 hk3 bC3 dC3 ha3 hn ht hm3, kit_own rC3 q3x16 cl16 tC16⟩) (all_cons (fun C hC => by cases uniq_of uC4 hC; exact ⟨ec_mk cl4 hg4 hk4 bC4 dC4 ha4 hn ht hm4, kit_own rC4 q4x16 cl16 tC16⟩) (all_cons (fun C hC => by cases uniq_of uC5 hC; exact ⟨ec_mk cl5 hg5 hk5 bC5 dC5 ha5 hn ht hm5, kit_own rC5 q5x16 cl16 tC16⟩) (all_cons (fun C hC => by cases uniq_of uC6 hC; exact ⟨ec_mk cl6 hg6 hk6 bC6 dC6 ha6 hn ht hm6, kit_own rC6 q6x16 cl16 tC16⟩) (all_cons (fun C hC => by cases uniq_of uC7 hC; exact ⟨ec_mk cl7 hg7 hk7 bC7 dC7 ha7 hn ht hm7, kit_own rC7 q7x16 cl16 tC16⟩) (all_cons (fun C hC => by cases uniq_of uC8 hC; exact ⟨ec_mk cl8 hg8 hk8 bC8 dC8 ha8 hn ht hm8, kit_own rC8 q8x16 cl16 tC16⟩) (all_cons (fun C hC => by cases uniq_of uC9 hC; exact ⟨ec_mk cl9 hg9 hk9 bC9 dC9 ha9 hn ht hm9, kit_own rC9 q9x16 cl16 tC16⟩) (all_cons (fun C hC => by cases uniq_of uC10 hC; exact ⟨ec_mk cl10 hg10 hk10 bC10 dC10 ha10 hn ht hm10, kit_own rC10 q10x16 cl16 tC16⟩) (all_cons (fun C hC => by cases uniq_of uC11 hC; exact ⟨ec_mk cl11 hg11 hk11 bC11 dC11 ha11 hn ht hm11, kit_own rC11 q11x16 cl16 tC16⟩) (all_cons (fun C hC => by cases uniq_of uC12 hC; exact ⟨ec_mk cl12 hg12 hk12 bC12 dC12 ha12 hn ht hm12, kit_own rC12 q12x16 cl16 tC16⟩) (all_cons (fun C hC => by cases uniq_of uC13 hC; exact ⟨ec_mk cl13 hg13 hk13 bC13 dC13 ha13 hn ht hm13, kit_own rC13 q13x16 cl16 tC16⟩) (all_cons (fun C hC => by cases uniq_of uC14 hC; exact ⟨ec_mk cl14 hg14 hk14 bC14 dC14 ha14 hn ht hm14, kit_own rC14 q14x16 cl16 tC16⟩) (all_cons (fun C hC => by cases uniq_of uC15 hC; exact ⟨ec_mk cl15 hg15 hk15 bC15 dC15 ha15 hn ht hm15, kit_own rC15 q15x16 cl16 tC16⟩) (all_cons (fun C hC => by cases uniq_of uC16 hC; exact ⟨ec_mk cl16 hg16 hk16 bC16 dC16 ha16 hn ht hm16, kit_own rC16 rC16 cl16 tC16⟩) (all_cons (fun C hC => by cases uniq_of uC17 hC; exact ⟨ec_mk cl17 hg17 hk17 bC17 dC17 ha17 hn ht hm17, kit_own rC17 q17x16 cl16 tC16⟩) (all_cons (fun C hC => by cases uniq_of uC18 hC; exact ⟨ec_mk cl18 hg18 hk18 bC18 dC18 ha18 hn ht hm18, kit_own rC18 q18x16 cl16 tC16⟩) (all_cons (fun C hC => by cases uniq_of uC19 hC; exact ⟨ec_mk cl19 hg19 hk19 bC19 dC19 ha19 hn ht hm19, kit_own rC19 q19x16 cl16 tC16⟩) (all_cons (fun C hC => by cases uniq_of uC20 hC; exact ⟨ec_mk cl20 hg20 hk20 bC20 dC20 ha20 hn ht hm20, kit_own rC20 q20x16 cl16 tC16⟩) (all_cons (fun C hC => by cases uniq_of uC21 hC; exact ⟨ec_mk cl21 hg21 hk21 bC21 dC21 ha21 hn ht hm21, kit_own rC21 q21x16 cl16 tC16⟩) (all_cons (fun C hC => by cases uniq_of uC22 hC; exact ⟨ec_mk cl22 hg22 hk22 bC22 dC22 ha22 hn ht hm22, kit_own rC22 q22x16 cl16 tC16⟩) (all_cons (fun C hC => by cases uniq_of uC23 hC; exact ⟨ec_mk cl23 hg23 hk23 bC23 dC23 ha23 hn ht hm23, kit_own rC23 q23x16 cl16 tC16⟩) (all_cons (fun C hC => by cases uniq_of uC24 hC; exact ⟨ec_mk cl24 hg24 hk24 bC24 dC24 ha24 hn ht hm24, kit_own rC24 q24x16 cl16 tC16⟩) (all_cons (fun C hC => by cases uniq_of uC25 hC; exact ⟨ec_mk cl25 hg25 hk25 bC25 dC25 ha25 hn ht hm25, kit_own rC25 q25x16 cl16 tC16⟩) (all_cons (fun C hC => by cases uniq_of uC26 hC; exact ⟨ec_mk cl26 hg26 hk26 bC26 dC26 ha26 hn ht hm26, kit_own rC26 q26x16 cl16 tC16⟩) (all_cons (fun C hC => by cases uniq_of uC27 hC; exact ⟨ec_mk cl27 hg27 hk27 bC27 dC27 ha27 hn ht hm27, kit_own rC27 q27x16 cl16 tC16⟩) (all_cons (fun C hC => by cases uniq_of uC28 hC; exact ⟨ec_mk cl28 hg28 hk28 bC28 dC28 ha28 hn ht hm28, kit_own rC28 q28x16 cl16 tC16⟩) (all_cons (fun C hC => by cases uniq_of uC29 hC; exact ⟨ec_mk cl29 hg29 hk29 bC29 dC29 ha29 hn ht hm29, kit_own rC29 q29x16 cl16 tC16⟩) (all_nil)))))))))))))))))))))))))))))⟩) (all_cons (fun x e => by cases e; exact ⟨.ref C17, .ref C17, .own _, rfl, (.inl (PySem.W.mg_of X G aC17)), all_cons (fun C hC => by cases uniq_of uC1 hC; exact ⟨ec_mk cl1 hg1 hk1 bC1 dC1 ha1 hn ht hm1, kit_own rC1 q1x17 cl17 tC17⟩) (all_cons (fun C hC => by cases uniq_of uC2 hC; exact ⟨ec_mk cl2 hg2 hk2 bC2 dC2 ha2 hn ht hm2, kit_own rC2 q2x17 cl17 tC17⟩) (all_cons (fun C hC => by cases uniq_of uC3 hC; exact ⟨ec_mk cl3 hg3 hk3 bC3 dC3 ha3 hn ht hm3, kit_own rC3 q3x17 cl17 tC17⟩) (all_cons (fun C hC => by cases uniq_of uC4 hC; exact ⟨ec_mk cl4 hg4 hk4 bC4 dC4 ha4 hn ht hm4, kit_own rC4 q4x17 cl17 tC17⟩) (all_cons (fun C hC => by cases uniq_of uC5 hC; exact ⟨ec_mk cl5 hg5 hk5 bC5 dC5 ha5 hn ht hm5, kit_own rC5 q5x17 cl17 tC17⟩) (all_cons (fun C hC => by cases uniq_of uC6 hC; exact ⟨ec_mk cl6 hg6 hk6 bC6 dC6 ha6 hn ht hm6, kit_own rC6 q6x17 cl17 tC17⟩) (all_cons (fun C hC => by cases uniq_of uC7 hC; exact ⟨ec_mk cl7 hg7 hk7 bC7 dC7 ha7 hn ht hm7, kit_own rC7 q7x17 cl17 tC17⟩) (all_cons (fun C hC => by cases uniq_of uC8 hC; exact ⟨ec_mk cl8 hg8 hk8 bC8 dC8 ha8 hn ht hm8, kit_own rC8 q8x17 cl17 tC17⟩) (all_cons (fun C hC => by cases uniq_of uC9 hC; exact ⟨ec_mk cl9 hg9 hk9 bC9 dC9 ha9 hn ht hm9, kit_own rC9 q9x17 cl17 tC17⟩) (all_cons (fun C hC => by cases uniq_of uC10 hC; exact ⟨ec_mk cl10 hg10 hk10 bC10 dC10 ha10 hn ht hm10, kit_own rC10 q10x17 cl17 tC17⟩) (all_cons (fun C hC => by cases uniq_of uC11 hC; exact ⟨ec_mk cl11 hg11 hk11 bC11 dC11 ha11 hn ht hm11, kit_own rC11 q11x17 cl17 tC17⟩) (all_cons (fun C hC => by cases uniq_of uC12 hC; exact ⟨ec_mk cl12 hg12 hk12 bC12 dC12 ha12 hn ht hm12, kit_own rC12 q12x17 cl17 tC17⟩) (all_cons (fun C hC => by cases uniq_of uC13 hC; exact ⟨ec_mk cl13 hg13 hk13 bC13 dC13 ha13 hn ht hm13, kit_own rC13 q13x17 cl17 tC17⟩) (all_cons (fun C hC => by cases uniq_of uC14 hC; exact ⟨ec_mk cl14 hg14 hk14 bC14 dC14 ha14 hn ht hm14, kit_own rC14 q14x17 cl17 tC17⟩) (all_cons (fun C hC => by cases uniq_of uC15 hC; exact ⟨ec_mk cl15 hg15 hk15 bC15 dC15 ha15 hn ht hm15, kit_own rC15 q15x17 cl17 tC17⟩) (all_cons (fun C hC => by cases uniq_of uC16 hC; exact ⟨ec_mk cl16 hg16 hk16 bC16 dC16 ha16 hn ht hm16, kit_own rC16 q16x17 cl17 tC17⟩) (all_cons (fun C hC => by cases uniq_of uC17 hC; exact ⟨ec_mk cl17 hg17 hk17 bC17 dC17 ha17 hn ht hm17, kit_own rC17 rC17 cl17 tC17⟩) (all_cons (fun C hC => by cases uniq_of uC18 hC; exact ⟨ec_mk cl18 hg18 hk18 bC18 dC18 ha18 hn ht hm18, kit_own rC18 q18x17 cl17 tC17⟩) (all_cons (fun C hC => by cases uniq_of uC19 hC; exact ⟨ec_mk cl19 hg19 hk19 bC19 dC19 ha19 hn ht hm19, kit_own rC19 q19x17 cl17 tC17⟩) (all_cons (fun C hC => by cases uniq_of uC20 hC; exact ⟨ec_mk cl20 hg20 hk20 bC20 dC20 ha20 hn ht hm20, kit_own rC20 q20x17 cl17 tC17⟩) (all_cons (fun C hC => by cases uniq_of uC21 hC; exact ⟨ec_mk cl21 hg21 hk21 bC21 dC21 ha21 hn ht hm21, kit_own rC21 q21x17 cl17 tC17⟩) (all_cons (fun C hC => by cases uniq_of uC22 hC; exact ⟨ec_mk cl22 hg22 hk22 bC22 dC22 ha22 hn ht hm22, kit_own rC22 q22x17 cl17 tC17⟩) (all_cons (fun C hC => by cases uniq_of uC23 hC; exact ⟨ec_mk cl23 hg23 hk23 bC23 dC23 ha23 hn ht hm23, kit_own rC23 q23x17 cl17 tC17⟩) (all_cons (fun C hC => by cases uniq_of uC24 hC; exact ⟨ec_mk cl24 hg24 hk24 bC24 dC24 ha24 hn ht hm24, kit_own rC24 q24x17 cl17 tC17⟩) (all_cons (fun C hC => by cases uniq_of uC25 hC; exact ⟨ec_mk cl25 hg25 hk25 bC25 dC25 ha25 hn ht hm25, kit_own rC25 q25x17 cl17 tC17⟩) (all_cons (fun C hC => by cases uniq_of uC26 hC; exact ⟨ec_mk cl26 hg26 hk26 bC26 dC26 ha26 hn ht hm26, kit_own rC26 q26x17 cl17 tC17⟩) (all_cons (fun C hC => by cases uniq_of uC27 hC; exact ⟨ec_mk cl27 hg27 hk27 bC27 dC27 ha27 hn ht hm27, kit_own rC27 q27x17 cl17 tC17⟩) (all_cons (fun C hC => by cases uniq_of uC28 hC; exact ⟨ec_mk cl28 hg28 hk28 bC28 dC28 ha28 hn ht hm28, kit_own rC28 q28x17 cl17 tC17⟩) (all_cons (fun C hC => by cases uniq_of uC29 hC; exact ⟨ec_mk cl29 hg29 hk29 bC29 dC29 ha29 hn ht hm29, kit_own rC29 q29x17 cl17 tC17⟩) (all_nil)))))))))))))))))))))))))))))⟩) (all_cons (fun x e => by cases e; exact ⟨.ref C18, .ref C18, .own _, rfl, (.inl (PySem.W.mg_of X G aC18)), all_cons (fun C hC => by cases uniq_of uC1 hC; exact ⟨ec_mk cl1 hg1 hk1 bC1 dC1 ha1 hn ht hm1, kit_own rC1 q1x18 cl18 tC18⟩) (all_cons (fun C hC => by cases uniq_of uC2 hC; exact ⟨ec_mk cl2 hg2 hk2 bC2 dC2 ha2 hn ht hm2, kit_own rC2 q2x18 cl18 tC18⟩) (all_cons (fun C hC => by cases uniq_of uC3 hC; exact ⟨ec_mk cl3 hg3 hk3 bC3 dC3 ha3 hn ht hm3, kit_own rC3 q3x18 cl18 tC18⟩) (all_cons (fun C hC => by cases uniq_of uC4 hC; exact ⟨ec_mk cl4 hg4 hk4 bC4 dC4 ha4 hn ht hm4, kit_own rC4 q4x18 cl18 tC18⟩) (all_cons (fun C hC => by cases uniq_of uC5 hC; exact ⟨ec_mk cl5 hg5 hk5 bC5 dC5 ha5 hn ht hm5, kit_own rC5 q5x18 cl18 tC18⟩) (all_cons (fun C hC => by cases uniq_of uC6 hC; exact ⟨ec_mk cl6 hg6 hk6 bC6 dC6 ha6 hn ht hm6, kit_own rC6 q6x18 cl18 tC18⟩) (all_cons (fun C hC => by cases uniq_of uC7 hC; exact ⟨ec_mk cl7 hg7 hk7 bC7 dC7 ha7 hn ht hm7, kit_own rC7 q7x18 cl18 tC18⟩) (all_cons (fun C hC => by cases uniq_of uC8 hC; exact ⟨ec_mk cl8 hg8 hk8 bC8 dC8 ha8 hn ht hm8, kit_own rC8 q8x18 cl18 tC18⟩) (all_cons (fun C hC => by cases uniq_of uC9 hC; exact ⟨ec_mk cl9 hg9 hk9 bC9 dC9 ha9 hn ht hm9, kit_own rC9 q9x18 cl18 tC18⟩) (all_cons (fun C hC => by cases uniq_of uC10 hC; exact ⟨ec_mk cl10 hg10 hk10 bC10 dC10 ha10 hn ht hm10, kit_own rC10 q10x18 cl18 tC18⟩) (all_cons (fun C hC => by cases uniq_of uC11 hC; exact ⟨ec_mk cl11 hg11 hk11 bC11 dC11 ha11 hn ht hm11, kit_own rC11 q11x18 cl18 tC18⟩) (all_cons (fun C hC => by cases uniq_of uC12 hC; exact ⟨ec_mk cl12 hg12 hk12 bC12 dC12 ha12 hn ht hm12, kit_own rC12 q12x18 cl18 tC18⟩) (all_cons (fun C hC => by cases uniq_of uC13 hC; exact ⟨ec_mk cl13 hg13 hk13 bC13 dC13 ha13 hn ht hm13, kit_own rC13 q13x18 cl18 tC18⟩) (all_cons (fun C hC => by cases uniq_of uC14 hC; exact ⟨ec_mk cl14 hg14 hk14 bC14 dC14 ha14 hn ht hm14, kit_own rC14 q14x18 cl18 tC18⟩) (all_cons (fun C hC => by cases uniq_of uC15 hC; exact ⟨ec_mk cl15 hg15 hk15 bC15 dC15 ha15 hn ht hm15, kit_own rC15 q15x18 cl18 tC18⟩) (all_cons (fun C hC => by cases uniq_of uC16 hC; exact ⟨ec_mk cl16 hg16 hk16 bC16 dC16 ha16 hn ht hm16, kit_own rC16 q16x18 cl18 tC18⟩) (all_cons (fun C hC => by cases uniq_of uC17 hC; exact ⟨ec_mk cl17 hg17 hk17 bC17 dC17 ha17 hn ht hm17, kit_own rC17 q17x18 cl18 tC18⟩) (all_cons (fun C hC => by cases uniq_of uC18 hC; exact ⟨ec_mk cl18 hg18 hk18 bC18 dC18 ha18 hn ht hm18, kit_own rC18 rC18 cl18 tC18⟩) (all_cons (fun C hC => by cases uniq_of uC19 hC; exact ⟨ec_mk cl19 hg19 hk19 bC19 dC19 ha19 hn ht hm19, kit_own rC19 q19x18 cl18 tC18⟩) (all_cons (fun C hC => by cases uniq_of uC20 hC; exact ⟨ec_mk cl20 hg20 hk20 bC20 dC20 ha20 hn ht hm20, kit_own rC20 q20x18 cl18 tC18⟩) (all_cons (fun C hC => by cases uniq_of uC21 hC; exact ⟨ec_mk cl21 hg21 hk21 bC21 dC21 ha21 hn ht hm21, kit_own rC21 q21x18 cl18 tC18⟩) (all_cons (fun C hC => by cases uniq_of uC22 hC; exact ⟨ec_mk cl22 hg22 hk22 bC22 dC22 ha22 hn ht hm22, kit_own rC22 q22x18 cl18 tC18⟩) (all_cons (fun C hC => by cases uniq_of uC23 hC; exact ⟨ec_mk cl23 hg23 hk23 bC23 dC23 ha23 hn ht hm23, kit_own rC23 q23x18 cl18 tC18⟩) (all_cons (fun C hC => by cases uniq_of uC24 hC; exact ⟨ec_mk cl24 hg24 hk24 bC24 dC24 ha24 hn ht hm24, kit_own rC24 q24x18 cl18 tC18⟩) (all_cons (fun C hC => by cases uniq_of uC25 hC; exact ⟨ec_mk cl25 hg25 hk25 bC25 dC25 ha25 hn ht hm25, kit_own rC25 q25x18 cl18 tC18⟩) (all_cons (fun C hC => by cases uniq_of uC26 hC; exact ⟨ec_mk cl26 hg26 hk26 bC26 dC26 ha26 hn ht hm26, kit_own rC26 q26x18 cl18 tC18⟩) (all_cons (fun C hC => by cases uniq_of uC27 hC; exact ⟨ec_mk cl27 hg27 hk27 bC27 dC27 ha27 hn ht hm27, kit_own rC27 q27x18 cl18 tC18⟩) (all_cons (fun C hC => by cases uniq_of uC28 hC; exact ⟨ec_mk cl28 hg28 hk28 bC28 dC28 ha28 hn ht hm28, kit_own rC28 q28x18 cl18 tC18⟩) (all_cons (fun C hC => by cases uniq_of uC29 hC; exact ⟨ec_mk cl29 hg29 hk29 bC29 dC29 ha29 hn ht hm29, kit_own rC29 q29x18 cl18 tC18⟩) (all_nil)))))))))))))))))))))))))))))⟩) (all_cons (fun x e => by cases e; exact ⟨.ref C19, .ref C19, .own _, rfl, (.inl (PySem.W.mg_of X G aC19)), all_cons (fun C hC => by cases uniq_of uC1 hC; exact ⟨ec_mk cl1 hg1 hk1 bC1 dC1 ha1 hn ht hm1, kit_own rC1 q1x19 cl19 tC19⟩) (all_cons (fun C hC => by cases uniq_of uC2 hC; exact ⟨ec_mk cl2 hg2 hk2 bC2 dC2 ha2 hn ht hm2, kit_own rC2 q2x19 cl19 tC19⟩) (all_cons (fun C hC => by cases uniq_of uC3 hC; exact ⟨ec_mk cl3 hg3 hk3 bC3 dC3 ha3 hn ht hm3, kit_own rC3 q3x19 cl19 tC19⟩) (all_cons (fun C hC => by cases uniq_of uC4 hC; exact ⟨ec_mk cl4 hg4 hk4 bC4 dC4 ha4 hn ht hm4, kit_own rC4 q4x19 cl19 tC19⟩) (all_cons (fun C hC => by cases uniq_of uC5 hC; exact ⟨ec_mk cl5 hg5 hk5 bC5 dC5 ha5 hn ht hm5, kit_own rC5 q5x19 cl19 tC19⟩) (all_cons (fun C hC => by cases uniq_of uC6 hC; exact ⟨ec_mk cl6 hg6 hk6 bC6 dC6 ha6 hn ht hm6, kit_own rC6 q6x19 cl19 tC19⟩) (all_cons (fun C hC => by cases uniq_of uC7 hC; exact ⟨ec_mk cl7 hg7 hk7 bC7 dC7 ha7 hn ht hm7, kit_own rC7 q7x19 cl19 tC19⟩) (all_cons (fun C hC => by cases uniq_of uC8 hC; exact ⟨ec_mk cl8 hg8 hk8 bC8 dC8 ha8 hn ht hm8, kit_own rC8 q8x19 cl19 tC19⟩) (all_cons (fun C hC => by cases uniq_of uC9 hC; exact ⟨ec_mk cl9 hg9 hk9 bC9 dC9 ha9 hn ht hm9, kit_own rC9 q9x19 cl19 tC19⟩) (all_cons (fun C hC => by cases uniq_of uC10 hC; exact ⟨ec_mk cl10 hg10 hk10 bC10 dC10 ha10 hn ht hm10, kit_own rC10 q10x19 cl19 tC19⟩) (all_cons (fun C hC => by cases uniq_of uC11 hC; exact ⟨ec_mk cl11 hg11 hk11 bC11 dC11 ha11 hn ht hm11, kit_own rC11 q11x19 cl19 tC19⟩) (all_cons (fun C hC => by cases uniq_of uC12 hC; exact ⟨ec_mk cl12 hg12 hk12 bC12 dC12 ha12 hn ht hm12, kit_own rC12 q12x19 cl19 tC19⟩) (all_cons (fun C hC => by cases uniq_of uC13 hC; exact ⟨ec_mk cl13 hg13 hk13 bC13 dC13 ha13 hn ht hm13, kit_own rC13 q13x19 cl19 tC19⟩) (all_cons (fun C hC => by cases uniq_of uC14 hC; exact ⟨ec_mk cl14 hg14 hk14 bC14 dC14 ha14 hn ht hm14, kit_own rC14 q14x19 cl19 tC19⟩) (all_cons (fun C hC => by cases uniq_of uC15 hC; exact ⟨ec_mk cl15 hg15 hk15 bC15 dC15 ha15 hn ht hm15, kit_own rC15 q15x19 cl19 tC19⟩) (all_cons (fun C hC => by cases uniq_of uC16 hC; exact ⟨ec_mk cl16 hg16 hk16 bC16 dC16 ha16 hn ht hm16, kit_own rC16 q16x19 cl19 tC19⟩) (all_cons (fun C hC => by cases uniq_of uC17 hC; exact ⟨ec_mk cl17 hg17 hk17 bC17 dC17 ha17 hn ht hm17, kit_own rC17 q17x19 cl19 tC19⟩) (all_cons (fun C hC => by cases uniq_of uC18 hC; exact ⟨ec_mk cl18 hg18 hk18 bC18 dC18 ha18 hn ht hm18, kit_own rC18 q18x19 cl19 tC19⟩) (all_cons (fun C hC => by cases uniq_of uC19 hC; exact ⟨ec_mk cl19 hg19 hk19 bC19 dC19 ha19 hn ht hm19, kit_own rC19 rC19 cl19 tC19⟩) (all_cons (fun C hC => by cases uniq_of uC20 hC; exact ⟨ec_mk cl20 hg20 hk20 bC20 dC20 ha20 hn ht hm20, kit_own rC20 q20x19 cl19 tC19⟩) (all_cons (fun C hC => by cases uniq_of uC21 hC; exact ⟨ec_mk cl21 hg21 hk21 bC21 dC21 ha21 hn ht hm21, kit_own rC21 q21x19 cl19 tC19⟩) (all_cons (fun C hC => by cases uniq_of uC22 hC; exact ⟨ec_mk cl22 hg22 hk22 bC22 dC22 ha22 hn ht hm22, kit_own rC22 q22x19 cl19 tC19⟩) (all_cons (fun C hC => by cases uniq_of uC23 hC; exact ⟨ec_mk cl23 hg23 hk23 bC23 dC23 ha23 hn ht hm23, kit_own rC23 q23x19 cl19 tC19⟩) (all_cons (fun C hC => by cases uniq_of uC24 hC; exact ⟨ec_mk cl24 hg24 hk24 bC24 dC24 ha24 hn ht hm24, kit_own rC24 q24x19 cl19 tC19⟩) (all_cons (fun C hC => by cases uniq_of uC25 hC; exact ⟨ec_mk cl25 hg25 hk25 bC25 dC25 ha25 hn ht hm25, kit_own rC25 q25x19 cl19 tC19⟩) (all_cons (fun C hC => by cases uniq_of uC26 hC; exact ⟨ec_mk cl26 hg26 hk26 bC26 dC26 ha26 hn ht hm26, kit_own rC26 q26x19 cl19 tC19⟩) (all_cons (fun C hC => by cases uniq_of uC27 hC; exact ⟨ec_mk cl27 hg27 hk27 bC27 dC27 ha27 hn ht hm27, kit_own rC27 q27x19 cl19 tC19⟩) (all_cons (fun C hC => by cases uniq_of uC28 hC; exact ⟨ec_mk cl28 hg28 hk28 bC28 dC28 ha28 hn ht hm28, kit_own rC28 q28x19 cl19 tC19⟩) (all_cons (fun C hC => by cases uniq_of uC29 hC; exact ⟨ec_mk cl29 hg29 hk29 bC29 dC29 ha29 hn ht hm29, kit_own rC29 q29x19 cl19 tC19⟩) (all_nil)))))))))))))))))))))))))))))⟩) (all_cons (fun x e => by cases e; exact ⟨.ref C20, .ref C20, .own _, rfl, (.inl (PySem.W.mg_of X G aC20)), all_cons (fun C hC => by cases uniq_of uC1 hC; exact ⟨ec_mk cl1 hg1 hk1 bC1 dC1 ha1 hn ht hm1, kit_own rC1 q1x20 cl20 tC20⟩) (all_cons (fun C hC => by cases uniq_of uC2 hC; exact ⟨ec_mk cl2 hg2 hk2 bC2 dC2 ha2 hn ht hm2, kit_own rC2 q2x20 cl20 tC20⟩) (all_cons (fun C hC => by cases uniq_of uC3 hC; exact ⟨ec_mk cl3 hg3 hk3 bC3 dC3 ha3 hn ht hm3, kit_own rC3 q3x20 cl20 tC20⟩) (all_cons (fun C hC => by cases uniq_of uC4 hC; exact ⟨ec_mk cl4 hg4 hk4 bC4 dC4 ha4 hn ht hm4, kit_own rC4 q4x20 cl20 tC20⟩) (all_cons (fun C hC => by cases uniq_of uC5 hC; exact ⟨ec_mk cl5 hg5 hk5 bC5 dC5 ha5 hn ht hm5, kit_own rC5 q5x20 cl20 tC20⟩) (all_cons (fun C hC => by cases uniq_of uC6 hC; exact ⟨ec_mk cl6 hg6 hk6 bC6 dC6 ha6 hn ht hm6, kit_own rC6 q6x20 cl20 tC20⟩) (all_cons (fun C hC => by cases uniq_of uC7 hC; exact ⟨ec_mk cl7 hg7 hk7 bC7 dC7 ha7 hn ht hm7, kit_own rC7 q7x20 cl20 tC20⟩) (all_cons (fun C hC => by cases uniq_of uC8 hC; exact ⟨ec_mk cl8 hg8 hk8 bC8 dC8 ha8 hn ht hm8, kit_own rC8 q8x20 cl20 tC20⟩) (all_cons (fun C hC => by cases uniq_of uC9 hC; exact ⟨ec_mk cl9 hg9 hk9 bC9 dC9 ha9 hn ht hm9, kit_own rC9 q9x20 cl20 tC20⟩) (all_cons (fun C hC => by cases uniq_of uC10 hC; exact ⟨ec_mk cl10 hg10 hk10 bC10 dC10 ha10 hn ht hm10, kit_own rC10 q10x20 cl20 tC20⟩) (all_cons (fun C hC => by cases uniq_of uC11 hC; exact ⟨ec_mk cl11 hg11 hk11 bC11 dC11 ha11 hn ht hm11, kit_own rC11 q11x20 cl20 tC20⟩) (all_cons (fun C hC => by cases uniq_of uC12 hC; exact ⟨ec_mk cl12 hg12 hk12 bC12 dC12 ha12 hn ht hm12, kit_own rC12 q12x20 cl20 tC20⟩) (all_cons (fun C hC => by cases uniq_of uC13 hC; exact ⟨ec_mk cl13 hg13 hk13 bC13 dC13 ha13 hn ht hm13, kit_own rC13 q13x20 cl20 tC20⟩) (all_cons (fun C hC => by cases uniq_of uC14 hC; exact ⟨ec_mk cl14 hg14 hk14 bC14 dC14 ha14 hn ht hm14, kit_own rC14 q14x20 cl20 tC20⟩) (all_cons (fun C hC => by cases uniq_of uC15 hC; exact ⟨ec_mk cl15 hg15 hk15 bC15 dC15 ha15 hn ht hm15, kit_own rC15 q15x20 cl20 tC20⟩) (all_cons (fun C hC => by cases uniq_of uC16 hC; exact ⟨ec_mk cl16 hg16 hk16 bC16 dC16 ha16 hn ht hm16, kit_own rC16 q16x20 cl20 tC20⟩) (all_cons (fun C hC => by cases uniq_of uC17 hC; exact ⟨ec_mk cl17 hg17 hk17 bC17 dC17 ha17 hn ht hm17, kit_own rC17 q17x20 cl20 tC20⟩) (all_cons (fun C hC => by cases uniq_of uC18 hC; exact ⟨ec_mk cl18 hg18 hk18 bC18 dC18 ha18 hn ht hm18, kit_own rC18 q18x20 cl20 tC20⟩) (all_cons (fun C hC => by cases uniq_of uC19 hC; exact ⟨ec_mk cl19 hg19 hk19 bC19 dC19 ha19 hn ht hm19, kit_own rC19 q19x20 cl20 tC20⟩) (all_cons (fun C hC => by cases uniq_of uC20 hC; exact ⟨ec_mk cl20 hg20 hk20 bC20 dC20 ha20 hn ht hm20, kit_own rC20 rC20 cl20 tC20⟩) (all_cons (fun C hC => by cases uniq_of uC21 hC; exact ⟨ec_mk cl21 hg21 hk21 bC21 dC21 ha21 hn ht hm21, kit_own rC21 q21x20 cl20 tC20⟩) (all_cons (fun C hC => by cases uniq_of uC22 hC; exact ⟨ec_mk cl22 hg22 hk22 bC22 dC22 ha22 hn ht hm22, kit_own rC22 q22x20 cl20 tC20⟩) (all_cons (fun C hC => by cases uniq_of uC23 hC; exact ⟨ec_mk cl23 hg23 hk23 bC23 dC23 ha23 hn ht hm23, kit_own rC23 q23x20 cl20 tC20⟩) (all_cons (fun C hC => by cases uniq_of uC24 hC; exact ⟨ec_mk cl24 hg24 hk24 bC24 dC24 ha24 hn ht hm24, kit_own rC24 q24x20 cl20 tC20⟩) (all_cons (fun C hC => by cases uniq_of uC25 hC; exact ⟨ec_mk cl25 hg25 hk25 bC25 dC25 ha25 hn ht hm25, kit_own rC25 q25x20 cl20 tC20⟩) (all_cons (fun C hC => by cases uniq_of uC26 hC; exact ⟨ec_mk cl26 hg26 hk26 bC26 dC26 ha26 hn ht hm26, kit_own rC26 q26x20 cl20 tC20⟩) (all_cons (fun C hC => by cases uniq_of uC27 hC; exact ⟨ec_mk cl27 hg27 hk27 bC27 dC27 ha27 hn ht hm27, kit_own rC27 q27x20 cl20 tC20⟩) (all_cons (fun C hC => by cases uniq_of uC28 hC; exact ⟨ec_mk cl28 hg28 hk28 bC28 dC28 ha28 hn ht hm28, kit_own rC28 q28x20 cl20 tC20⟩) (all_cons (fun C hC => by cases uniq_of uC29 hC; exact ⟨ec_mk cl29 hg29 hk29 bC29 dC29 ha29 hn ht hm29, kit_own rC29 q29x20 cl20 tC20⟩) (all_nil)))))))))))))))))))))))))))))⟩) (all_cons (fun x e => by cases e; exact ⟨.ref C21, .ref C21, .own _, rfl, (.inl (PySem.W.mg_of X G aC21)), all_cons (fun C hC => by cases uniq_of uC1 hC; exact ⟨ec_mk cl1 hg1 hk1 bC1 dC1 ha1 hn ht hm1, kit_own rC1 q1x21 cl21 tC21⟩) (all_cons (fun C hC => by cases uniq_of uC2 hC; exact ⟨ec_mk cl2 hg2 hk2 bC2 dC2 ha2 hn ht hm2, kit_own rC2 q2x21 cl21 tC21⟩) (all_cons (fun C hC => by cases uniq_of uC3 hC; exact ⟨ec_mk cl3 hg3 hk3 bC3 dC3 ha3 hn ht hm3, kit_own rC3 q3x21 cl21 tC21⟩) (all_cons (fun C hC => by cases uniq_of uC4 hC; exact ⟨ec_mk cl4 hg4 hk4 bC4 dC4 ha4 hn ht hm4, kit_own rC4 q4x21 cl21 tC21⟩) (all_cons (fun C hC => by cases uniq_of uC5 hC; exact ⟨ec_mk cl5 hg5 hk5 bC5 dC5 ha5 hn ht hm5, kit_own rC5 q5x21 cl21 tC21⟩) (all_cons (fun C hC => by cases uniq_of uC6 hC; exact ⟨ec_mk cl6 hg6 hk6 bC6 dC6 ha6 hn ht hm6, kit_own rC6 q6x21 cl21 tC21⟩) (all_cons (fun C hC => by cases uniq_of uC7 hC; exact ⟨ec_mk cl7 hg7 hk7 bC7 dC7 ha7 hn ht hm7, kit_own rC7 q7x21 cl21 tC21⟩) (all_cons (fun C hC => by cases uniq_of uC8 hC; exact ⟨ec_mk cl8 hg8 hk8 bC8 dC8 ha8 hn ht hm8, kit_own rC8 q8x21 cl21 tC21⟩) (all_cons (fun C hC => by cases uniq_of uC9 hC; exact ⟨ec_mk cl9 hg9 hk9 bC9 dC9 ha9 hn ht hm9, kit_own rC9 q9x21 cl21 tC21⟩) (all_cons (fun C hC => by cases uniq_of uC10 hC; exact ⟨ec_mk cl10 hg10 hk10 bC10 dC10 ha10 hn ht hm10, kit_own rC10 q10x21 cl21 tC21⟩) (all_cons (fun C hC => by cases uniq_of uC11 hC; exact ⟨ec_mk cl11 hg11 hk11 bC11 dC11 ha11 hn ht hm11, kit_own rC11 q11x21 cl21 tC21⟩) (all_cons (fun C hC => by cases uniq_of uC12 hC; exact ⟨ec_mk cl12 hg12 hk12 bC12 dC12 ha12 hn ht hm12, kit_own rC12 q12x21 cl21 tC21⟩) (all_cons (fun C hC => by cases uniq_of uC13 hC; exact ⟨ec_mk cl13 hg13 hk13 bC13 dC13 ha13 hn ht hm13, kit_own rC13 q13x21 cl21 tC21⟩) (all_cons (fun C hC => by cases uniq_of uC14 hC; exact ⟨ec_mk cl14 hg14 hk14 bC14 dC14 ha14 hn ht hm14, kit_own rC14 q14x21 cl21 tC21⟩) (all_cons (fun C hC => by cases uniq_of uC15 hC; exact ⟨ec_mk cl15 hg15 hk15 bC15 dC15 ha15 hn ht hm15, kit_own rC15 q15x21 cl21 tC21⟩) (all_cons (fun C hC => by cases uniq_of uC16 hC; exact ⟨ec_mk cl16 hg16 hk16 bC16 dC16 ha16 hn ht hm16, kit_own rC16 q16x21 cl21 tC21⟩) (all_cons (fun C hC => by cases uniq_of uC17 hC; exact ⟨ec_mk cl17 hg17 hk17 bC17 dC17 ha17 hn ht hm17, kit_own rC17 q17x21 cl21 tC21⟩) (all_cons (fun C hC => by cases uniq_of uC18 hC; exact ⟨ec_mk cl18 hg18 hk18 bC18 dC18 ha18 hn ht hm18, kit_own rC18 q18x21 cl21 tC21⟩) (all_cons (fun C hC => by cases uniq_of uC19 hC; exact ⟨ec_mk cl19 hg19 hk19 bC19 dC19 ha19 hn ht hm19, kit_own rC19 q19x21 cl21 tC21⟩) (all_cons (fun C hC => by cases uniq_of uC20 hC; exact ⟨ec_mk cl20 hg20 hk20 bC20 dC20 ha20 hn ht hm20, kit_own rC20 q20x21 cl21 tC21⟩) (all_cons (fun C hC => by cases uniq_of uC21 hC; exact ⟨ec_mk cl21 hg21 hk21 bC21 dC21 ha21 hn ht hm21, kit_own rC21 rC21 cl21 tC21⟩) (all_cons (fun C hC => by cases uniq_of uC22 hC; exact ⟨ec_mk cl22 hg22 hk22 bC22 dC22 ha22 hn ht hm22, kit_own rC22 q22x21 cl21 tC21⟩) (all_cons (fun C hC => by cases uniq_of uC23 hC; exact ⟨ec_mk cl23 hg23 hk23 bC23 dC23 ha23 hn ht hm23, kit_own rC23 q23x21 cl21 tC21⟩) (all_cons (fun C hC => by cases uniq_of uC24 hC; exact ⟨ec_mk cl24 hg24 hk24 bC24 dC24 ha24 hn ht hm24, kit_own rC24 q24x21 cl21 tC21⟩) (all_cons (fun C hC => by cases uniq_of uC25 hC; exact ⟨ec_mk cl25 hg25 hk25 bC25 dC25 ha25 hn ht hm25, kit_own rC25 q25x21 cl21 tC21⟩) (all_cons (fun C hC => by cases uniq_of uC26 hC; exact ⟨ec_mk cl26 hg26 hk26 bC26 dC26 ha26 hn ht hm26, kit_own rC26 q26x21 cl21 tC21⟩) (all_cons (fun C hC => by cases uniq_of uC27 hC; exact ⟨ec_mk cl27 hg27 hk27 bC27 dC27 ha27 hn ht hm27, kit_own rC27 q27x21 cl21 tC21⟩) (all_cons (fun C hC => by cases uniq_of uC28 hC; exact ⟨ec_mk cl28 hg28 hk28 bC28 dC28 ha28 hn ht hm28, kit_own rC28 q28x21 cl21 tC21⟩) (all_cons (fun C hC => by cases uniq_of uC29 hC; exact ⟨ec_mk cl29 hg29 hk29 bC29 dC29 ha29 hn ht hm29, kit_own rC29 q29x21 cl21 tC21⟩) (all_nil)))))))))))))))))))))))))))))⟩) (all_cons (fun x e => by cases e; exact ⟨.ref C22, .ref C22, .own _, rfl, (.inl (PySem.W.mg_of X G aC22)), all_cons (fun C hC => by cases uniq_of uC1 hC; exact ⟨ec_mk cl1 hg1 hk1 bC1 dC1 ha1 hn ht hm1, kit_own rC1 q1x22 cl22 tC22⟩) (all_cons (fun C hC => by cases uniq_of uC2 hC; exact ⟨ec_mk cl2 hg2 hk2 bC2 dC2 ha2 hn ht hm2, kit_own rC2 q2x22 cl22 tC22⟩) (all_cons (fun C hC => by cases uniq_of uC3 hC; exact ⟨ec_mk cl3 hg3 hk3 bC3 dC3 ha3 hn ht hm3, kit_own rC3 q3x22 cl22 tC22⟩) (all_cons (fun C hC => by cases uniq_of uC4 hC; exact ⟨ec_mk cl4 hg4 hk4 bC4 dC4 ha4 hn ht hm4, kit_own rC4 q4x22 cl22 tC22⟩) (all_cons (fun C hC => by cases uniq_of uC5 hC; exact ⟨ec_mk cl5 hg5 hk5 bC5 dC5 ha5 hn ht hm5, kit_own rC5 q5x22 cl22 tC22⟩) (all_cons (fun C hC => by cases uniq_of uC6 hC; exact ⟨ec_mk cl6 hg6 hk6 bC6 dC6 ha6 hn ht hm6, kit_own rC6 q6x22 cl22 tC22⟩) (all_cons (fun C hC => by cases uniq_of uC7 hC; exact ⟨ec_mk cl7 hg7 hk7 bC7 dC7 ha7 hn ht hm7, kit_own rC7 q7x22 cl22 tC22⟩) (all_cons (fun C hC => by cases uniq_of uC8 hC; exact ⟨ec_mk cl8 hg8 hk8 bC8 dC8 ha8 hn ht hm8, kit_own rC8 q8x22 cl22 tC22⟩) (all_cons (fun C hC => by cases uniq_of uC9 hC; exact ⟨ec_mk cl9 hg9 hk9 bC9 dC9 ha9 hn ht hm9, kit_own rC9 q9x22 cl22 tC22⟩) (all_cons (fun C hC => by cases uniq_of uC10 hC; exact ⟨ec_mk cl10 hg10 hk10 bC10 dC10 ha10 hn ht hm10, kit_own rC10 q10x22 cl22 tC22⟩) (all_cons (fun C hC => by cases uniq_of uC11 hC; exact ⟨ec_mk cl11 hg11 hk11 bC11 dC11 ha11 hn ht hm11, kit_own rC11 q11x22 cl22 tC22⟩) (all_cons (fun C hC => by cases uniq_of uC12 hC; exact ⟨ec_mk cl12 hg12 hk12 bC12 dC12 ha12 hn ht hm12, kit_own rC12 q12x22 cl22 tC22⟩) (all_cons (fun C hC => by cases uniq_of uC13 hC; exact ⟨ec_mk cl13 hg13 hk13 bC13 dC13 ha13 hn ht hm13, kit_own rC13 q13x22 cl22 tC22⟩) (all_cons (fun C hC => by cases uniq_of uC14 hC; exact ⟨ec_mk cl14 hg14 hk14 bC14 dC14 ha14 hn ht hm14, kit_own rC14 q14x22 cl22 tC22⟩) (all_cons (fun C hC => by cases uniq_of uC15 hC; exact ⟨ec_mk cl15 hg15 hk15 bC15 dC15 ha15 hn ht hm15, kit_own rC15 q15x22 cl22 tC22⟩) (all_cons (fun C hC => by cases uniq_of uC16 hC; exact ⟨ec_mk cl16 hg16 hk16 bC16 dC16 ha16 hn ht hm16, kit_own rC16 q16x22 cl22 tC22⟩) (all_cons (fun C hC => by cases uniq_of uC17 hC; exact ⟨ec_mk cl17 hg17 hk17 bC17 dC17 ha17 hn ht hm17, kit_own rC17 q17x22 cl22 tC22⟩) (all_cons (fun C hC => by cases uniq_of uC18 hC; exact ⟨ec_mk cl18 hg18 hk18 bC18 dC18 ha18 hn ht hm18, kit_own rC18 q18x22 cl22 tC22⟩) (all_cons (fun C hC => by cases uniq_of uC19 hC; exact ⟨ec_mk cl19 hg19 hk19 bC19 dC19 ha19 hn ht hm19, kit_own rC19 q19x22 cl22 tC22⟩) (all_cons (fun C hC => by cases uniq_of uC20 hC; exact ⟨ec_mk cl20 hg20 hk20 bC20 dC20 ha20 hn ht hm20, kit_own rC20 q20x22 cl22 tC22⟩) (all_cons (fun C hC => by cases uniq_of uC21 hC; exact ⟨ec_mk cl21 hg21 hk21 bC21 dC21 ha21 hn ht hm21, kit_own rC21 q21x22 cl22 tC22⟩) (all_cons (fun C hC => by cases uniq_of uC22 hC; exact ⟨ec_mk cl22 hg22 hk22 bC22 dC22 ha22 hn ht hm22, kit_own rC22 rC22 cl22 tC22⟩) (all_cons (fun C hC => by cases uniq_of uC23 hC; exact ⟨ec_mk cl23 hg23 hk23 bC23 dC23 ha23 hn ht hm23, kit_own rC23 q23x22 cl22 tC22⟩) (all_cons (fun C hC => by cases uniq_of uC24 hC; exact ⟨ec_mk cl24 hg24 hk24 bC24 dC24 ha24 hn ht hm24, kit_own rC24 q24x22 cl22 tC22⟩) (all_cons (fun C hC => by cases uniq_of uC25 hC; exact ⟨ec_mk cl25 hg25 hk25 bC25 dC25 ha25 hn ht hm25, kit_own rC25 q25x22 cl22 tC22⟩) (all_cons (fun C hC => by cases uniq_of uC26 hC; exact ⟨ec_mk cl26 hg26 hk26 bC26 dC26 ha26 hn ht hm26, kit_own rC26 q26x22 cl22 tC22⟩) (all_cons (fun C hC => by cases uniq_of uC27 hC; exact ⟨ec_mk cl27 hg27 hk27 bC27 dC27 ha27 hn ht hm27, kit_own rC27 q27x22 cl22 tC22⟩) (all_cons (fun C hC => by cases uniq_of uC28 hC; exact ⟨ec_mk cl28 hg28 hk28 bC28 dC28 ha28 hn ht hm28, kit_own rC28 q28x22 cl22 tC22⟩) (all_cons (fun C hC => by cases uniq_of uC29 hC; exact ⟨ec_mk cl29 hg29 hk29 bC29 dC29 ha29 hn ht hm29, kit_own rC29 q29x22 cl22 tC22⟩) (all_nil)))))))))))))))))))))))))))))⟩) (all_cons (fun x e => by cases e; exact ⟨.ref C23, .ref C23, .own _, rfl, (.inl (PySem.W.mg_of X G aC23)), all_cons (fun C hC => by cases uniq_of uC1 hC; exact ⟨ec_mk cl1 hg1 hk1 bC1 dC1 ha1 hn ht hm1, kit_own rC1 q1x23 cl23 tC23⟩) (all_cons (fun C hC => by cases uniq_of uC2 hC; exact ⟨ec_mk cl2 hg2 hk2 bC2 dC2 ha2 hn ht hm2, kit_own rC2 q2x23 cl23 tC23⟩) (all_cons (fun C hC => by cases uniq_of uC3 hC; exact ⟨ec_mk cl3 hg3 hk3 bC3 dC3 ha3 hn ht hm3, kit_own rC3 q3x23 cl23 tC23⟩) (all_cons (fun C hC => by cases uniq_of uC4 hC; exact ⟨ec_mk cl4 hg4 hk4 bC4 dC4 ha4 hn ht hm4, kit_own rC4 q4x23 cl23 tC23⟩) (all_cons (fun C hC => by cases uniq_of uC5 hC; exact ⟨ec_mk cl5 hg5 hk5 bC5 dC5 ha5 hn ht hm5, kit_own rC5 q5x23 cl23 tC23⟩) (all_cons (fun C hC => by cases uniq_of uC6 hC; exact ⟨ec_mk cl6 hg6 hk6 bC6 dC6 ha6 hn ht hm6, kit_own rC6 q6x23 cl23 tC23⟩) (all_cons (fun C hC => by cases uniq_of uC7 hC; exact ⟨ec_mk cl7 hg7 hk7 bC7 dC7 ha7 hn ht hm7, kit_own rC7 q7x23 cl23 tC23⟩) (all_cons (fun C hC => by cases uniq_of uC8 hC; exact ⟨ec_mk cl8 hg8 hk8 bC8 dC8 ha8 hn ht hm8, kit_own rC8 q8x23 cl23 tC23⟩) (all_cons (fun C hC => by cases uniq_of uC9 hC; exact ⟨ec_mk cl9 hg9 hk9 bC9 dC9 ha9 hn ht hm9, kit_own rC9 q9x23 cl23 tC23⟩) (all_cons (fun C hC => by cases uniq_of uC10 hC; exact ⟨ec_mk cl10 hg10 hk10 bC10 dC10 ha10 hn ht hm10, kit_own rC10 q10x23 cl23 tC23⟩) (all_cons (fun C hC => by cases uniq_of uC11 hC; exact ⟨ec_mk cl11 hg11 hk11 bC11 dC11 ha11 hn ht hm11, kit_own rC11 q11x23 cl23 tC23⟩) (all_cons (fun C hC => by cases uniq_of uC12 hC; exact ⟨ec_mk cl12 hg12 hk12 bC12 dC12 ha12 hn ht hm12, kit_own rC12 q12x23 cl23 tC23⟩) (all_cons (fun C hC => by cases uniq_of uC13 hC; exact ⟨ec_mk cl13 hg13 hk13 bC13 dC13 ha13 hn ht hm13, kit_own rC13 q13x23 cl23 tC23⟩) (all_cons (fun C hC => by cases uniq_of uC14 hC; exact ⟨ec_mk cl14 hg14 hk14 bC14 dC14 ha14 hn ht hm14, kit_own rC14 q14x23 cl23 tC23⟩) (all_cons (fun C hC => by cases uniq_of uC15 hC; exact ⟨ec_mk cl15 hg15 hk15 bC15 dC15 ha15 hn ht hm15, kit_own rC15 q15x23 cl23 tC23⟩) (all_cons (fun C hC => by cases uniq_of uC16 hC; exact ⟨ec_mk cl16 hg16 hk16 bC16 dC16 ha16 hn ht hm16, kit_own rC16 q16x23 cl23 tC23⟩) (all_cons (fun C hC => by cases uniq_of uC17 hC; exact ⟨ec_mk cl17 hg17 hk17 bC17 dC17 ha17 hn ht hm17, kit_own rC17 q17x23 cl23 tC23⟩) (all_cons (fun C hC => by cases uniq_of uC18 hC; exact ⟨ec_mk cl18 hg18 hk18 bC18 dC18 ha18 hn ht hm18, kit_own rC18 q18x23 cl23 tC23⟩) (all_cons (fun C hC => by cases uniq_of uC19 hC; exact ⟨ec_mk cl19 hg19 hk19 bC19 dC19 ha19 hn ht hm19, kit_own rC19 q19x23 cl23 tC23⟩) (all_cons (fun C hC => by cases uniq_of uC20 hC; exact ⟨ec_mk cl20 hg20 hk20 bC20 dC20 ha20 hn ht hm20, kit_own rC20 q20x23 cl23 tC23⟩) (all_cons (fun C hC => by cases uniq_of uC21 hC; exact ⟨ec_mk cl21 hg21 hk21 bC21 dC21 ha21 hn ht hm21, kit_own rC21 q21x23 cl23 tC23⟩) (all_cons (fun C hC => by cases uniq_of uC22 hC; exact ⟨ec_mk cl22 hg22 hk22 bC22 dC22 ha22 hn ht hm22, kit_own rC22 q22x23 cl23 tC23⟩) (all_cons (fun C hC => by cases uniq_of uC23 hC; exact ⟨ec_mk cl23 hg23 hk23 bC23 dC23 ha23 hn ht hm23, kit_own rC23 rC23 cl23 tC23⟩) (all_cons (fun C hC => by cases uniq_of uC24 hC; exact ⟨ec_mk cl24 hg24 hk24 bC24 dC24 ha24 hn ht hm24, kit_own rC24 q24x23 cl23 tC23⟩) (all_cons (fun C hC => by cases uniq_of uC25 hC; exact ⟨ec_mk cl25 hg25 hk25 bC25 dC25 ha25 hn ht hm25, kit_own rC25 q25x23 cl23 tC23⟩) (all_cons (fun C hC => by cases uniq_of uC26 hC; exact ⟨ec_mk cl26 hg26 hk26 bC26 dC26 ha26 hn ht hm26, kit_own rC26 q26x23 cl23 tC23⟩) (all_cons (fun C hC => by cases uniq_of uC27 hC; exact ⟨ec_mk cl27 hg27 hk27 bC27 dC27 ha27 hn ht hm27, kit_own rC27 q27x23 cl23 tC23⟩) (all_cons (fun C hC => by cases uniq_of uC28 hC; exact ⟨ec_mk cl28 hg28 hk28 bC28 dC28 ha28 hn ht hm28, kit_own rC28 q28x23 cl23 tC23⟩) (all_cons (fun C hC => by cases uniq_of uC29 hC; exact ⟨ec_mk cl29 hg29 hk29 bC29 dC29 ha29 hn ht hm29, kit_own rC29 q29x23 cl23 tC23⟩) (all_nil)))))))))))))))))))))))))))))⟩) (all_cons (fun x e => by cases e; exact ⟨.ref C24, .ref C24, .own _, rfl, (.inl (PySem.W.mg_of X G aC24)), all_cons (fun C hC => by cases uniq_of uC1 hC; exact ⟨ec_mk cl1 hg1 hk1 bC1 dC1 ha1 hn ht hm1, kit_own rC1 q1x24 cl24 tC24⟩) (all_cons (fun C hC => by cases uniq_of uC2 hC; exact ⟨ec_mk cl2 hg2 hk2 bC2 dC2 ha2 hn ht hm2, kit_own rC2 q2x24 cl24 tC24⟩) (all_cons (fun C hC => by cases uniq_of uC3 hC; exact ⟨ec_mk cl3 hg3 hk3 bC3 dC3 ha3 hn ht hm3, kit_own rC3 q3x24 cl24 tC24⟩) (all_cons (fun C hC => by cases uniq_of uC4 hC; exact ⟨ec_mk cl4 hg4 hk4 bC4 dC4 ha4 hn ht hm4, kit_own rC4 q4x24 cl24 tC24⟩) (all_cons (fun C hC => by cases uniq_of uC5 hC; exact ⟨ec_mk cl5 hg5 hk5 bC5 dC5 ha5 hn ht hm5, kit_own rC5 q5x24 cl24 tC24⟩) (all_cons (fun C hC => by cases uniq_of uC6 hC; exact ⟨ec_mk cl6 hg6 hk6 bC6 dC6 ha6 hn ht hm6, kit_own rC6 q6x24 cl24 tC24⟩) (all_cons (fun C hC => by cases uniq_of uC7 hC; exact ⟨ec_mk cl7 hg7 hk7 bC7 dC7 ha7 hn ht hm7, kit_own rC7 q7x24 cl24 tC24⟩) (all_cons (fun C hC => by cases uniq_of uC8 hC; exact ⟨ec_mk cl8 hg8 hk8 bC8 dC8 ha8 hn ht hm8, kit_own rC8 q8x24 cl24 tC24⟩) (all_cons (fun C hC => by cases uniq_of uC9 hC; exact ⟨ec_mk cl9 hg9 hk9 bC9 dC9 ha9 hn ht hm9, kit_own rC9 q9x24 cl24 tC24⟩) (all_cons (fun C hC => by cases uniq_of uC10 hC; exact ⟨ec_mk cl10 hg10 hk10 bC10 dC10 ha10 hn ht hm10, kit_own rC10 q10x24 cl24 tC24⟩) (all_cons (fun C hC => by cases uniq_of uC11 hC; exact ⟨ec_mk cl11 hg11 hk11 bC11 dC11 ha11 hn ht hm11, kit_own rC11 q11x24 cl24 tC24⟩) (all_cons (fun C hC => by cases uniq_of uC12 hC; exact ⟨ec_mk cl12 hg12 hk12 bC12 dC12 ha12 hn ht hm12, kit_own rC12 q12x24 cl24 tC24⟩) (all_cons (fun C hC => by cases uniq_of uC13 hC; exact ⟨ec_mk cl13 hg13 hk13 bC13 dC13 ha13 hn ht hm13, kit_own rC13 q13x24 cl24 tC24⟩) (all_cons (fun C hC => by cases uniq_of uC14 hC; exact ⟨ec_mk cl14 hg14 hk14 bC14 dC14 ha14 hn ht hm14, kit_own rC14 q14x24 cl24 tC24⟩) (all_cons (fun C hC => by cases uniq_of uC15 hC; exact ⟨ec_mk cl15 hg15 hk15 bC15 dC15 ha15 hn ht hm15, kit_own rC15 q15x24 cl24 tC24⟩) (all_cons (fun C hC => by cases uniq_of uC16 hC; exact ⟨ec_mk cl16 hg16 hk16 bC16 dC16 ha16 hn ht hm16, kit_own rC16 q16x24 cl24 tC24⟩) (all_cons (fun C hC => by cases uniq_of uC17 hC; exact ⟨ec_mk cl17 hg17 hk17 bC17 dC17 ha17 hn ht hm17, kit_own rC17 q17x24 cl24 tC24⟩) (all_cons (fun C hC => by cases uniq_of uC18 hC; exact ⟨ec_mk cl18 hg18 hk18 bC18 dC18 ha18 hn ht hm18, kit_own rC18 q18x24 cl24 tC24⟩) (all_cons (fun C hC => by cases uniq_of uC19 hC; exact ⟨ec_mk cl19 hg19 hk19 bC19 dC19 ha19 hn ht hm19, kit_own rC19 q19x24 cl24 tC24⟩) (all_cons (fun C hC => by cases uniq_of uC20 hC; exact ⟨ec_mk cl20 hg20 hk20 bC20 dC20 ha20 hn ht hm20, kit_own rC20 q20x24 cl24 tC24⟩) (all_cons (fun C hC => by cases uniq_of uC21 hC; exact ⟨ec_mk cl21 hg21 hk21 bC21 dC21 ha21 hn ht hm21, kit_own rC21 q21x24 cl24 tC24⟩) (all_cons (fun C hC => by cases uniq_of uC22 hC; exact ⟨ec_mk cl22 hg22 hk22 bC22 dC22 ha22 hn ht hm22, kit_own rC22 q22x24 cl24 tC24⟩) (all_cons (fun C hC => by cases uniq_of uC23 hC; exact ⟨ec_mk cl23 hg23 hk23 bC23 dC23 ha23 hn ht hm23, kit_own rC23 q23x24 cl24 tC24⟩) (all_cons (fun C hC => by cases uniq_of uC24 hC; exact ⟨ec_mk cl24 hg24 hk24 bC24 dC24 ha24 hn ht hm24, kit_own rC24 rC24 cl24 tC24⟩) (all_cons (fun C hC => by cases uniq_of uC25 hC; exact ⟨ec_mk cl25 hg25 hk25 bC25 dC25 ha25 hn ht hm25, kit_own rC25 q25x24 cl24 tC24⟩) (all_cons (fun C hC => by cases uniq_of uC26 hC; exact ⟨ec_mk cl26 hg26 hk26 bC26 dC26 ha26 hn ht hm26, kit_own rC26 q26x24 cl24 tC24⟩) (all_cons (fun C hC => by cases uniq_of uC27 hC; exact ⟨ec_mk cl27 hg27 hk27 bC27 dC27 ha27 hn ht hm27, kit_own rC27 q27x24 cl24 tC24⟩) (all_cons (fun C hC => by cases uniq_of uC28 hC; exact ⟨ec_mk cl28 hg28 hk28 bC28 dC28 ha28 hn ht hm28, kit_own rC28 q28x24 cl24 tC24⟩) (all_cons (fun C hC => by cases uniq_of uC29 hC; exact ⟨ec_mk cl29 hg29 hk29 bC29 dC29 ha29 hn ht hm29, kit_own rC29 q29x24 cl24 tC24⟩) (all_nil)))))))))))))))))))))))))))))⟩) (all_cons (fun x e => by cases e; exact ⟨.ref C25, .ref C25, .own _, rfl, (.inl (PySem.W.mg_of X G aC25)), all_cons (fun C hC => by cases uniq_of uC1 hC; exact ⟨ec_mk cl1 hg1 hk1 bC1 dC1 ha1 hn ht hm1, kit_own rC1 q1x25 cl25 tC25⟩) (all_cons (fun C hC => by cases uniq_of uC2 hC; exact ⟨ec_mk cl2 hg2 hk2 bC2 dC2 ha2 hn ht hm2, kit_own rC2 q2x25 cl25 tC25⟩) (all_cons (fun C hC => by cases uniq_of uC3 hC; exact ⟨ec_mk cl3 hg3 hk3 bC3 dC3 ha3 hn ht hm3, kit_own rC3 q3x25 cl25 tC25⟩) (all_cons (fun C hC => by cases uniq_of uC4 hC; exact ⟨ec_mk cl4 hg4 hk4 bC4 dC4 ha4 hn ht hm4, kit_own rC4 q4x25 cl25 tC25⟩) (all_cons (fun C hC => by cases uniq_of uC5 hC; exact ⟨ec_mk cl5 hg5 hk5 bC5 dC5 ha5 hn ht hm5, kit_own rC5 q5x25 cl25 tC25⟩) (all_cons (fun C hC => by cases uniq_of uC6 hC; exact ⟨ec_mk cl6 hg6 hk6 bC6 dC6 ha6 hn ht hm6, kit_own rC6 q6x25 cl25 tC25⟩) (all_cons (fun C hC => by cases uniq_of uC7 hC; exact ⟨ec_mk cl7 hg7 hk7 bC7 dC7 ha7 hn ht hm7, kit_own rC7 q7x25 cl25 tC25⟩) (all_cons (fun C hC => by cases uniq_of uC8 hC; exact ⟨ec_mk cl8 hg8 hk8 bC8 dC8 ha8 hn ht hm8, kit_own rC8 q8x25 cl25 tC25⟩) (all_cons (fun C hC => by cases uniq_of uC9 hC; exact ⟨ec_mk cl9 hg9 hk9 bC9 dC9 ha9 hn ht hm9, kit_own rC9 q9x25 cl25 tC25⟩) (all_cons (fun C hC => by cases uniq_of uC10 hC; exact ⟨ec_mk cl10 hg10 hk10 bC10 dC10 ha10 hn ht hm10, kit_own rC10 q10x25 cl25 tC25⟩) (all_cons (fun C hC => by cases uniq_of uC11 hC; exact ⟨ec_mk cl11 hg11 hk11 bC11 dC11 ha11 hn ht hm11, kit_own rC11 q11x25 cl25 tC25⟩) (all_cons (fun C hC => by cases uniq_of uC12 hC; exact ⟨ec_mk cl12 hg12 hk12 bC12 dC12 ha12 hn ht hm12, kit_own rC12 q12x25 cl25 tC25⟩) (all_cons (fun C hC => by cases uniq_of uC13 hC; exact ⟨ec_mk cl13 hg13 hk13 bC13 dC13 ha13 hn ht hm13, kit_own rC13 q13x25 cl25 tC25⟩) (all_cons (fun C hC => by cases uniq_of uC14 hC; exact ⟨ec_mk cl14 hg14 hk14 bC14 dC14 ha14 hn ht hm14, kit_own rC14 q14x25 cl25 tC25⟩) (all_cons (fun C hC => by cases uniq_of uC15 hC; exact ⟨ec_mk cl15 hg15 hk15 bC15 dC15 ha15 hn ht hm15, kit_own rC15 q15x25 cl25 tC25⟩) (all_cons (fun C hC => by cases uniq_of uC16 hC; exact ⟨ec_mk cl16 hg16 hk16 bC16 dC16 ha16 hn ht hm16, kit_own rC16 q16x25 cl25 tC25⟩) (all_cons (fun C hC => by cases uniq_of uC17 hC; exact ⟨ec_mk cl17 hg17 hk17 bC17 dC17 ha17 hn ht hm17, kit_own rC17 q17x25 cl25 tC25⟩) (all_cons (fun C hC => by cases uniq_of uC18 hC; exact ⟨ec_mk cl18 hg18 hk18 bC18 dC18 ha18 hn ht hm18, kit_own rC18 q18x25 cl25 tC25⟩) (all_cons (fun C hC => by cases uniq_of uC19 hC; exact ⟨ec_mk cl19 hg19 hk19 bC19 dC19 ha19 hn ht hm19, kit_own rC19 q19x25 cl25 tC25⟩) (all_cons (fun C hC => by cases uniq_of uC20 hC; exact ⟨ec_mk cl20 hg20 hk20 bC20 dC20 ha20 hn ht hm20, kit_own rC20 q20x25 cl25 tC25⟩) (all_cons (fun C hC => by cases uniq_of uC21 hC; exact ⟨ec_mk cl21 hg21 hk21 bC21 dC21 ha21 hn ht hm21, kit_own rC21 q21x25 cl25 tC25⟩) (all_cons (fun C hC => by cases uniq_of uC22 hC; exact ⟨ec_mk cl22 hg22 hk22 bC22 dC22 ha22 hn ht hm22, kit_own rC22 q22x25 cl25 tC25⟩) (all_cons (fun C hC => by cases uniq_of uC23 hC; exact ⟨ec_mk cl23 hg23 hk23 bC23 dC23 ha23 hn ht hm23, kit_own rC23 q23x25 cl25 tC25⟩) (all_cons (fun C hC => by cases uniq_of uC24 hC; exact ⟨ec_mk cl24 hg24 hk24 bC24 dC24 ha24 hn ht hm24, kit_own rC24 q24x25 cl25 tC25⟩) (all_cons (fun C hC => by cases uniq_of uC25 hC; exact ⟨ec_mk cl25 hg25 hk25 bC25 dC25 ha25 hn ht hm25, kit_own rC25 rC25 cl25 tC25⟩) (all_cons (fun C hC => by cases uniq_of uC26 hC; exact ⟨ec_mk cl26 hg26 hk26 bC26 dC26 ha26 hn ht hm26, kit_own rC26 q26x25 cl25 tC25⟩) (all_cons (fun C hC => by cases uniq_of uC27 hC; exact ⟨ec_mk cl27 hg27 hk27 bC27 dC27 ha27 hn ht hm27, kit_own rC27 q27x25 cl25 tC25⟩) (all_cons (fun C hC => by cases uniq_of uC28 hC; exact ⟨ec_mk cl28 hg28 hk28 bC28 dC28 ha28 hn ht hm28, kit_own rC28 q28x25 cl25 tC25⟩) (all_cons (fun C hC => by cases uniq_of uC29 hC; exact ⟨ec_mk cl29 hg29 hk29 bC29 dC29 ha29 hn ht hm29, kit_own rC29 q29x25 cl25 tC25⟩) (all_nil)))))))))))))))))))))))))))))⟩) (all_cons (fun x e => by cases e; exact ⟨.ref C26, .ref C26, .own _, rfl, (.inl (PySem.W.mg_of X G aC26)), all_cons (fun C hC => by cases uniq_of uC1 hC; exact ⟨ec_mk cl1 hg1 hk1 bC1 dC1 ha1 hn ht hm1, kit_own rC1 q1x26 cl26 tC26⟩) (all_cons (fun C hC => by cases uniq_of uC2 hC; exact ⟨ec_mk cl2 hg2 hk2 bC2 dC2 ha2 hn ht hm2, kit_own rC2 q2x26 cl26 tC26⟩) (all_cons (fun C hC => by cases uniq_of uC3 hC; exact ⟨ec_mk cl3 hg3 hk3 bC3 dC3 ha3 hn ht hm3, kit_own rC3 q3x26 cl26 tC26⟩) (all_cons (fun C hC => by cases uniq_of uC4 hC; exact ⟨ec_mk cl4 hg4 hk4 bC4 dC4 ha4 hn ht hm4, kit_own rC4 q4x26 cl26 tC26⟩) (all_cons (fun C hC => by cases uniq_of uC5 hC; exact ⟨ec_mk cl5 hg5 hk5 bC5 dC5 ha5 hn ht hm5, kit_own rC5 q5x26 cl26 tC26⟩) (all_cons (fun C hC => by cases uniq_of uC6 hC; exact ⟨ec_mk cl6 hg6 hk6 bC6 dC6 ha6 hn ht hm6, kit_own rC6 q6x26 cl26 tC26⟩) (all_cons (fun C hC => by cases uniq_of uC7 hC; exact ⟨ec_mk cl7 hg7 hk7 bC7 dC7 ha7 hn ht hm7, kit_own rC7 q7x26 cl26 tC26⟩) (all_cons (fun C hC => by cases uniq_of uC8 hC; exact ⟨ec_mk cl8 hg8 hk8 bC8 dC8 ha8 hn ht hm8, kit_own rC8 q8x26 cl26 tC26⟩) (all_cons (fun C hC => by cases uniq_of uC9 hC; exact ⟨ec_mk cl9 hg9 hk9 bC9 dC9 ha9 hn ht hm9, kit_own rC9 q9x26 cl26 tC26⟩) (all_cons (fun C hC => by cases uniq_of uC10 hC; exact ⟨ec_mk cl10 hg10 hk10 bC10 dC10 ha10 hn ht hm10, kit_own rC10 q10x26 cl26 tC26⟩) (all_cons (fun C hC => by cases uniq_of uC11 hC; exact ⟨ec_mk cl11 hg11 hk11 bC11 dC11 ha11 hn ht hm11, kit_own rC11 q11x26 cl26 tC26⟩) (all_cons (fun C hC => by cases uniq_of uC12 hC; exact ⟨ec_mk cl12 hg12 hk12 bC12 dC12 ha12 hn ht hm12, kit_own rC12 q12x26 cl26 tC26⟩) (all_cons (fun C hC => by cases uniq_of uC13 hC; exact ⟨ec_mk cl13 hg13 hk13 bC13 dC13 ha13 hn ht hm13, kit_own rC13 q13x26 cl26 tC26⟩) (all_cons (fun C hC => by cases uniq_of uC14 hC; exact ⟨ec_mk cl14 hg14 hk14 bC14 dC14 ha14 hn ht hm14, kit_own rC14 q14x26 cl26 tC26⟩) (all_cons (fun C hC => by cases uniq_of uC15 hC; exact ⟨ec_mk cl15 hg15 hk15 bC15 dC15 ha15 hn ht hm15, kit_own rC15 q15x26 cl26 tC26⟩) (all_cons (fun C hC => by cases uniq_of uC16 hC; exact ⟨ec_mk cl16 hg16 hk16 bC16 dC16 ha16 hn ht hm16, kit_own rC16 q16x26 cl26 tC26⟩) (all_cons (fun C hC => by cases uniq_of uC17 hC; exact ⟨ec_mk cl17 hg17 hk17 bC17 dC17 ha17 hn ht hm17, kit_own rC17 q17x26 cl26 tC26⟩) (all_cons (fun C hC => by cases uniq_of uC18 hC; exact ⟨ec_mk cl18 hg18 hk18 bC18 dC18 ha18 hn ht hm18, kit_own rC18 q18x26 cl26 tC26⟩) (all_cons (fun C hC => by cases uniq_of uC19 hC; exact ⟨ec_mk cl19 hg19 hk19 bC19 dC19 ha19 hn ht hm19, kit_own rC19 q19x26 cl26 tC26⟩) (all_cons (fun C hC => by cases uniq_of uC20 hC; exact ⟨ec_mk cl20 hg20 hk20 bC20 dC20 ha20 hn ht hm20, kit_own rC20 q20x26 cl26 tC26⟩) (all_cons (fun C hC => by cases uniq_of uC21 hC; exact ⟨ec_mk cl21 hg21 hk21 bC21 dC21 ha21 hn ht hm21, kit_own rC21 q21x26 cl26 tC26⟩) (all_cons (fun C hC => by cases uniq_of uC22 hC; exact ⟨ec_mk cl22 hg22 hk22 bC22 dC22 ha22 hn ht hm22, kit_own rC22 q22x26 cl26 tC26⟩) (all_cons (fun C hC => by cases uniq_of uC23 hC; exact ⟨ec_mk cl23 hg23 hk23 bC23 dC23 ha23 hn ht hm23, kit_own rC23 q23x26 cl26 tC26⟩) (all_cons (fun C hC => by cases uniq_of uC24 hC; exact ⟨ec_mk cl24 hg24 hk24 bC24 dC24 ha24 hn ht hm24, kit_own rC24 q24x26 cl26 tC26⟩) (all_cons (fun C hC => by cases uniq_of uC25 hC; exact ⟨ec_mk cl25 hg25 hk25 bC25 dC25 ha25 hn ht hm25, kit_own rC25 q25x26 cl26 tC26⟩) (all_cons (fun C hC => by cases uniq_of uC26 hC; exact ⟨ec_mk cl26 hg26 hk26 bC26 dC26 ha26 hn ht hm26, kit_own rC26 rC26 cl26 tC26⟩) (all_cons (fun C hC => by cases uniq_of uC27 hC; exact ⟨ec_mk cl27 hg27 hk27 bC27 dC27 ha27 hn ht hm27, kit_own rC27 q27x26 cl26 tC26⟩) (all_cons (fun C hC => by cases uniq_of uC28 hC; exact ⟨ec_mk cl28 hg28 hk28 bC28 dC28 ha28 hn ht hm28, kit_own rC28 q28x26 cl26 tC26⟩) (all_cons (fun C hC => by cases uniq_of uC29 hC; exact ⟨ec_mk cl29 hg29 hk29 bC29 dC29 ha29 hn ht hm29, kit_own rC29 q29x26 cl26 tC26⟩) (all_nil)))))))))))))))))))))))))))))⟩) (all_cons (fun x e => by cases e; exact ⟨.ref C27, .ref C27, .own _, rfl, (.inl (PySem.W.mg_of X G aC27)), all_cons (fun C hC => by cases uniq_of uC1 hC; exact ⟨ec_mk cl1 hg1 hk1 bC1 dC1 ha1 hn ht hm1, kit_own rC1 q1x27 cl27 tC27⟩) (all_cons (fun C hC => by cases uniq_of uC2 hC; exact ⟨ec_mk cl2 hg2 hk2 bC2 dC2 ha2 hn ht hm2, kit_own rC2 q2x27 cl27 tC27⟩) (all_cons (fun C hC => by cases uniq_of uC3 hC; exact ⟨ec_mk cl3 hg3 hk3 bC3 dC3 ha3 hn ht hm3, kit_own rC3 q3x27 cl27 tC27⟩) (all_cons (fun C hC => by cases uniq_of uC4 hC; exact ⟨ec_mk cl4 hg4 hk4 bC4 dC4 ha4 hn ht hm4, kit_own rC4 q4x27 cl27 tC27⟩) (all_cons (fun C hC => by cases uniq_of uC5 hC; exact ⟨ec_mk cl5 hg5 hk5 bC5 dC5 ha5 hn ht hm5, kit_own rC5 q5x27 cl27 tC27⟩) (all_cons (fun C hC => by cases uniq_of uC6 hC; exact ⟨ec_mk cl6 hg6 hk6 bC6 dC6 ha6 hn ht hm6, kit_own rC6 q6x27 cl27 tC27⟩) (all_cons (fun C hC => by cases uniq_of uC7 hC; exact ⟨ec_mk cl7 hg7 hk7 bC7 dC7 ha7 hn ht hm7, kit_own rC7 q7x27 cl27 tC27⟩) (all_cons (fun C hC => by cases uniq_of uC8 hC; exact ⟨ec_mk cl8 hg8 hk8 bC8 dC8 ha8 hn ht hm8, kit_own rC8 q8x27 cl27 tC27⟩) (all_cons (fun C hC => by cases uniq_of uC9 hC; exact ⟨ec_mk cl9 hg9 hk9 bC9 dC9 ha9 hn ht hm9, kit_own rC9 q9x27 cl27 tC27⟩) (all_cons (fun C hC => by cases uniq_of uC10 hC; exact ⟨ec_mk cl10 hg10 hk10 bC10 dC10 ha10 hn ht hm10, kit_own rC10 q10x27 cl27 tC27⟩) (all_cons (fun C hC => by cases uniq_of uC11 hC; exact ⟨ec_mk cl11 hg11 hk11 bC11 dC11 ha11 hn ht hm11, kit_own rC11 q11x27 cl27 tC27⟩) (all_cons (fun C hC => by cases uniq_of uC12 hC; exact ⟨ec_mk cl12 hg12 hk12 bC12 dC12 ha12 hn ht hm12, kit_own rC12 q12x27 cl27 tC27⟩) (all_cons (fun C hC => by cases uniq_of uC13 hC; exact ⟨ec_mk cl13 hg13 hk13 bC13 dC13 ha13 hn ht hm13, kit_own rC13 q13x27 cl27 tC27⟩) (all_cons (fun C hC => by cases uniq_of uC14 hC; exact ⟨ec_mk cl14 hg14 hk14 bC14 dC14 ha14 hn ht hm14, kit_own rC14 q14x27 cl27 tC27⟩) (all_cons (fun C hC => by cases uniq_of uC15 hC; exact ⟨ec_mk cl15 hg15 hk15 bC15 dC15 ha15 hn ht hm15, kit_own rC15 q15x27 cl27 tC27⟩) (all_cons (fun C hC => by cases uniq_of uC16 hC; exact ⟨ec_mk cl16 hg16 hk16 bC16 dC16 ha16 hn ht hm16, kit_own rC16 q16x27 cl27 tC27⟩) (all_cons (fun C hC => by cases uniq_of uC17 hC; exact ⟨ec_mk cl17 hg17 hk17 bC17 dC17 ha17 hn ht hm17, kit_own rC17 q17x27 cl27 tC27⟩) (all_cons (fun C hC => by cases uniq_of uC18 hC; exact ⟨ec_mk cl18 hg18 hk18 bC18 dC18 ha18 hn ht hm18, kit_own rC18 q18x27 cl27 tC27⟩) (all_cons (fun C hC => by cases uniq_of uC19 hC; exact ⟨ec_mk cl19 hg19 hk19 bC19 dC19 ha19 hn ht hm19, kit_own rC19 q19x27 cl27 tC27⟩) (all_cons (fun C hC => by cases uniq_of uC20 hC; exact ⟨ec_mk cl20 hg20 hk20 bC20 dC20 ha20 hn ht hm20, kit_own rC20 q20x27 cl27 tC27⟩) (all_cons (fun C hC => by cases uniq_of uC21 hC; exact ⟨ec_mk cl21 hg21 hk21 bC21 dC21 ha21 hn ht hm21, kit_own rC21 q21x27 cl27 tC27⟩) (all_cons (fun C hC => by cases uniq_of uC22 hC; exact ⟨ec_mk cl22 hg22 hk22 bC22 dC22 ha22 hn ht hm22, kit_own rC22 q22x27 cl27 tC27⟩) (all_cons (fun C hC => by cases uniq_of uC23 hC; exact ⟨ec_mk cl23 hg23 hk23 bC23 dC23 ha23 hn ht hm23, kit_own rC23 q23x27 cl27 tC27⟩) (all_cons (fun C hC => by cases uniq_of uC24 hC; exact ⟨ec_mk cl24 hg24 hk24 bC24 dC24 ha24 hn ht hm24, kit_own rC24 q24x27 cl27 tC27⟩) (all_cons (fun C hC => by cases uniq_of uC25 hC; exact ⟨ec_mk cl25 hg25 hk25 bC25 dC25 ha25 hn ht hm25, kit_own rC25 q25x27 cl27 tC27⟩) (all_cons (fun C hC => by cases uniq_of uC26 hC; exact ⟨ec_mk cl26 hg26 hk26 bC26 dC26 ha26 hn ht hm26, kit_own rC26 q26x27 cl27 tC27⟩) (all_cons (fun C hC => by cases uniq_of uC27 hC; exact ⟨ec_mk cl27 hg27 hk27 bC27 dC27 ha27 hn ht hm27, kit_own rC27 rC27 cl27 tC27⟩) (all_cons (fun C hC => by cases uniq_of uC28 hC; exact ⟨ec_mk cl28 hg28 hk28 bC28 dC28 ha28 hn ht hm28, kit_own rC28 q28x27 cl27 tC27⟩) (all_cons (fun C hC => by cases uniq_of uC29 hC; exact ⟨ec_mk cl29 hg29 hk29 bC29 dC29 ha29 hn ht hm29, kit_own rC29 q29x27 cl27 tC27⟩) (all_nil)))))))))))))))))))))))))))))⟩) (all_cons (fun x e => by cases e; exact ⟨.ref C28, .ref C28, .own _, rfl, (.inl (PySem.W.mg_of X G aC28)), all_cons (fun C hC => by cases uniq_of uC1 hC; exact ⟨ec_mk cl1 hg1 hk1 bC1 dC1 ha1 hn ht hm1, kit_own rC1 q1x28 cl28 tC28⟩) (all_cons (fun C hC => by cases uniq_of uC2 hC; exact ⟨ec_mk cl2 hg2 hk2 bC2 dC2 ha2 hn ht hm2, kit_own rC2 q2x28 cl28 tC28⟩) (all_cons (fun C hC => by cases uniq_of uC3 hC; exact ⟨ec_mk cl3 hg3 hk3 bC3 dC3 ha3 hn ht hm3, kit_own rC3 q3x28 cl28 tC28⟩) (all_cons (fun C hC => by cases uniq_of uC4 hC; exact ⟨ec_mk cl4 hg4 hk4 bC4 dC4 ha4 hn ht hm4, kit_own rC4 q4x28 cl28 tC28⟩) (all_cons (fun C hC => by cases uniq_of uC5 hC; exact ⟨ec_mk cl5 hg5 hk5 bC5 dC5 ha5 hn ht hm5, kit_own rC5 q5x28 cl28 tC28⟩) (all_cons (fun C hC => by cases uniq_of uC6 hC; exact ⟨ec_mk cl6 hg6 hk6 bC6 dC6 ha6 hn ht hm6, kit_own rC6 q6x28 cl28 tC28⟩) (all_cons (fun C hC => by cases uniq_of uC7 hC; exact ⟨ec_mk cl7 hg7 hk7 bC7 dC7 ha7 hn ht hm7, kit_own rC7 q7x28 cl28 tC28⟩) (all_cons (fun C hC => by cases uniq_of uC8 hC; exact ⟨ec_mk cl8 hg8 hk8 bC8 dC8 ha8 hn ht hm8, kit_own rC8 q8x28 cl28 tC28⟩) (all_cons (fun C hC => by cases uniq_of uC9 hC; exact ⟨ec_mk cl9 hg9 hk9 bC9 dC9 ha9 hn ht hm9, kit_own rC9 q9x28 cl28 tC28⟩) (all_cons (fun C hC => by cases uniq_of uC10 hC; exact ⟨ec_mk cl10 hg10 hk10 bC10 dC10 ha10 hn ht hm10, kit_own rC10 q10x28 cl28 tC28⟩) (all_cons (fun C hC => by cases uniq_of uC11 hC; exact ⟨ec_mk cl11 hg11 hk11 bC11 dC11 ha11 hn ht hm11, kit_own rC11 q11x28 cl28 tC28⟩) (all_cons (fun C hC => by cases uniq_of uC12 hC; exact ⟨ec_mk cl12 hg12 hk12 bC12 dC12 ha12 hn ht hm12, kit_own rC12 q12x28 cl28 tC28⟩) (all_cons (fun C hC => by cases uniq_of uC13 hC; exact ⟨ec_mk cl13 hg13 hk13 bC13 dC13 ha13 hn ht hm13, kit_own rC13 q13x28 cl28 tC28⟩) (all_cons (fun C hC => by cases uniq_of uC14 hC; exact ⟨ec_mk cl14 hg14 hk14 bC14 dC14 ha14 hn ht hm14, kit_own rC14 q14x28 cl28 tC28⟩) (all_cons (fun C hC => by cases uniq_of uC15 hC; exact ⟨ec_mk cl15 hg15 hk15 bC15 dC15 ha15 hn ht hm15, kit_own rC15 q15x28 cl28 tC28⟩) (all_cons (fun C hC => by cases uniq_of uC16 hC; exact ⟨ec_mk cl16 hg16 hk16 bC16 dC16 ha16 hn ht hm16, kit_own rC16 q16x28 cl28 tC28⟩) (all_cons (fun C hC => by cases uniq_of uC17 hC; exact ⟨ec_mk cl17 hg17 hk17 bC17 dC17 ha17 hn ht hm17, kit_own rC17 q17x28 cl28 tC28⟩) (all_cons (fun C hC => by cases uniq_of uC18 hC; exact ⟨ec_mk cl18 hg18 hk18 bC18 dC18 ha18 hn ht hm18, kit_own rC18 q18x28 cl28 tC28⟩) (all_cons (fun C hC => by cases uniq_of uC19 hC; exact ⟨ec_mk cl19 hg19 hk19 bC19 dC19 ha19 hn ht hm19, kit_own rC19 q19x28 cl28 tC28⟩) (all_cons (fun C hC => by cases uniq_of uC20 hC; exact ⟨ec_mk cl20 hg20 hk20 bC20 dC20 ha20 hn ht hm20, kit_own rC20 q20x28 cl28 tC28⟩) (all_cons (fun C hC => by cases uniq_of uC21 hC; exact ⟨ec_mk cl21 hg21 hk21 bC21 dC21 ha21 hn ht hm21, kit_own rC21 q21x28 cl28 tC28⟩) (all_cons (fun C hC => by cases uniq_of uC22 hC; exact ⟨ec_mk cl22 hg22 hk22 bC22 dC22 ha22 hn ht hm22, kit_own rC22 q22x28 cl28 tC28⟩) (all_cons (fun C hC => by cases uniq_of uC23 hC; exact ⟨ec_mk cl23 hg23 hk23 bC23 dC23 ha23 hn ht hm23, kit_own rC23 q23x28 cl28 tC28⟩) (all_cons (fun C hC => by cases uniq_of uC24 hC; exact ⟨ec_mk cl24 hg24 hk24 bC24 dC24 ha24 hn ht hm24, kit_own rC24 q24x28 cl28 tC28⟩) (all_cons (fun C hC => by cases uniq_of uC25 hC; exact ⟨ec_mk cl25 hg25 hk25 bC25 dC25 ha25 hn ht hm25, kit_own rC25 q25x28 cl28 tC28⟩) (all_cons (fun C hC => by cases uniq_of uC26 hC; exact ⟨ec_mk cl26 hg26 hk26 bC26 dC26 ha26 hn ht hm26, kit_own rC26 q26x28 cl28 tC28⟩) (all_cons (fun C hC => by cases uniq_of uC27 hC; exact ⟨ec_mk cl27 hg27 hk27 bC27 dC27 ha27 hn ht hm27, kit_own rC27 q27x28 cl28 tC28⟩) (all_cons (fun C hC => by cases uniq_of uC28 hC; exact ⟨ec_mk cl28 hg28 hk28 bC28 dC28 ha28 hn ht hm28, kit_own rC28 rC28 cl28 tC28⟩) (all_cons (fun C hC => by cases uniq_of uC29 hC; exact ⟨ec_mk cl29 hg29 hk29 bC29 dC29 ha29 hn ht hm29, kit_own rC29 q29x28 cl28 tC28⟩) (all_nil)))))))))))))))))))))))))))))⟩) (all_cons (fun x e => by cases e; exact ⟨.ref C29, .ref C29, .own _, rfl, (.inl (PySem.W.mg_of X G aC29)), all_cons (fun C hC => by cases uniq_of uC1 hC; exact ⟨ec_mk cl1 hg1 hk1 bC1 dC1 ha1 hn ht hm1, kit_own rC1 q1x29 cl29 tC29⟩) (all_cons (fun C hC => by cases uniq_of uC2 hC; exact ⟨ec_mk cl2 hg2 hk2 bC2 dC2 ha2 hn ht hm2, kit_own rC2 q2x29 cl29 tC29⟩) (all_cons (fun C hC => by cases uniq_of uC3 hC; exact ⟨ec_mk cl3 hg3 hk3 bC3 dC3 ha3 hn ht hm3, kit_own rC3 q3x29 cl29 tC29⟩) (all_cons (fun C hC => by cases uniq_of uC4 hC; exact ⟨ec_mk cl4 hg4 hk4 bC4 dC4 ha4 hn ht hm4, kit_own rC4 q4x29 cl29 tC29⟩) (all_cons (fun C hC => by cases uniq_of uC5 hC; exact ⟨ec_mk cl5 hg5 hk5 bC5 dC5 ha5 hn ht hm5, kit_own rC5 q5x29 cl29 tC29⟩) (all_cons (fun C hC => by cases uniq_of uC6 hC; exact ⟨ec_mk cl6 hg6 hk6 bC6 dC6 ha6 hn ht hm6, kit_own rC6 q6x29 cl29 tC29⟩) (all_cons (fun C hC => by cases uniq_of uC7 hC; exact ⟨ec_mk cl7 hg7 hk7 bC7 dC7 ha7 hn ht hm7, kit_own rC7 q7x29 cl29 tC29⟩) (all_cons (fun C hC => by cases uniq_of uC8 hC; exact ⟨ec_mk cl8 hg8 hk8 bC8 dC8 ha8 hn ht hm8, kit_own rC8 q8x29 cl29 tC29⟩) (all_cons (fun C hC => by cases uniq_of uC9 hC; exact ⟨ec_mk cl9 hg9 hk9 bC9 dC9 ha9 hn ht hm9, kit_own rC9 q9x29 cl29 tC29⟩) (all_cons (fun C hC => by cases uniq_of uC10 hC; exact ⟨ec_mk cl10 hg10 hk10 bC10 dC10 ha10 hn ht hm10, kit_own rC10 q10x29 cl29 tC29⟩) (all_cons (fun C hC => by cases uniq_of uC11 hC; exact ⟨ec_mk cl11 hg11 hk11 bC11 dC11 ha11 hn ht hm11, kit_own rC11 q11x29 cl29 tC29⟩) (all_cons (fun C hC => by cases uniq_of uC12 hC; exact ⟨ec_mk cl12 hg12 hk12 bC12 dC12 ha12 hn ht hm12, kit_own rC12 q12x29 cl29 tC29⟩) (all_cons (fun C hC => by cases uniq_of uC13 hC; exact ⟨ec_mk cl13 hg13 hk13 bC13 dC13 ha13 hn ht hm13, kit_own rC13 q13x29 cl29 tC29⟩) (all_cons (fun C hC => by cases uniq_of uC14 hC; exact ⟨ec_mk cl14 hg14 hk14 bC14 dC14 ha14 hn ht hm14, kit_own rC14 q14x29 cl29 tC29⟩) (all_cons (fun C hC => by cases uniq_of uC15 hC; exact ⟨ec_mk cl15 hg15 hk15 bC15 dC15 ha15 hn ht hm15, kit_own rC15 q15x29 cl29 tC29⟩) (all_cons (fun C hC => by cases uniq_of uC16 hC; exact ⟨ec_mk cl16 hg16 hk16 bC16 dC16 ha16 hn ht hm16, kit_own rC16 q16x29 cl29 tC29⟩) (all_cons (fun C hC => by cases uniq_of uC17 hC; exact ⟨ec_mk cl17 hg17 hk17 bC17 dC17 ha17 hn ht hm17, kit_own rC17 q17x29 cl29 tC29⟩) (all_cons (fun C hC => by cases uniq_of uC18 hC; exact ⟨ec_mk cl18 hg18 hk18 bC18 dC18 ha18 hn ht hm18, kit_own rC18 q18x29 cl29 tC29⟩) (all_cons (fun C hC => by cases uniq_of uC19 hC; exact ⟨ec_mk cl19 hg19 hk19 bC19 dC19 ha19 hn ht hm19, kit_own rC19 q19x29 cl29 tC29⟩) (all_cons (fun C hC => by cases uniq_of uC20 hC; exact ⟨ec_mk cl20 hg20 hk20 bC20 dC20 ha20 hn ht hm20, kit_own rC20 q20x29 cl29 tC29⟩) (all_cons (fun C hC => by cases uniq_of uC21 hC; exact ⟨ec_mk cl21 hg21 hk21 bC21 dC21 ha21 hn ht hm21, kit_own rC21 q21x29 cl29 tC29⟩) (all_cons (fun C hC => by cases uniq_of uC22 hC; exact ⟨ec_mk cl22 hg22 hk22 bC22 dC22 ha22 hn ht hm22, kit_own rC22 q22x29 cl29 tC29⟩) (all_cons (fun C hC => by cases uniq_of uC23 hC; exact ⟨ec_mk cl23 hg23 hk23 bC23 dC23 ha23 hn ht hm23, kit_own rC23 q23x29 cl29 tC29⟩) (all_cons (fun C hC => by cases uniq_of uC24 hC; exact ⟨ec_mk cl24 hg24 hk24 bC24 dC24 ha24 hn ht hm24, kit_own rC24 q24x29 cl29 tC29⟩) (all_cons (fun C hC => by cases uniq_of uC25 hC; exact ⟨ec_mk cl25 hg25 hk25 bC25 dC25 ha25 hn ht hm25, kit_own rC25 q25x29 cl29 tC29⟩) (all_cons (fun C hC => by cases uniq_of uC26 hC; exact ⟨ec_mk cl26 hg26 hk26 bC26 dC26 ha26 hn ht hm26, kit_own rC26 q26x29 cl29 tC29⟩) (all_cons (fun C hC => by cases uniq_of uC27 hC; exact ⟨ec_mk cl27 hg27 hk27 bC27 dC27 ha27 hn ht hm27, kit_own rC27 q27x29 cl29 tC29⟩) (all_cons (fun C hC => by cases uniq_of uC28 hC; exact ⟨ec_mk cl28 hg28 hk28 bC28 dC28 ha28 hn ht hm28, kit_own rC28 q28x29 cl29 tC29⟩) (all_cons (fun C hC => by cases uniq_of uC29 hC; exact ⟨ec_mk cl29 hg29 hk29 bC29 dC29 ha29 hn ht hm29, kit_own rC29 rC29 cl29 tC29⟩) (all_nil)))))))))))))))))))))))))))))⟩) (all_cons (fun x e => by cases e; exact ⟨.ty "ValueError", .type "ValueError", .ty _, rfl, .inr ⟨PySem.W.mg_none_of X G zve, by decide +kernel⟩, all_cons (fun C hC => by cases uniq_of uC1 hC; exact ⟨ec_mk cl1 hg1 hk1 bC1 dC1 ha1 hn ht hm1, kit_blt (T := "ValueError") (by decide +kernel) sv1⟩) (all_cons (fun C hC => by cases uniq_of uC2 hC; exact ⟨ec_mk cl2 hg2 hk2 bC2 dC2 ha2 hn ht hm2, kit_blt (T := "ValueError") (by decide +kernel) sv2⟩) (all_cons (fun C hC => by cases uniq_of uC3 hC; exact ⟨ec_mk cl3 hg3 hk3 bC3 dC3 ha3 hn ht hm3, kit_blt (T := "ValueError") (by decide +kernel) sv3⟩) (all_cons (fun C hC => by cases uniq_of uC4 hC; exact ⟨ec_mk cl4 hg4 hk4 bC4 dC4 ha4 hn ht hm4, kit_blt (T := "ValueError") (by decide +kernel) sv4⟩) (all_cons (fun C hC => by cases uniq_of uC5 hC; exact ⟨ec_mk cl5 hg5 hk5 bC5 dC5 ha5 hn ht hm5, kit_blt (T := "ValueError") (by decide +kernel) sv5⟩) (all_cons (fun C hC => by cases uniq_of uC6 hC; exact ⟨ec_mk cl6 hg6 hk6 bC6 dC6 ha6 hn ht hm6, kit_blt (T := "ValueError") (by decide +kernel) sv6⟩) (all_cons (fun C hC => by cases uniq_of uC7 hC; exact ⟨ec_mk cl7 hg7 hk7 bC7 dC7 ha7 hn ht hm7, kit_blt (T := "ValueError") (by decide +kernel) sv7⟩) (all_cons (fun C hC => by cases uniq_of uC8 hC; exact ⟨ec_mk cl8 hg8 hk8 bC8 dC8 ha8 hn ht hm8, kit_blt (T := "ValueError") (by decide +kernel) sv8⟩) (all_cons (fun C hC => by cases uniq_of uC9 hC; exact ⟨ec_mk cl9 hg9 hk9 bC9 dC9 ha9 hn ht hm9, kit_blt (T := "ValueError") (by decide +kernel) sv9⟩) (all_cons (fun C hC => by cases uniq_of uC10 hC; exact ⟨ec_mk cl10 hg10 hk10 bC10 dC10 ha10 hn ht hm10, kit_blt (T := "ValueError") (by decide +kernel) sv10⟩) (all_cons (fun C hC => by cases uniq_of uC11 hC; exact ⟨ec_mk cl11 hg11 hk11 bC11 dC11 ha11 hn ht hm11, kit_blt (T := "ValueError") (by decide +kernel) sv11⟩) (all_cons (fun C hC => by cases uniq_of uC12 hC; exact ⟨ec_mk cl12 hg12 hk12 bC12 dC12 ha12 hn ht hm12, kit_blt (T := "ValueError") (by decide +kernel) sv12⟩) (all_cons (fun C hC => by cases uniq_of uC13 hC; exact ⟨ec_mk cl13 hg13 hk13 bC13 dC13 ha13 hn ht hm13, kit_blt (T := "ValueError") (by decide +kernel) sv13⟩) (all_cons (fun C hC => by cases uniq_of uC14 hC; exact ⟨ec_mk cl14 hg14 hk14 bC14 dC14 ha14 hn ht hm14, kit_blt (T := "ValueError") (by decide +kernel) sv14⟩) (all_cons (fun C hC => by cases uniq_of uC15 hC; exact ⟨ec_mk cl15 hg15 hk15 bC15 dC15 ha15 hn ht hm15, kit_blt (T := "ValueError") (by decide +kernel) sv15⟩) (all_cons (fun C hC => by cases uniq_of uC16 hC; exact ⟨ec_mk cl16 hg16 hk16 bC16 dC16 ha16 hn ht hm16, kit_blt (T := "ValueError") (by decide +kernel) sv16⟩) (all_cons (fun C hC => by cases uniq_of uC17 hC; exact ⟨ec_mk cl17 hg17 hk17 bC17 dC17 ha17 hn ht hm17, kit_blt (T := "ValueError") (by decide +kernel) sv17⟩) (all_cons (fun C hC => by cases uniq_of uC18 hC; exact ⟨ec_mk cl18 hg18 hk18 bC18 dC18 ha18 hn ht hm18, kit_blt (T := "ValueError") (by decide +kernel) sv18⟩) (all_cons (fun C hC => by cases uniq_of uC19 hC; exact ⟨ec_mk cl19 hg19 hk19 bC19 dC19 ha19 hn ht hm19, kit_blt (T := "ValueError") (by decide +kernel) sv19⟩) (all_cons (fun C hC => by cases uniq_of uC20 hC; exact ⟨ec_mk cl20 hg20 hk20 bC20 dC20 ha20 hn ht hm20, kit_blt (T := "ValueError") (by decide +kernel) sv20⟩) (all_cons (fun C hC => by cases uniq_of uC21 hC; exact ⟨ec_mk cl21 hg21 hk21 bC21 dC21 ha21 hn ht hm21, kit_blt (T := "ValueError") (by decide +kernel) sv21⟩) (all_cons (fun C hC => by cases uniq_of uC22 hC; exact ⟨ec_mk cl22 hg22 hk22 bC22 dC22 ha22 hn ht hm22, kit_blt (T := "ValueError") (by decide +kernel) sv22⟩) (all_cons (fun C hC => by cases uniq_of uC23 hC; exact ⟨ec_mk cl23 hg23 hk23 bC23 dC23 ha23 hn ht hm23, kit_blt (T := "ValueError") (by decide +kernel) sv23⟩) (all_cons (fun C hC => by cases uniq_of uC24 hC; exact ⟨ec_mk cl24 hg24 hk24 bC24 dC24 ha24 hn ht hm24, kit_blt (T := "ValueError") (by decide +kernel) sv24⟩) (all_cons (fun C hC => by cases uniq_of uC25 hC; exact ⟨ec_mk cl25 hg25 hk25 bC25 dC25 ha25 hn ht hm25, kit_blt (T := "ValueError") (by decide +kernel) sv25⟩) (all_cons (fun C hC => by cases uniq_of uC26 hC; exact ⟨ec_mk cl26 hg26 hk26 bC26 dC26 ha26 hn ht hm26, kit_blt (T := "ValueError") (by decide +kernel) sv26⟩) (all_cons (fun C hC => by cases uniq_of uC27 hC; exact ⟨ec_mk cl27 hg27 hk27 bC27 dC27 ha27 hn ht hm27, kit_blt (T := "ValueError") (by decide +kernel) sv27⟩) (all_cons (fun C hC => by cases uniq_of uC28 hC; exact ⟨ec_mk cl28 hg28 hk28 bC28 dC28 ha28 hn ht hm28, kit_blt (T := "ValueError") (by decide +kernel) sv28⟩) (all_cons (fun C hC => by cases uniq_of uC29 hC; exact ⟨ec_mk cl29 hg29 hk29 bC29 dC29 ha29 hn ht hm29, kit_blt (T := "ValueError") (by decide +kernel) sv29⟩) (all_nil)))))))))))))))))))))))))))))⟩) (all_nil))))))))))))))))))))))))))))))), all_cons (fun C hC => by cases uniq_of uC3 hC; exact ⟨⟨hg3, hk3, bC3, dC3⟩, fd3⟩) (all_cons (fun C hC => by cases uniq_of uC4 hC; exact ⟨⟨hg4, hk4, bC4, dC4⟩, fd4⟩) (all_cons (fun C hC => by cases uniq_of uC10 hC; exact ⟨⟨hg10, hk10, bC10, dC10⟩, fd10⟩) (all_cons (fun C hC => by cases uniq_of uC15 hC; exact ⟨⟨hg15, hk15, bC15, dC15⟩, fd15⟩) (all_cons (fun C hC => by cases uniq_of uC16 hC; exact ⟨⟨hg16, hk16, bC16, dC16⟩, fd16⟩) (all_cons (fun C hC => by cases uniq_of uC17 hC; exact ⟨⟨hg17, hk17, bC17, dC17⟩, fd17⟩) (all_cons (fun C hC => by cases uniq_of uC22 hC; exact ⟨⟨hg22, hk22, bC22, dC22⟩, fd22⟩) (all_cons (fun C hC => by cases uniq_of uC29 hC; exact ⟨⟨hg29, hk29, bC29, dC29⟩, fd29⟩) (all_nil))))))))⟩
    xo := xok_of (all_cons (ex1 (x := "Over") rfl rfl ⟨_, _, _, _, PySem.F.excBase_ValueError, xC12, PySem.W.mg_of X G aC12, kC12, bC12, tC12⟩) (all_cons (ex1 (x := "NoLine") rfl rfl ⟨_, _, _, _, PySem.F.excBase_ValueError, xC28, PySem.W.mg_of X G aC28, kC28, bC28, tC28⟩) (all_nil))) (all_cons (all_cons (PySem.W.exm_ref bC0 dC0 tC0 q0x0) (all_cons (PySem.W.exm_ref bC12 dC12 tC12 q0x12) (all_cons (PySem.W.exm_ref bC16 dC16 tC16 q0x16) (all_cons (PySem.W.exm_ref bC28 dC28 tC28 q0x28) (all_nil))))) (all_cons (all_cons (PySem.W.exm_ref bC0 dC0 tC0 q12x0) (all_cons (PySem.W.exm_ref bC12 dC12 tC12 q12x12) (all_cons (PySem.W.exm_ref bC16 dC16 tC16 q12x16) (all_cons (PySem.W.exm_ref bC28 dC28 tC28 q12x28) (all_nil))))) (all_cons (all_cons (PySem.W.exm_ref bC0 dC0 tC0 q16x0) (all_cons (PySem.W.exm_ref bC12 dC12 tC12 q16x12) (all_cons (PySem.W.exm_ref bC16 dC16 tC16 q16x16) (all_cons (PySem.W.exm_ref bC28 dC28 tC28 q16x28) (all_nil))))) (all_cons (all_cons (PySem.W.exm_ref bC0 dC0 tC0 q28x0) (all_cons (PySem.W.exm_ref bC12 dC12 tC12 q28x12) (all_cons (PySem.W.exm_ref bC16 dC16 tC16 q28x16) (all_cons (PySem.W.exm_ref bC28 dC28 tC28 q28x28) (all_nil))))) (all_nil))))) (all_cons ⟨"WalkError", rfl, PySem.W.mg_of X G aC0⟩ (all_cons ⟨"Over", rfl, PySem.W.mg_of X G aC12⟩ (all_cons ⟨"TooMany", rfl, PySem.W.mg_of X G aC16⟩ (all_cons ⟨"NoLine", rfl, PySem.W.mg_of X G aC28⟩ (all_nil))))) }
  exact ⟨_, fun s u => .of_eq rfl, fun base _ _ => law_end (x := "law") (def_fn (G := G_law) F6 sc_law m_law (gok_of (hf_cons (x := "_law_pot") rfl ((at_law_pot T)) (hf_cons (x := "_law_draw") rfl ((at_law_draw T)) (hf_cons (x := "_law_made") rfl ((at_law_made T)) (hf_cons (x := "_law_kinds") rfl ((at_law_kinds T)) (hf_cons (x := "_law_same") rfl ((at_law_same T)) (hf_cons (x := "_law_caught") rfl ((at_law_caught T)) (hf_nil))))))) T.con T.blt (T.xt _ _ _ (by decide))) T.xo) law_plain⟩
end Z9
open PySem PySem.W PyProof.Rows
set_option maxRecDepth 100000 in
set_option maxHeartbeats 0 in
theorem PySem.Challenge.cw_wholewalks_k00_errors_and_their_fields_holds : PySem.Challenge.rw_wholewalks_k00_errors_and_their_fields.Holds := by
  w_on; o_law; k_head; (case hw => w_witness2)
  k_fill
  refine Z9.walk_k (k := 4) (l := PySem.Challenge.rw_wholewalks_k00_errors_and_their_fields) ⟨rfl, by decide, by decide⟩ rfl rfl (fun w h Y => PySem.W.kIn_of Y) ?F
  case F =>
    intro w mg fa h KX G hmg
    refine' Z9.all_mk KX G hmg ?a0 ?l0 ?c0 ?k0 ?a1 ?l1 ?c1 ?k1 ?a2 ?l2 ?c2 ?k2 ?a3 ?l3 ?c3 ?k3 ?a4 ?l4 ?c4 ?k4 ?a5 ?l5 ?c5 ?k5 ?a6 ?l6 ?c6 ?k6 ?z0 ?z1 ?z2 ?z3 ?z4 ?z5 ?z6 ?z7 ?z8 ?z9 ?z10 ?z11 ?z12 ?z13 ?z14 ?z15 ?z16 ?z17 ?z18 ?aC0 ?bC0 ?tC0 ?dC0 ?cl0 ?aC1 ?bC1 ?tC1 ?dC1 ?xC1 ?kC1 ?cl1 ?uC1 ?nC1 ?hg1 ?hk1 ?ha1 ?hm1 ?rC1 ?aC2 ?bC2 ?tC2 ?dC2 ?xC2 ?kC2 ?cl2 ?uC2 ?nC2 ?hg2 ?hk2 ?ha2 ?hm2 ?rC2 ?aC3 ?bC3 ?tC3 ?dC3 ?cl3 ?uC3 ?nC3 ?hg3 ?hk3 ?ha3 ?hm3 ?rC3 ?iC3 ?tI3 ?lI3 ?cI3 ?ce3 ?coI3 ?fi3 ?fe3 ?sa3 ?lC3 ?rv3 ?kC3 ?sv3 ?su3 ?ex3 ?fd3 ?aC4 ?bC4 ?tC4 ?dC4 ?cl4 ?uC4 ?nC4 ?hg4 ?hk4 ?ha4 ?hm4 ?rC4 ?iC4 ?tI4 ?lI4 ?cI4 ?ce4 ?coI4 ?fi4 ?fe4 ?sa4 ?lC4 ?rv4 ?kC4 ?sv4 ?su4 ?ex4 ?fd4 ?aC5 ?bC5 ?tC5 ?dC5 ?xC5 ?kC5 ?cl5 ?uC5 ?nC5 ?hg5 ?hk5 ?ha5 ?hm5 ?rC5 ?aC6 ?bC6 ?tC6 ?dC6 ?xC6 ?kC6 ?cl6 ?uC6 ?nC6 ?hg6 ?hk6 ?ha6 ?hm6 ?rC6 ?aC7 ?bC7 ?tC7 ?dC7 ?xC7 ?kC7 ?cl7 ?uC7 ?nC7 ?hg7 ?hk7 ?ha7 ?hm7 ?rC7 ?aC8 ?bC8 ?tC8 ?dC8 ?xC8 ?kC8 ?cl8 ?uC8 ?nC8 ?hg8 ?hk8 ?ha8 ?hm8 ?rC8 ?aC9 ?bC9 ?tC9 ?dC9 ?xC9 ?kC9 ?cl9 ?uC9 ?nC9 ?hg9 ?hk9 ?ha9 ?hm9 ?rC9 ?aC10 ?bC10 ?tC10 ?dC10 ?cl10 ?uC10 ?nC10 ?hg10 ?hk10 ?ha10 ?hm10 ?rC10 ?iC10 ?tI10 ?lI10 ?cI10 ?ce10 ?coI10 ?fi10 ?fe10 ?sa10 ?lC10 ?rv10 ?kC10 ?sv10 ?su10 ?ex10 ?fd10 ?aC11 ?bC11 ?tC11 ?dC11 ?xC11 ?kC11 ?cl11 ?uC11 ?nC11 ?hg11 ?hk11 ?ha11 ?hm11 ?rC11 ?aC12 ?bC12 ?tC12 ?dC12 ?xC12 ?kC12 ?cl12 ?uC12 ?nC12 ?hg12 ?hk12 ?ha12 ?hm12 ?rC12 ?aC13 ?bC13 ?tC13 ?dC13 ?xC13 ?kC13 ?cl13 ?uC13 ?nC13 ?hg13 ?hk13 ?ha13 ?hm13 ?rC13 ?aC14 ?bC14 ?tC14 ?dC14 ?xC14 ?kC14 ?cl14 ?uC14 ?nC14 ?hg14 ?hk14 ?ha14 ?hm14 ?rC14 ?aC15 ?bC15 ?tC15 ?dC15 ?cl15 ?uC15 ?nC15 ?hg15 ?hk15 ?ha15 ?hm15 ?rC15 ?iC15 ?tI15 ?lI15 ?cI15 ?ce15 ?coI15 ?fi15 ?fe15 ?sa15 ?lC15 ?rv15 ?kC15 ?sv15 ?su15 ?ex15 ?fd15 ?aC16 ?bC16 ?tC16 ?dC16 ?cl16 ?uC16 ?nC16 ?hg16 ?hk16 ?ha16 ?hm16 ?rC16 ?iC16 ?tI16 ?lI16 ?cI16 ?ce16 ?coI16 ?fi16 ?fe16 ?sa16 ?lC16 ?rv16 ?kC16 ?sv16 ?su16 ?ex16 ?fd16 ?aC17 ?bC17 ?tC17 ?dC17 ?cl17 ?uC17 ?nC17 ?hg17 ?hk17 ?ha17 ?hm17 ?rC17 ?iC17 ?tI17 ?lI17 ?cI17 ?ce17 ?coI17 ?fi17 ?fe17 ?sa17 ?lC17 ?rv17 ?kC17 ?sv17 ?su17 ?ex17 ?fd17 ?aC18 ?bC18 ?tC18 ?dC18 ?xC18 ?kC18 ?cl18 ?uC18 ?nC18 ?hg18 ?hk18 ?ha18 ?hm18 ?rC18 ?aC19 ?bC19 ?tC19 ?dC19 ?xC19 ?kC19 ?cl19 ?uC19 ?nC19 ?hg19 ?hk19 ?ha19 ?hm19 ?rC19 ?aC20 ?bC20 ?tC20 ?dC20 ?xC20 ?kC20 ?cl20 ?uC20 ?nC20 ?hg20 ?hk20 ?ha20 ?hm20 ?rC20 ?aC21 ?bC21 ?tC21 ?dC21 ?xC21 ?kC21 ?cl21 ?uC21 ?nC21 ?hg21 ?hk21 ?ha21 ?hm21 ?rC21 ?aC22 ?bC22 ?tC22 ?dC22 ?cl22 ?uC22 ?nC22 ?hg22 ?hk22 ?ha22 ?hm22 ?rC22 ?iC22 ?tI22 ?lI22 ?cI22 ?ce22 ?coI22 ?fi22 ?fe22 ?sa22 ?lC22 ?rv22 ?kC22 ?sv22 ?su22 ?ex22 ?fd22 ?aC23 ?bC23 ?tC23 ?dC23 ?xC23 ?kC23 ?cl23 ?uC23 ?nC23 ?hg23 ?hk23 ?ha23 ?hm23 ?rC23 ?aC24 ?bC24 ?tC24 ?dC24 ?xC24 ?kC24 ?cl24 ?uC24 ?nC24 ?hg24 ?hk24 ?ha24 ?hm24 ?rC24 ?aC25 ?bC25 ?tC25 ?dC25 ?xC25 ?kC25 ?cl25 ?uC25 ?nC25 ?hg25 ?hk25 ?ha25 ?hm25 ?rC25 ?aC26 ?bC26 ?tC26 ?dC26 ?xC26 ?kC26 ?cl26 ?uC26 ?nC26 ?hg26 ?hk26 ?ha26 ?hm26 ?rC26 ?aC27 ?bC27 ?tC27 ?dC27 ?xC27 ?kC27 ?cl27 ?uC27 ?nC27 ?hg27 ?hk27 ?ha27 ?hm27 ?rC27 ?aC28 ?bC28 ?tC28 ?dC28 ?xC28 ?kC28 ?cl28 ?uC28 ?nC28 ?hg28 ?hk28 ?ha28 ?hm28 ?rC28 ?aC29 ?bC29 ?tC29 ?dC29 ?cl29 ?uC29 ?nC29 ?hg29 ?hk29 ?ha29 ?hm29 ?rC29 ?iC29 ?tI29 ?lI29 ?cI29 ?ce29 ?coI29 ?fi29 ?fe29 ?sa29 ?lC29 ?rv29 ?kC29 ?sv29 ?su29 ?ex29 ?fd29 ?q0x0 ?q0x12 ?q0x16 ?q0x28 ?q12x0 ?q12x12 ?q12x16 ?q12x28 ?q16x0 ?q16x12 ?q16x16 ?q16x28 ?q28x0 ?q28x12 ?q28x16 ?q28x28 ?q1x0 ?q1x2 ?q1x3 ?q1x4 ?q1x5 ?q1x6 ?q1x7 ?q1x8 ?q1x9 ?q1x10 ?q1x11 ?q1x12 ?q1x13 ?q1x14 ?q1x15 ?q1x16 ?q1x17 ?q1x18 ?q1x19 ?q1x20 ?q1x21 ?q1x22 ?q1x23 ?q1x24 ?q1x25 ?q1x26 ?q1x27 ?q1x28 ?q1x29 ?sv1 ?q2x0 ?q2x1 ?q2x3 ?q2x4 ?q2x5 ?q2x6 ?q2x7 ?q2x8 ?q2x9 ?q2x10 ?q2x11 ?q2x12 ?q2x13 ?q2x14 ?q2x15 ?q2x16 ?q2x17 ?q2x18 ?q2x19 ?q2x20 ?q2x21 ?q2x22 ?q2x23 ?q2x24 ?q2x25 ?q2x26 ?q2x27 ?q2x28 ?q2x29 ?sv2 ?q3x0 ?q3x1 ?q3x2 ?q3x4 ?q3x5 ?q3x6 ?q3x7 ?q3x8 ?q3x9 ?q3x10 ?q3x11 ?q3x12 ?q3x13 ?q3x14 ?q3x15 ?q3x16 ?q3x17 ?q3x18 ?q3x19 ?q3x20 ?q3x21 ?q3x22 ?q3x23 ?q3x24 ?q3x25 ?q3x26 ?q3x27 ?q3x28 ?q3x29 ?q4x0 ?q4x1 ?q4x2 ?q4x3 ?q4x5 ?q4x6 ?q4x7 ?q4x8 ?q4x9 ?q4x10 ?q4x11 ?q4x12 ?q4x13 ?q4x14 ?q4x15 ?q4x16 ?q4x17 ?q4x18 ?q4x19 ?q4x20 ?q4x21 ?q4x22 ?q4x23 ?q4x24 ?q4x25 ?q4x26 ?q4x27 ?q4x28 ?q4x29 ?q5x0 ?q5x1 ?q5x2 ?q5x3 ?q5x4 ?q5x6 ?q5x7 ?q5x8 ?q5x9 ?q5x10 ?q5x11 ?q5x12 ?q5x13 ?q5x14 ?q5x15 ?q5x16 ?q5x17 ?q5x18 ?q5x19 ?q5x20 ?q5x21 ?q5x22 ?q5x23 ?q5x24 ?q5x25 ?q5x26 ?q5x27 ?q5x28 ?q5x29 ?sv5 ?q6x0 ?q6x1 ?q6x2 ?q6x3 ?q6x4 ?q6x5 ?q6x7 ?q6x8 ?q6x9 ?q6x10 ?q6x11 ?q6x12 ?q6x13 ?q6x14 ?q6x15 ?q6x16 ?q6x17 ?q6x18 ?q6x19 ?q6x20 ?q6x21 ?q6x22 ?q6x23 ?q6x24 ?q6x25 ?q6x26 ?q6x27 ?q6x28 ?q6x29 ?sv6 ?q7x0 ?q7x1 ?q7x2 ?q7x3 ?q7x4 ?q7x5 ?q7x6 ?q7x8 ?q7x9 ?q7x10 ?q7x11 ?q7x12 ?q7x13 ?q7x14 ?q7x15 ?q7x16 ?q7x17 ?q7x18 ?q7x19 ?q7x20 ?q7x21 ?q7x22 ?q7x23 ?q7x24 ?q7x25 ?q7x26 ?q7x27 ?q7x28 ?q7x29 ?sv7 ?q8x0 ?q8x1 ?q8x2 ?q8x3 ?q8x4 ?q8x5 ?q8x6 ?q8x7 ?q8x9 ?q8x10 ?q8x11 ?q8x12 ?q8x13 ?q8x14 ?q8x15 ?q8x16 ?q8x17 ?q8x18 ?q8x19 ?q8x20 ?q8x21 ?q8x22 ?q8x23 ?q8x24 ?q8x25 ?q8x26 ?q8x27 ?q8x28 ?q8x29 ?sv8 ?q9x0 ?q9x1 ?q9x2 ?q9x3 ?q9x4 ?q9x5 ?q9x6 ?q9x7 ?q9x8 ?q9x10 ?q9x11 ?q9x12 ?q9x13 ?q9x14 ?q9x15 ?q9x16 ?q9x17 ?q9x18 ?q9x19 ?q9x20 ?q9x21 ?q9x22 ?q9x23 ?q9x24 ?q9x25 ?q9x26 ?q9x27 ?q9x28 ?q9x29 ?sv9 ?q10x0 ?q10x1 ?q10x2 ?q10x3 ?q10x4 ?q10x5 ?q10x6 ?q10x7 ?q10x8 ?q10x9 ?q10x11 ?q10x12 ?q10x13 ?q10x14 ?q10x15 ?q10x16 ?q10x17 ?q10x18 ?q10x19 ?q10x20 ?q10x21 ?q10x22 ?q10x23 ?q10x24 ?q10x25 ?q10x26 ?q10x27 ?q10x28 ?q10x29 ?q11x0 ?q11x1 ?q11x2 ?q11x3 ?q11x4 ?q11x5 ?q11x6 ?q11x7 ?q11x8 ?q11x9 ?q11x10 ?q11x12 ?q11x13 ?q11x14 ?q11x15 ?q11x16 ?q11x17 ?q11x18 ?q11x19 ?q11x20 ?q11x21 ?q11x22 ?q11x23 ?q11x24 ?q11x25 ?q11x26 ?q11x27 ?q11x28 ?q11x29 ?sv11 ?q12x1 ?q12x2 ?q12x3 ?q12x4 ?q12x5 ?q12x6 ?q12x7 ?q12x8 ?q12x9 ?q12x10 ?q12x11 ?q12x13 ?q12x14 ?q12x15 ?q12x17 ?q12x18 ?q12x19 ?q12x20 ?q12x21 ?q12x22 ?q12x23 ?q12x24 ?q12x25 ?q12x26 ?q12x27 ?q12x29 ?sv12 ?q13x0 ?q13x1 ?q13x2 ?q13x3 ?q13x4 ?q13x5 ?q13x6 ?q13x7 ?q13x8 ?q13x9 ?q13x10 ?q13x11 ?q13x12 ?q13x14 ?q13x15 ?q13x16 ?q13x17 ?q13x18 ?q13x19 ?q13x20 ?q13x21 ?q13x22 ?q13x23 ?q13x24 ?q13x25 ?q13x26 ?q13x27 ?q13x28 ?q13x29 ?sv13 ?q14x0 ?q14x1 ?q14x2 ?q14x3 ?q14x4 ?q14x5 ?q14x6 ?q14x7 ?q14x8 ?q14x9 ?q14x10 ?q14x11 ?q14x12 ?q14x13 ?q14x15 ?q14x16 ?q14x17 ?q14x18 ?q14x19 ?q14x20 ?q14x21 ?q14x22 ?q14x23 ?q14x24 ?q14x25 ?q14x26 ?q14x27 ?q14x28 ?q14x29 ?sv14 ?q15x0 ?q15x1 ?q15x2 ?q15x3 ?q15x4 ?q15x5 ?q15x6 ?q15x7 ?q15x8 ?q15x9 ?q15x10 ?q15x11 ?q15x12 ?q15x13 ?q15x14 ?q15x16 ?q15x17 ?q15x18 ?q15x19 ?q15x20 ?q15x21 ?q15x22 ?q15x23 ?q15x24 ?q15x25 ?q15x26 ?q15x27 ?q15x28 ?q15x29 ?q16x1 ?q16x2 ?q16x3 ?q16x4 ?q16x5 ?q16x6 ?q16x7 ?q16x8 ?q16x9 ?q16x10 ?q16x11 ?q16x13 ?q16x14 ?q16x15 ?q16x17 ?q16x18 ?q16x19 ?q16x20 ?q16x21 ?q16x22 ?q16x23 ?q16x24 ?q16x25 ?q16x26 ?q16x27 ?q16x29 ?q17x0 ?q17x1 ?q17x2 ?q17x3 ?q17x4 ?q17x5 ?q17x6 ?q17x7 ?q17x8 ?q17x9 ?q17x10 ?q17x11 ?q17x12 ?q17x13 ?q17x14 ?q17x15 ?q17x16 ?q17x18 ?q17x19 ?q17x20 ?q17x21 ?q17x22 ?q17x23 ?q17x24 ?q17x25 ?q17x26 ?q17x27 ?q17x28 ?q17x29 ?q18x0 ?q18x1 ?q18x2 ?q18x3 ?q18x4 ?q18x5 ?q18x6 ?q18x7 ?q18x8 ?q18x9 ?q18x10 ?q18x11 ?q18x12 ?q18x13 ?q18x14 ?q18x15 ?q18x16 ?q18x17 ?q18x19 ?q18x20 ?q18x21 ?q18x22 ?q18x23 ?q18x24 ?q18x25 ?q18x26 ?q18x27 ?q18x28 ?q18x29 ?sv18 ?q19x0 ?q19x1 ?q19x2 ?q19x3 ?q19x4 ?q19x5 ?q19x6 ?q19x7 ?q19x8 ?q19x9 ?q19x10 ?q19x11 ?q19x12 ?q19x13 ?q19x14 ?q19x15 ?q19x16 ?q19x17 ?q19x18 ?q19x20 ?q19x21 ?q19x22 ?q19x23 ?q19x24 ?q19x25 ?q19x26 ?q19x27 ?q19x28 ?q19x29 ?sv19 ?q20x0 ?q20x1 ?q20x2 ?q20x3 ?q20x4 ?q20x5 ?q20x6 ?q20x7 ?q20x8 ?q20x9 ?q20x10 ?q20x11 ?q20x12 ?q20x13 ?q20x14 ?q20x15 ?q20x16 ?q20x17 ?q20x18 ?q20x19 ?q20x21 ?q20x22 ?q20x23 ?q20x24 ?q20x25 ?q20x26 ?q20x27 ?q20x28 ?q20x29 ?sv20 ?q21x0 ?q21x1 ?q21x2 ?q21x3 ?q21x4 ?q21x5 ?q21x6 ?q21x7 ?q21x8 ?q21x9 ?q21x10 ?q21x11 ?q21x12 ?q21x13 ?q21x14 ?q21x15 ?q21x16 ?q21x17 ?q21x18 ?q21x19 ?q21x20 ?q21x22 ?q21x23 ?q21x24 ?q21x25 ?q21x26 ?q21x27 ?q21x28 ?q21x29 ?sv21 ?q22x0 ?q22x1 ?q22x2 ?q22x3 ?q22x4 ?q22x5 ?q22x6 ?q22x7 ?q22x8 ?q22x9 ?q22x10 ?q22x11 ?q22x12 ?q22x13 ?q22x14 ?q22x15 ?q22x16 ?q22x17 ?q22x18 ?q22x19 ?q22x20 ?q22x21 ?q22x23 ?q22x24 ?q22x25 ?q22x26 ?q22x27 ?q22x28 ?q22x29 ?q23x0 ?q23x1 ?q23x2 ?q23x3 ?q23x4 ?q23x5 ?q23x6 ?q23x7 ?q23x8 ?q23x9 ?q23x10 ?q23x11 ?q23x12 ?q23x13 ?q23x14 ?q23x15 ?q23x16 ?q23x17 ?q23x18 ?q23x19 ?q23x20 ?q23x21 ?q23x22 ?q23x24 ?q23x25 ?q23x26 ?q23x27 ?q23x28 ?q23x29 ?sv23 ?q24x0 ?q24x1 ?q24x2 ?q24x3 ?q24x4 ?q24x5 ?q24x6 ?q24x7 ?q24x8 ?q24x9 ?q24x10 ?q24x11 ?q24x12 ?q24x13 ?q24x14 ?q24x15 ?q24x16 ?q24x17 ?q24x18 ?q24x19 ?q24x20 ?q24x21 ?q24x22 ?q24x23 ?q24x25 ?q24x26 ?q24x27 ?q24x28 ?q24x29 ?sv24 ?q25x0 ?q25x1 ?q25x2 ?q25x3 ?q25x4 ?q25x5 ?q25x6 ?q25x7 ?q25x8 ?q25x9 ?q25x10 ?q25x11 ?q25x12 ?q25x13 ?q25x14 ?q25x15 ?q25x16 ?q25x17 ?q25x18 ?q25x19 ?q25x20 ?q25x21 ?q25x22 ?q25x23 ?q25x24 ?q25x26 ?q25x27 ?q25x28 ?q25x29 ?sv25 ?q26x0 ?q26x1 ?q26x2 ?q26x3 ?q26x4 ?q26x5 ?q26x6 ?q26x7 ?q26x8 ?q26x9 ?q26x10 ?q26x11 ?q26x12 ?q26x13 ?q26x14 ?q26x15 ?q26x16 ?q26x17 ?q26x18 ?q26x19 ?q26x20 ?q26x21 ?q26x22 ?q26x23 ?q26x24 ?q26x25 ?q26x27 ?q26x28 ?q26x29 ?sv26 ?q27x0 ?q27x1 ?q27x2 ?q27x3 ?q27x4 ?q27x5 ?q27x6 ?q27x7 ?q27x8 ?q27x9 ?q27x10 ?q27x11 ?q27x12 ?q27x13 ?q27x14 ?q27x15 ?q27x16 ?q27x17 ?q27x18 ?q27x19 ?q27x20 ?q27x21 ?q27x22 ?q27x23 ?q27x24 ?q27x25 ?q27x26 ?q27x28 ?q27x29 ?sv27 ?q28x1 ?q28x2 ?q28x3 ?q28x4 ?q28x5 ?q28x6 ?q28x7 ?q28x8 ?q28x9 ?q28x10 ?q28x11 ?q28x13 ?q28x14 ?q28x15 ?q28x17 ?q28x18 ?q28x19 ?q28x20 ?q28x21 ?q28x22 ?q28x23 ?q28x24 ?q28x25 ?q28x26 ?q28x27 ?q28x29 ?sv28 ?q29x0 ?q29x1 ?q29x2 ?q29x3 ?q29x4 ?q29x5 ?q29x6 ?q29x7 ?q29x8 ?q29x9 ?q29x10 ?q29x11 ?q29x12 ?q29x13 ?q29x14 ?q29x15 ?q29x16 ?q29x17 ?q29x18 ?q29x19 ?q29x20 ?q29x21 ?q29x22 ?q29x23 ?q29x24 ?q29x25 ?q29x26 ?q29x27 ?q29x28 ?hn ?ht ?opq ?zsup ?zve ?nsup
    (case a0 => k_is)
    (case l0 => k_is)
    (case c0 => k_is)
    (case k0 => k_is)
    (case a1 => k_is)
    (case l1 => k_is)
    (case c1 => k_is)
    (case k1 => k_is)
    (case a2 => k_is)
    (case l2 => k_is)
    (case c2 => k_is)
    (case k2 => k_is)
    (case a3 => k_is)
    (case l3 => k_is)
    (case c3 => k_is)
    (case k3 => k_is)
    (case a4 => k_is)
    (case l4 => k_is)
    (case c4 => k_is)
    (case k4 => k_is)
    (case a5 => k_is)
    (case l5 => k_is)
    (case c5 => k_is)
    (case k5 => k_is)
    (case a6 => k_is)
    (case l6 => k_is)
    (case c6 => k_is)
    (case k6 => k_is)
    (case z0 => k_is)
    (case z1 => k_is)
    (case z2 => k_is)
    (case z3 => k_is)
    (case z4 => k_is)
    (case z5 => k_is)
    (case z6 => k_is)
    (case z7 => k_is)
    (case z8 => k_is)
    (case z9 => k_is)
    (case z10 => k_is)
    (case z11 => k_is)
    (case z12 => k_is)
    (case z13 => k_is)
    (case z14 => k_is)
    (case z15 => k_is)
    (case z16 => k_is)
    (case z17 => k_is)
    (case z18 => k_is)
    (case aC0 => k_is)
    (case bC0 => k_is)
    (case tC0 => k_is)
    (case dC0 => k_is)
    (case cl0 => first | k_is | rfl)
    (case aC1 => k_is)
    (case bC1 => k_is)
    (case tC1 => k_is)
    (case dC1 => k_is)
    (case xC1 => k_exc)
    (case kC1 => k_is)
    (case cl1 => first | k_is | rfl)
    (case uC1 => first | k_is | rfl)
    (case nC1 => first | k_is | rfl)
    (case hg1 => k_is)
    (case hk1 => k_is)
    (case ha1 => k_is)
    (case hm1 => k_is)
    (case rC1 => k_is)
    (case aC2 => k_is)
    (case bC2 => k_is)
    (case tC2 => k_is)
    (case dC2 => k_is)
    (case xC2 => k_exc)
    (case kC2 => k_is)
    (case cl2 => first | k_is | rfl)
    (case uC2 => first | k_is | rfl)
    (case nC2 => first | k_is | rfl)
    (case hg2 => k_is)
    (case hk2 => k_is)
    (case ha2 => k_is)
    (case hm2 => k_is)
    (case rC2 => k_is)
    (case aC3 => k_is)
    (case bC3 => k_is)
    (case tC3 => k_is)
    (case dC3 => k_is)
    (case cl3 => first | k_is | rfl)
    (case uC3 => first | k_is | rfl)
    (case nC3 => first | k_is | rfl)
    (case hg3 => k_is)
    (case hk3 => k_is)
    (case ha3 => k_is)
    (case hm3 => k_is)
    (case rC3 => k_is)
    (case iC3 => k_is)
    (case tI3 => k_is)
    (case lI3 => k_is)
    (case cI3 => k_is)
    (case ce3 => k_is)
    (case coI3 => k_is)
    (case fi3 => rfl)
    (case fe3 => first | rfl | decide +kernel)
    (case sa3 => k_is)
    (case lC3 => k_is)
    (case rv3 => first | rfl | decide +kernel)
    (case kC3 => k_is)
    (case sv3 => k_is)
    (case su3 => first | k_is | rfl)
    (case ex3 => first | k_is | rfl)
    (case fd3 => k_is)
    (case aC4 => k_is)
    (case bC4 => k_is)
    (case tC4 => k_is)
    (case dC4 => k_is)
    (case cl4 => first | k_is | rfl)
    (case uC4 => first | k_is | rfl)
    (case nC4 => first | k_is | rfl)
    (case hg4 => k_is)
    (case hk4 => k_is)
    (case ha4 => k_is)
    (case hm4 => k_is)
    (case rC4 => k_is)
    (case iC4 => k_is)
    (case tI4 => k_is)
    (case lI4 => k_is)
    (case cI4 => k_is)
    (case ce4 => k_is)
    (case coI4 => k_is)
    (case fi4 => rfl)
    (case fe4 => first | rfl | decide +kernel)
    (case sa4 => k_is)
    (case lC4 => k_is)
    (case rv4 => first | rfl | decide +kernel)
    (case kC4 => k_is)
    (case sv4 => k_is)
    (case su4 => first | k_is | rfl)
    (case ex4 => first | k_is | rfl)
    (case fd4 => k_is)
    (case aC5 => k_is)
    (case bC5 => k_is)
    (case tC5 => k_is)
    (case dC5 => k_is)
    (case xC5 => k_exc)
    (case kC5 => k_is)
    (case cl5 => first | k_is | rfl)
    (case uC5 => first | k_is | rfl)
    (case nC5 => first | k_is | rfl)
    (case hg5 => k_is)
    (case hk5 => k_is)
    (case ha5 => k_is)
    (case hm5 => k_is)
    (case rC5 => k_is)
    (case aC6 => k_is)
    (case bC6 => k_is)
    (case tC6 => k_is)
    (case dC6 => k_is)
    (case xC6 => k_exc)
    (case kC6 => k_is)
    (case cl6 => first | k_is | rfl)
    (case uC6 => first | k_is | rfl)
    (case nC6 => first | k_is | rfl)
    (case hg6 => k_is)
    (case hk6 => k_is)
    (case ha6 => k_is)
    (case hm6 => k_is)
    (case rC6 => k_is)
    (case aC7 => k_is)
    (case bC7 => k_is)
    (case tC7 => k_is)
    (case dC7 => k_is)
    (case xC7 => k_exc)
    (case kC7 => k_is)
    (case cl7 => first | k_is | rfl)
    (case uC7 => first | k_is | rfl)
    (case nC7 => first | k_is | rfl)
    (case hg7 => k_is)
    (case hk7 => k_is)
    (case ha7 => k_is)
    (case hm7 => k_is)
    (case rC7 => k_is)
    (case aC8 => k_is)
    (case bC8 => k_is)
    (case tC8 => k_is)
    (case dC8 => k_is)
    (case xC8 => k_exc)
    (case kC8 => k_is)
    (case cl8 => first | k_is | rfl)
    (case uC8 => first | k_is | rfl)
    (case nC8 => first | k_is | rfl)
    (case hg8 => k_is)
    (case hk8 => k_is)
    (case ha8 => k_is)
    (case hm8 => k_is)
    (case rC8 => k_is)
    (case aC9 => k_is)
    (case bC9 => k_is)
    (case tC9 => k_is)
    (case dC9 => k_is)
    (case xC9 => k_exc)
    (case kC9 => k_is)
    (case cl9 => first | k_is | rfl)
    (case uC9 => first | k_is | rfl)
    (case nC9 => first | k_is | rfl)
    (case hg9 => k_is)
    (case hk9 => k_is)
    (case ha9 => k_is)
    (case hm9 => k_is)
    (case rC9 => k_is)
    (case aC10 => k_is)
    (case bC10 => k_is)
    (case tC10 => k_is)
    (case dC10 => k_is)
    (case cl10 => first | k_is | rfl)
    (case uC10 => first | k_is | rfl)
    (case nC10 => first | k_is | rfl)
    (case hg10 => k_is)
    (case hk10 => k_is)
    (case ha10 => k_is)
    (case hm10 => k_is)
    (case rC10 => k_is)
    (case iC10 => k_is)
    (case tI10 => k_is)
    (case lI10 => k_is)
    (case cI10 => k_is)
    (case ce10 => k_is)
    (case coI10 => k_is)
    (case fi10 => rfl)
    (case fe10 => first | rfl | decide +kernel)
    (case sa10 => k_is)
    (case lC10 => k_is)
    (case rv10 => first | rfl | decide +kernel)
    (case kC10 => k_is)
    (case sv10 => k_is)
    (case su10 => first | k_is | rfl)
    (case ex10 => first | k_is | rfl)
    (case fd10 => k_is)
    (case aC11 => k_is)
    (case bC11 => k_is)
    (case tC11 => k_is)
    (case dC11 => k_is)
    (case xC11 => k_exc)
    (case kC11 => k_is)
    (case cl11 => first | k_is | rfl)
    (case uC11 => first | k_is | rfl)
    (case nC11 => first | k_is | rfl)
    (case hg11 => k_is)
    (case hk11 => k_is)
    (case ha11 => k_is)
    (case hm11 => k_is)
    (case rC11 => k_is)
    (case aC12 => k_is)
    (case bC12 => k_is)
    (case tC12 => k_is)
    (case dC12 => k_is)
    (case xC12 => k_exc)
    (case kC12 => k_is)
    (case cl12 => first | k_is | rfl)
    (case uC12 => first | k_is | rfl)
    (case nC12 => first | k_is | rfl)
    (case hg12 => k_is)
    (case hk12 => k_is)
    (case ha12 => k_is)
    (case hm12 => k_is)
    (case rC12 => k_is)
    (case aC13 => k_is)
    (case bC13 => k_is)
    (case tC13 => k_is)
    (case dC13 => k_is)
    (case xC13 => k_exc)
    (case kC13 => k_is)
    (case cl13 => first | k_is | rfl)
    (case uC13 => first | k_is | rfl)
    (case nC13 => first | k_is | rfl)
    (case hg13 => k_is)
    (case hk13 => k_is)
    (case ha13 => k_is)
    (case hm13 => k_is)
    (case rC13 => k_is)
    (case aC14 => k_is)
    (case bC14 => k_is)
    (case tC14 => k_is)
    (case dC14 => k_is)
    (case xC14 => k_exc)
    (case kC14 => k_is)
    (case cl14 => first | k_is | rfl)
    (case uC14 => first | k_is | rfl)
    (case nC14 => first | k_is | rfl)
    (case hg14 => k_is)
    (case hk14 => k_is)
    (case ha14 => k_is)
    (case hm14 => k_is)
    (case rC14 => k_is)
    (case aC15 => k_is)
    (case bC15 => k_is)
    (case tC15 => k_is)
    (case dC15 => k_is)
    (case cl15 => first | k_is | rfl)
    (case uC15 => first | k_is | rfl)
    (case nC15 => first | k_is | rfl)
    (case hg15 => k_is)
    (case hk15 => k_is)
    (case ha15 => k_is)
    (case hm15 => k_is)
    (case rC15 => k_is)
    (case iC15 => k_is)
    (case tI15 => k_is)
    (case lI15 => k_is)
    (case cI15 => k_is)
    (case ce15 => k_is)
    (case coI15 => k_is)
    (case fi15 => rfl)
    (case fe15 => first | rfl | decide +kernel)
    (case sa15 => k_is)
    (case lC15 => k_is)
    (case rv15 => first | rfl | decide +kernel)
    (case kC15 => k_is)
    (case sv15 => k_is)
    (case su15 => first | k_is | rfl)
    (case ex15 => first | k_is | rfl)
    (case fd15 => k_is)
    (case aC16 => k_is)
    (case bC16 => k_is)
    (case tC16 => k_is)
    (case dC16 => k_is)
    (case cl16 => first | k_is | rfl)
    (case uC16 => first | k_is | rfl)
    (case nC16 => first | k_is | rfl)
    (case hg16 => k_is)
    (case hk16 => k_is)
    (case ha16 => k_is)
    (case hm16 => k_is)
    (case rC16 => k_is)
    (case iC16 => k_is)
    (case tI16 => k_is)
    (case lI16 => k_is)
    (case cI16 => k_is)
    (case ce16 => k_is)
    (case coI16 => k_is)
    (case fi16 => rfl)
    (case fe16 => first | rfl | decide +kernel)
    (case sa16 => k_is)
    (case lC16 => k_is)
    (case rv16 => first | rfl | decide +kernel)
    (case kC16 => k_is)
    (case sv16 => k_is)
    (case su16 => first | k_is | rfl)
    (case ex16 => first | k_is | rfl)
    (case fd16 => k_is)
    (case aC17 => k_is)
    (case bC17 => k_is)
    (case tC17 => k_is)
    (case dC17 => k_is)
    (case cl17 => first | k_is | rfl)
    (case uC17 => first | k_is | rfl)
    (case nC17 => first | k_is | rfl)
    (case hg17 => k_is)
    (case hk17 => k_is)
    (case ha17 => k_is)
    (case hm17 => k_is)
    (case rC17 => k_is)
    (case iC17 => k_is)
    (case tI17 => k_is)
    (case lI17 => k_is)
    (case cI17 => k_is)
    (case ce17 => k_is)
    (case coI17 => k_is)
    (case fi17 => rfl)
    (case fe17 => first | rfl | decide +kernel)
    (case sa17 => k_is)
    (case lC17 => k_is)
    (case rv17 => first | rfl | decide +kernel)
    (case kC17 => k_is)
    (case sv17 => k_is)
    (case su17 => first | k_is | rfl)
    (case ex17 => first | k_is | rfl)
    (case fd17 => k_is)
    (case aC18 => k_is)
    (case bC18 => k_is)
    (case tC18 => k_is)
    (case dC18 => k_is)
    (case xC18 => k_exc)
    (case kC18 => k_is)
    (case cl18 => first | k_is | rfl)
    (case uC18 => first | k_is | rfl)
    (case nC18 => first | k_is | rfl)
    (case hg18 => k_is)
    (case hk18 => k_is)
    (case ha18 => k_is)
    (case hm18 => k_is)
    (case rC18 => k_is)
    (case aC19 => k_is)
    (case bC19 => k_is)
    (case tC19 => k_is)
    (case dC19 => k_is)
    (case xC19 => k_exc)
    (case kC19 => k_is)
    (case cl19 => first | k_is | rfl)
    (case uC19 => first | k_is | rfl)
    (case nC19 => first | k_is | rfl)
    (case hg19 => k_is)
    (case hk19 => k_is)
    (case ha19 => k_is)
    (case hm19 => k_is)
    (case rC19 => k_is)
    (case aC20 => k_is)
    (case bC20 => k_is)
    (case tC20 => k_is)
    (case dC20 => k_is)
    (case xC20 => k_exc)
    (case kC20 => k_is)
    (case cl20 => first | k_is | rfl)
    (case uC20 => first | k_is | rfl)
    (case nC20 => first | k_is | rfl)
    (case hg20 => k_is)
    (case hk20 => k_is)
    (case ha20 => k_is)
    (case hm20 => k_is)
    (case rC20 => k_is)
    (case aC21 => k_is)
    (case bC21 => k_is)
    (case tC21 => k_is)
    (case dC21 => k_is)
    (case xC21 => k_exc)
    (case kC21 => k_is)
    (case cl21 => first | k_is | rfl)
    (case uC21 => first | k_is | rfl)
    (case nC21 => first | k_is | rfl)
    (case hg21 => k_is)
    (case hk21 => k_is)
    (case ha21 => k_is)
    (case hm21 => k_is)
    (case rC21 => k_is)
    (case aC22 => k_is)
    (case bC22 => k_is)
    (case tC22 => k_is)
    (case dC22 => k_is)
    (case cl22 => first | k_is | rfl)
    (case uC22 => first | k_is | rfl)
    (case nC22 => first | k_is | rfl)
    (case hg22 => k_is)
    (case hk22 => k_is)
    (case ha22 => k_is)
    (case hm22 => k_is)
    (case rC22 => k_is)
    (case iC22 => k_is)
    (case tI22 => k_is)
    (case lI22 => k_is)
    (case cI22 => k_is)
    (case ce22 => k_is)
    (case coI22 => k_is)
    (case fi22 => rfl)
    (case fe22 => first | rfl | decide +kernel)
    (case sa22 => k_is)
    (case lC22 => k_is)
    (case rv22 => first | rfl | decide +kernel)
    (case kC22 => k_is)
    (case sv22 => k_is)
    (case su22 => first | k_is | rfl)
    (case ex22 => first | k_is | rfl)
    (case fd22 => k_is)
    (case aC23 => k_is)
    (case bC23 => k_is)
    (case tC23 => k_is)
    (case dC23 => k_is)
    (case xC23 => k_exc)
    (case kC23 => k_is)
    (case cl23 => first | k_is | rfl)
    (case uC23 => first | k_is | rfl)
    (case nC23 => first | k_is | rfl)
    (case hg23 => k_is)
    (case hk23 => k_is)
    (case ha23 => k_is)
    (case hm23 => k_is)
    (case rC23 => k_is)
    (case aC24 => k_is)
    (case bC24 => k_is)
    (case tC24 => k_is)
    (case dC24 => k_is)
    (case xC24 => k_exc)
    (case kC24 => k_is)
    (case cl24 => first | k_is | rfl)
    (case uC24 => first | k_is | rfl)
    (case nC24 => first | k_is | rfl)
    (case hg24 => k_is)
    (case hk24 => k_is)
    (case ha24 => k_is)
    (case hm24 => k_is)
    (case rC24 => k_is)
    (case aC25 => k_is)
    (case bC25 => k_is)
    (case tC25 => k_is)
    (case dC25 => k_is)
    (case xC25 => k_exc)
    (case kC25 => k_is)
    (case cl25 => first | k_is | rfl)
    (case uC25 => first | k_is | rfl)
    (case nC25 => first | k_is | rfl)
    (case hg25 => k_is)
    (case hk25 => k_is)
    (case ha25 => k_is)
    (case hm25 => k_is)
    (case rC25 => k_is)
    (case aC26 => k_is)
    (case bC26 => k_is)
    (case tC26 => k_is)
    (case dC26 => k_is)
    (case xC26 => k_exc)
    (case kC26 => k_is)
    (case cl26 => first | k_is | rfl)
    (case uC26 => first | k_is | rfl)
    (case nC26 => first | k_is | rfl)
    (case hg26 => k_is)
    (case hk26 => k_is)
    (case ha26 => k_is)
    (case hm26 => k_is)
    (case rC26 => k_is)
    (case aC27 => k_is)
    (case bC27 => k_is)
    (case tC27 => k_is)
    (case dC27 => k_is)
    (case xC27 => k_exc)
    (case kC27 => k_is)
    (case cl27 => first | k_is | rfl)
    (case uC27 => first | k_is | rfl)
    (case nC27 => first | k_is | rfl)
    (case hg27 => k_is)
    (case hk27 => k_is)
    (case ha27 => k_is)
    (case hm27 => k_is)
    (case rC27 => k_is)
    (case aC28 => k_is)
    (case bC28 => k_is)
    (case tC28 => k_is)
    (case dC28 => k_is)
    (case xC28 => k_exc)
    (case kC28 => k_is)
    (case cl28 => first | k_is | rfl)
    (case uC28 => first | k_is | rfl)
    (case nC28 => first | k_is | rfl)
    (case hg28 => k_is)
    (case hk28 => k_is)
    (case ha28 => k_is)
    (case hm28 => k_is)
    (case rC28 => k_is)
    (case aC29 => k_is)
    (case bC29 => k_is)
    (case tC29 => k_is)
    (case dC29 => k_is)
    (case cl29 => first | k_is | rfl)
    (case uC29 => first | k_is | rfl)
    (case nC29 => first | k_is | rfl)
    (case hg29 => k_is)
    (case hk29 => k_is)
    (case ha29 => k_is)
    (case hm29 => k_is)
    (case rC29 => k_is)
    (case iC29 => k_is)
    (case tI29 => k_is)
    (case lI29 => k_is)
    (case cI29 => k_is)
    (case ce29 => k_is)
    (case coI29 => k_is)
    (case fi29 => rfl)
    (case fe29 => first | rfl | decide +kernel)
    (case sa29 => k_is)
    (case lC29 => k_is)
    (case rv29 => first | rfl | decide +kernel)
    (case kC29 => k_is)
    (case sv29 => k_is)
    (case su29 => first | k_is | rfl)
    (case ex29 => first | k_is | rfl)
    (case fd29 => k_is)
    (case q0x0 => first | rfl | k_is)
    (case q0x12 => first | rfl | k_is)
    (case q0x16 => first | rfl | k_is)
    (case q0x28 => first | rfl | k_is)
    (case q12x0 => first | rfl | k_is)
    (case q12x12 => first | rfl | k_is)
    (case q12x16 => first | rfl | k_is)
    (case q12x28 => first | rfl | k_is)
    (case q16x0 => first | rfl | k_is)
    (case q16x12 => first | rfl | k_is)
    (case q16x16 => first | rfl | k_is)
    (case q16x28 => first | rfl | k_is)
    (case q28x0 => first | rfl | k_is)
    (case q28x12 => first | rfl | k_is)
    (case q28x16 => first | rfl | k_is)
    (case q28x28 => first | rfl | k_is)
    (case q1x0 => first | rfl | k_is)
    (case q1x2 => first | rfl | k_is)
    (case q1x3 => first | rfl | k_is)
    (case q1x4 => first | rfl | k_is)
    (case q1x5 => first | rfl | k_is)
    (case q1x6 => first | rfl | k_is)
    (case q1x7 => first | rfl | k_is)
    (case q1x8 => first | rfl | k_is)
    (case q1x9 => first | rfl | k_is)
    (case q1x10 => first | rfl | k_is)
    (case q1x11 => first | rfl | k_is)
    (case q1x12 => first | rfl | k_is)
    (case q1x13 => first | rfl | k_is)
    (case q1x14 => first | rfl | k_is)
    (case q1x15 => first | rfl | k_is)
    (case q1x16 => first | rfl | k_is)
    (case q1x17 => first | rfl | k_is)
    (case q1x18 => first | rfl | k_is)
    (case q1x19 => first | rfl | k_is)
    (case q1x20 => first | rfl | k_is)
    (case q1x21 => first | rfl | k_is)
    (case q1x22 => first | rfl | k_is)
    (case q1x23 => first | rfl | k_is)
    (case q1x24 => first | rfl | k_is)
    (case q1x25 => first | rfl | k_is)
    (case q1x26 => first | rfl | k_is)
    (case q1x27 => first | rfl | k_is)
    (case q1x28 => first | rfl | k_is)
    (case q1x29 => first | rfl | k_is)
    (case sv1 => k_is)
    (case q2x0 => first | rfl | k_is)
    (case q2x1 => first | rfl | k_is)
    (case q2x3 => first | rfl | k_is)
    (case q2x4 => first | rfl | k_is)
    (case q2x5 => first | rfl | k_is)
    (case q2x6 => first | rfl | k_is)
    (case q2x7 => first | rfl | k_is)
    (case q2x8 => first | rfl | k_is)
    (case q2x9 => first | rfl | k_is)
    (case q2x10 => first | rfl | k_is)
    (case q2x11 => first | rfl | k_is)
    (case q2x12 => first | rfl | k_is)
    (case q2x13 => first | rfl | k_is)
    (case q2x14 => first | rfl | k_is)
    (case q2x15 => first | rfl | k_is)
    (case q2x16 => first | rfl | k_is)
    (case q2x17 => first | rfl | k_is)
    (case q2x18 => first | rfl | k_is)
    (case q2x19 => first | rfl | k_is)
    (case q2x20 => first | rfl | k_is)
    (case q2x21 => first | rfl | k_is)
    (case q2x22 => first | rfl | k_is)
    (case q2x23 => first | rfl | k_is)
    (case q2x24 => first | rfl | k_is)
    (case q2x25 => first | rfl | k_is)
    (case q2x26 => first | rfl | k_is)
    (case q2x27 => first | rfl | k_is)
    (case q2x28 => first | rfl | k_is)
    (case q2x29 => first | rfl | k_is)
    (case sv2 => k_is)
    (case q3x0 => first | rfl | k_is)
    (case q3x1 => first | rfl | k_is)
    (case q3x2 => first | rfl | k_is)
    (case q3x4 => first | rfl | k_is)
    (case q3x5 => first | rfl | k_is)
    (case q3x6 => first | rfl | k_is)
    (case q3x7 => first | rfl | k_is)
    (case q3x8 => first | rfl | k_is)
    (case q3x9 => first | rfl | k_is)
    (case q3x10 => first | rfl | k_is)
    (case q3x11 => first | rfl | k_is)
    (case q3x12 => first | rfl | k_is)
    (case q3x13 => first | rfl | k_is)
    (case q3x14 => first | rfl | k_is)
    (case q3x15 => first | rfl | k_is)
    (case q3x16 => first | rfl | k_is)
    (case q3x17 => first | rfl | k_is)
    (case q3x18 => first | rfl | k_is)
    (case q3x19 => first | rfl | k_is)
    (case q3x20 => first | rfl | k_is)
    (case q3x21 => first | rfl | k_is)
    (case q3x22 => first | rfl | k_is)
    (case q3x23 => first | rfl | k_is)
    (case q3x24 => first | rfl | k_is)
    (case q3x25 => first | rfl | k_is)
    (case q3x26 => first | rfl | k_is)
    (case q3x27 => first | rfl | k_is)
    (case q3x28 => first | rfl | k_is)
    (case q3x29 => first | rfl | k_is)
    (case q4x0 => first | rfl | k_is)
    (case q4x1 => first | rfl | k_is)
    (case q4x2 => first | rfl | k_is)
    (case q4x3 => first | rfl | k_is)
    (case q4x5 => first | rfl | k_is)
    (case q4x6 => first | rfl | k_is)
    (case q4x7 => first | rfl | k_is)
    (case q4x8 => first | rfl | k_is)
    (case q4x9 => first | rfl | k_is)
    (case q4x10 => first | rfl | k_is)
    (case q4x11 => first | rfl | k_is)
    (case q4x12 => first | rfl | k_is)
    (case q4x13 => first | rfl | k_is)
    (case q4x14 => first | rfl | k_is)
    (case q4x15 => first | rfl | k_is)
    (case q4x16 => first | rfl | k_is)
    (case q4x17 => first | rfl | k_is)
    (case q4x18 => first | rfl | k_is)
    (case q4x19 => first | rfl | k_is)
    (case q4x20 => first | rfl | k_is)
    (case q4x21 => first | rfl | k_is)
    (case q4x22 => first | rfl | k_is)
    (case q4x23 => first | rfl | k_is)
    (case q4x24 => first | rfl | k_is)
    (case q4x25 => first | rfl | k_is)
    (case q4x26 => first | rfl | k_is)
    (case q4x27 => first | rfl | k_is)
    (case q4x28 => first | rfl | k_is)
    (case q4x29 => first | rfl | k_is)
    (case q5x0 => first | rfl | k_is)
    (case q5x1 => first | rfl | k_is)
    (case q5x2 => first | rfl | k_is)
    (case q5x3 => first | rfl | k_is)
    (case q5x4 => first | rfl | k_is)
    (case q5x6 => first | rfl | k_is)
    (case q5x7 => first | rfl | k_is)
    (case q5x8 => first | rfl | k_is)
    (case q5x9 => first | rfl | k_is)
    (case q5x10 => first | rfl | k_is)
    (case q5x11 => first | rfl | k_is)
    (case q5x12 => first | rfl | k_is)
    (case q5x13 => first | rfl | k_is)
    (case q5x14 => first | rfl | k_is)
    (case q5x15 => first | rfl | k_is)
    (case q5x16 => first | rfl | k_is)
    (case q5x17 => first | rfl | k_is)
    (case q5x18 => first | rfl | k_is)
    (case q5x19 => first | rfl | k_is)
    (case q5x20 => first | rfl | k_is)
    (case q5x21 => first | rfl | k_is)
    (case q5x22 => first | rfl | k_is)
    (case q5x23 => first | rfl | k_is)
    (case q5x24 => first | rfl | k_is)
    (case q5x25 => first | rfl | k_is)
    (case q5x26 => first | rfl | k_is)
    (case q5x27 => first | rfl | k_is)
    (case q5x28 => first | rfl | k_is)
    (case q5x29 => first | rfl | k_is)
    (case sv5 => k_is)
    (case q6x0 => first | rfl | k_is)
    (case q6x1 => first | rfl | k_is)
    (case q6x2 => first | rfl | k_is)
    (case q6x3 => first | rfl | k_is)
    (case q6x4 => first | rfl | k_is)
    (case q6x5 => first | rfl | k_is)
    (case q6x7 => first | rfl | k_is)
    (case q6x8 => first | rfl | k_is)
    (case q6x9 => first | rfl | k_is)
    (case q6x10 => first | rfl | k_is)
    (case q6x11 => first | rfl | k_is)
    (case q6x12 => first | rfl | k_is)
    (case q6x13 => first | rfl | k_is)
    (case q6x14 => first | rfl | k_is)
    (case q6x15 => first | rfl | k_is)
    (case q6x16 => first | rfl | k_is)
    (case q6x17 => first | rfl | k_is)
    (case q6x18 => first | rfl | k_is)
    (case q6x19 => first | rfl | k_is)
    (case q6x20 => first | rfl | k_is)
    (case q6x21 => first | rfl | k_is)
    (case q6x22 => first | rfl | k_is)
    (case q6x23 => first | rfl | k_is)
    (case q6x24 => first | rfl | k_is)
    (case q6x25 => first | rfl | k_is)
    (case q6x26 => first | rfl | k_is)
    (case q6x27 => first | rfl | k_is)
    (case q6x28 => first | rfl | k_is)
    (case q6x29 => first | rfl | k_is)
    (case sv6 => k_is)
    (case q7x0 => first | rfl | k_is)
    (case q7x1 => first | rfl | k_is)
    (case q7x2 => first | rfl | k_is)
    (case q7x3 => first | rfl | k_is)
    (case q7x4 => first | rfl | k_is)
    (case q7x5 => first | rfl | k_is)
    (case q7x6 => first | rfl | k_is)
    (case q7x8 => first | rfl | k_is)
    (case q7x9 => first | rfl | k_is)
    (case q7x10 => first | rfl | k_is)
    (case q7x11 => first | rfl | k_is)
    (case q7x12 => first | rfl | k_is)
    (case q7x13 => first | rfl | k_is)
    (case q7x14 => first | rfl | k_is)
    (case q7x15 => first | rfl | k_is)
    (case q7x16 => first | rfl | k_is)
    (case q7x17 => first | rfl | k_is)
    (case q7x18 => first | rfl | k_is)
    (case q7x19 => first | rfl | k_is)
    (case q7x20 => first | rfl | k_is)
    (case q7x21 => first | rfl | k_is)
    (case q7x22 => first | rfl | k_is)
    (case q7x23 => first | rfl | k_is)
    (case q7x24 => first | rfl | k_is)
    (case q7x25 => first | rfl | k_is)
    (case q7x26 => first | rfl | k_is)
    (case q7x27 => first | rfl | k_is)
    (case q7x28 => first | rfl | k_is)
    (case q7x29 => first | rfl | k_is)
    (case sv7 => k_is)
    (case q8x0 => first | rfl | k_is)
    (case q8x1 => first | rfl | k_is)
    (case q8x2 => first | rfl | k_is)
    (case q8x3 => first | rfl | k_is)
    (case q8x4 => first | rfl | k_is)
    (case q8x5 => first | rfl | k_is)
    (case q8x6 => first | rfl | k_is)
    (case q8x7 => first | rfl | k_is)
    (case q8x9 => first | rfl | k_is)
    (case q8x10 => first | rfl | k_is)
    (case q8x11 => first | rfl | k_is)
    (case q8x12 => first | rfl | k_is)
    (case q8x13 => first | rfl | k_is)
    (case q8x14 => first | rfl | k_is)
    (case q8x15 => first | rfl | k_is)
    (case q8x16 => first | rfl | k_is)
    (case q8x17 => first | rfl | k_is)
    (case q8x18 => first | rfl | k_is)
    (case q8x19 => first | rfl | k_is)
    (case q8x20 => first | rfl | k_is)
    (case q8x21 => first | rfl | k_is)
    (case q8x22 => first | rfl | k_is)
    (case q8x23 => first | rfl | k_is)
    (case q8x24 => first | rfl | k_is)
    (case q8x25 => first | rfl | k_is)
    (case q8x26 => first | rfl | k_is)
    (case q8x27 => first | rfl | k_is)
    (case q8x28 => first | rfl | k_is)
    (case q8x29 => first | rfl | k_is)
    (case sv8 => k_is)
    (case q9x0 => first | rfl | k_is)
    (case q9x1 => first | rfl | k_is)
    (case q9x2 => first | rfl | k_is)
    (case q9x3 => first | rfl | k_is)
    (case q9x4 => first | rfl | k_is)
    (case q9x5 => first | rfl | k_is)
    (case q9x6 => first | rfl | k_is)
    (case q9x7 => first | rfl | k_is)
    (case q9x8 => first | rfl | k_is)
    (case q9x10 => first | rfl | k_is)
    (case q9x11 => first | rfl | k_is)
    (case q9x12 => first | rfl | k_is)
    (case q9x13 => first | rfl | k_is)
    (case q9x14 => first | rfl | k_is)
    (case q9x15 => first | rfl | k_is)
    (case q9x16 => first | rfl | k_is)
    (case q9x17 => first | rfl | k_is)
    (case q9x18 => first | rfl | k_is)
    (case q9x19 => first | rfl | k_is)
    (case q9x20 => first | rfl | k_is)
    (case q9x21 => first | rfl | k_is)
    (case q9x22 => first | rfl | k_is)
    (case q9x23 => first | rfl | k_is)
    (case q9x24 => first | rfl | k_is)
    (case q9x25 => first | rfl | k_is)
    (case q9x26 => first | rfl | k_is)
    (case q9x27 => first | rfl | k_is)
    (case q9x28 => first | rfl | k_is)
    (case q9x29 => first | rfl | k_is)
    (case sv9 => k_is)
    (case q10x0 => first | rfl | k_is)
    (case q10x1 => first | rfl | k_is)
    (case q10x2 => first | rfl | k_is)
    (case q10x3 => first | rfl | k_is)
    (case q10x4 => first | rfl | k_is)
    (case q10x5 => first | rfl | k_is)
    (case q10x6 => first | rfl | k_is)
    (case q10x7 => first | rfl | k_is)
    (case q10x8 => first | rfl | k_is)
    (case q10x9 => first | rfl | k_is)
    (case q10x11 => first | rfl | k_is)
    (case q10x12 => first | rfl | k_is)
    (case q10x13 => first | rfl | k_is)
    (case q10x14 => first | rfl | k_is)
    (case q10x15 => first | rfl | k_is)
    (case q10x16 => first | rfl | k_is)
    (case q10x17 => first | rfl | k_is)
    (case q10x18 => first | rfl | k_is)
    (case q10x19 => first | rfl | k_is)
    (case q10x20 => first | rfl | k_is)
    (case q10x21 => first | rfl | k_is)
    (case q10x22 => first | rfl | k_is)
    (case q10x23 => first | rfl | k_is)
    (case q10x24 => first | rfl | k_is)
    (case q10x25 => first | rfl | k_is)
    (case q10x26 => first | rfl | k_is)
    (case q10x27 => first | rfl | k_is)
    (case q10x28 => first | rfl | k_is)
    (case q10x29 => first | rfl | k_is)
    (case q11x0 => first | rfl | k_is)
    (case q11x1 => first | rfl | k_is)
    (case q11x2 => first | rfl | k_is)
    (case q11x3 => first | rfl | k_is)
    (case q11x4 => first | rfl | k_is)
    (case q11x5 => first | rfl | k_is)
    (case q11x6 => first | rfl | k_is)
    (case q11x7 => first | rfl | k_is)
    (case q11x8 => first | rfl | k_is)
    (case q11x9 => first | rfl | k_is)
    (case q11x10 => first | rfl | k_is)
    (case q11x12 => first | rfl | k_is)
    (case q11x13 => first | rfl | k_is)
    (case q11x14 => first | rfl | k_is)
    (case q11x15 => first | rfl | k_is)
    (case q11x16 => first | rfl | k_is)
    (case q11x17 => first | rfl | k_is)
    (case q11x18 => first | rfl | k_is)
    (case q11x19 => first | rfl | k_is)
    (case q11x20 => first | rfl | k_is)
    (case q11x21 => first | rfl | k_is)
    (case q11x22 => first | rfl | k_is)
    (case q11x23 => first | rfl | k_is)
    (case q11x24 => first | rfl | k_is)
    (case q11x25 => first | rfl | k_is)
    (case q11x26 => first | rfl | k_is)
    (case q11x27 => first | rfl | k_is)
    (case q11x28 => first | rfl | k_is)
    (case q11x29 => first | rfl | k_is)
    (case sv11 => k_is)
    (case q12x1 => first | rfl | k_is)
    (case q12x2 => first | rfl | k_is)
    (case q12x3 => first | rfl | k_is)
    (case q12x4 => first | rfl | k_is)
    (case q12x5 => first | rfl | k_is)
    (case q12x6 => first | rfl | k_is)
    (case q12x7 => first | rfl | k_is)
    (case q12x8 => first | rfl | k_is)
    (case q12x9 => first | rfl | k_is)
    (case q12x10 => first | rfl | k_is)
    (case q12x11 => first | rfl | k_is)
    (case q12x13 => first | rfl | k_is)
    (case q12x14 => first | rfl | k_is)
    (case q12x15 => first | rfl | k_is)
    (case q12x17 => first | rfl | k_is)
    (case q12x18 => first | rfl | k_is)
    (case q12x19 => first | rfl | k_is)
    (case q12x20 => first | rfl | k_is)
    (case q12x21 => first | rfl | k_is)
    (case q12x22 => first | rfl | k_is)
    (case q12x23 => first | rfl | k_is)
    (case q12x24 => first | rfl | k_is)
    (case q12x25 => first | rfl | k_is)
    (case q12x26 => first | rfl | k_is)
    (case q12x27 => first | rfl | k_is)
    (case q12x29 => first | rfl | k_is)
    (case sv12 => k_is)
    (case q13x0 => first | rfl | k_is)
    (case q13x1 => first | rfl | k_is)
    (case q13x2 => first | rfl | k_is)
    (case q13x3 => first | rfl | k_is)
    (case q13x4 => first | rfl | k_is)
    (case q13x5 => first | rfl | k_is)
    (case q13x6 => first | rfl | k_is)
    (case q13x7 => first | rfl | k_is)
    (case q13x8 => first | rfl | k_is)
    (case q13x9 => first | rfl | k_is)
    (case q13x10 => first | rfl | k_is)
    (case q13x11 => first | rfl | k_is)
    (case q13x12 => first | rfl | k_is)
    (case q13x14 => first | rfl | k_is)
    (case q13x15 => first | rfl | k_is)
    (case q13x16 => first | rfl | k_is)
    (case q13x17 => first | rfl | k_is)
    (case q13x18 => first | rfl | k_is)
    (case q13x19 => first | rfl | k_is)
    (case q13x20 => first | rfl | k_is)
    (case q13x21 => first | rfl | k_is)
    (case q13x22 => first | rfl | k_is)
    (case q13x23 => first | rfl | k_is)
    (case q13x24 => first | rfl | k_is)
    (case q13x25 => first | rfl | k_is)
    (case q13x26 => first | rfl | k_is)
    (case q13x27 => first | rfl | k_is)
    (case q13x28 => first | rfl | k_is)
    (case q13x29 => first | rfl | k_is)
    (case sv13 => k_is)
    (case q14x0 => first | rfl | k_is)
    (case q14x1 => first | rfl | k_is)
    (case q14x2 => first | rfl | k_is)
    (case q14x3 => first | rfl | k_is)
    (case q14x4 => first | rfl | k_is)
    (case q14x5 => first | rfl | k_is)
    (case q14x6 => first | rfl | k_is)
    (case q14x7 => first | rfl | k_is)
    (case q14x8 => first | rfl | k_is)
    (case q14x9 => first | rfl | k_is)
    (case q14x10 => first | rfl | k_is)
    (case q14x11 => first | rfl | k_is)
    (case q14x12 => first | rfl | k_is)
    (case q14x13 => first | rfl | k_is)
    (case q14x15 => first | rfl | k_is)
    (case q14x16 => first | rfl | k_is)
    (case q14x17 => first | rfl | k_is)
    (case q14x18 => first | rfl | k_is)
    (case q14x19 => first | rfl | k_is)
    (case q14x20 => first | rfl | k_is)
    (case q14x21 => first | rfl | k_is)
    (case q14x22 => first | rfl | k_is)
    (case q14x23 => first | rfl | k_is)
    (case q14x24 => first | rfl | k_is)
    (case q14x25 => first | rfl | k_is)
    (case q14x26 => first | rfl | k_is)
    (case q14x27 => first | rfl | k_is)
    (case q14x28 => first | rfl | k_is)
    (case q14x29 => first | rfl | k_is)
    (case sv14 => k_is)
    (case q15x0 => first | rfl | k_is)
    (case q15x1 => first | rfl | k_is)
    (case q15x2 => first | rfl | k_is)
    (case q15x3 => first | rfl | k_is)
    (case q15x4 => first | rfl | k_is)
    (case q15x5 => first | rfl | k_is)
    (case q15x6 => first | rfl | k_is)
    (case q15x7 => first | rfl | k_is)
    (case q15x8 => first | rfl | k_is)
    (case q15x9 => first | rfl | k_is)
    (case q15x10 => first | rfl | k_is)
    (case q15x11 => first | rfl | k_is)
    (case q15x12 => first | rfl | k_is)
    (case q15x13 => first | rfl | k_is)
    (case q15x14 => first | rfl | k_is)
    (case q15x16 => first | rfl | k_is)
    (case q15x17 => first | rfl | k_is)
    (case q15x18 => first | rfl | k_is)
    (case q15x19 => first | rfl | k_is)
    (case q15x20 => first | rfl | k_is)
    (case q15x21 => first | rfl | k_is)
    (case q15x22 => first | rfl | k_is)
    (case q15x23 => first | rfl | k_is)
    (case q15x24 => first | rfl | k_is)
    (case q15x25 => first | rfl | k_is)
    (case q15x26 => first | rfl | k_is)
    (case q15x27 => first | rfl | k_is)
    (case q15x28 => first | rfl | k_is)
    (case q15x29 => first | rfl | k_is)
    (case q16x1 => first | rfl | k_is)
    (case q16x2 => first | rfl | k_is)
    (case q16x3 => first | rfl | k_is)
    (case q16x4 => first | rfl | k_is)
    (case q16x5 => first | rfl | k_is)
    (case q16x6 => first | rfl | k_is)
    (case q16x7 => first | rfl | k_is)
    (case q16x8 => first | rfl | k_is)
    (case q16x9 => first | rfl | k_is)
    (case q16x10 => first | rfl | k_is)
    (case q16x11 => first | rfl | k_is)
    (case q16x13 => first | rfl | k_is)
    (case q16x14 => first | rfl | k_is)
    (case q16x15 => first | rfl | k_is)
    (case q16x17 => first | rfl | k_is)
    (case q16x18 => first | rfl | k_is)
    (case q16x19 => first | rfl | k_is)
    (case q16x20 => first | rfl | k_is)
    (case q16x21 => first | rfl | k_is)
    (case q16x22 => first | rfl | k_is)
    (case q16x23 => first | rfl | k_is)
    (case q16x24 => first | rfl | k_is)
    (case q16x25 => first | rfl | k_is)
    (case q16x26 => first | rfl | k_is)
    (case q16x27 => first | rfl | k_is)
    (case q16x29 => first | rfl | k_is)
    (case q17x0 => first | rfl | k_is)
    (case q17x1 => first | rfl | k_is)
    (case q17x2 => first | rfl | k_is)
    (case q17x3 => first | rfl | k_is)
    (case q17x4 => first | rfl | k_is)
    (case q17x5 => first | rfl | k_is)
    (case q17x6 => first | rfl | k_is)
    (case q17x7 => first | rfl | k_is)
    (case q17x8 => first | rfl | k_is)
    (case q17x9 => first | rfl | k_is)
    (case q17x10 => first | rfl | k_is)
    (case q17x11 => first | rfl | k_is)
    (case q17x12 => first | rfl | k_is)
    (case q17x13 => first | rfl | k_is)
    (case q17x14 => first | rfl | k_is)
    (case q17x15 => first | rfl | k_is)
    (case q17x16 => first | rfl | k_is)
    (case q17x18 => first | rfl | k_is)
    (case q17x19 => first | rfl | k_is)
    (case q17x20 => first | rfl | k_is)
    (case q17x21 => first | rfl | k_is)
    (case q17x22 => first | rfl | k_is)
    (case q17x23 => first | rfl | k_is)
    (case q17x24 => first | rfl | k_is)
    (case q17x25 => first | rfl | k_is)
    (case q17x26 => first | rfl | k_is)
    (case q17x27 => first | rfl | k_is)
    (case q17x28 => first | rfl | k_is)
    (case q17x29 => first | rfl | k_is)
    (case q18x0 => first | rfl | k_is)
    (case q18x1 => first | rfl | k_is)
    (case q18x2 => first | rfl | k_is)
    (case q18x3 => first | rfl | k_is)
    (case q18x4 => first | rfl | k_is)
    (case q18x5 => first | rfl | k_is)
    (case q18x6 => first | rfl | k_is)
    (case q18x7 => first | rfl | k_is)
    (case q18x8 => first | rfl | k_is)
    (case q18x9 => first | rfl | k_is)
    (case q18x10 => first | rfl | k_is)
    (case q18x11 => first | rfl | k_is)
    (case q18x12 => first | rfl | k_is)
    (case q18x13 => first | rfl | k_is)
    (case q18x14 => first | rfl | k_is)
    (case q18x15 => first | rfl | k_is)
    (case q18x16 => first | rfl | k_is)
    (case q18x17 => first | rfl | k_is)
    (case q18x19 => first | rfl | k_is)
    (case q18x20 => first | rfl | k_is)
    (case q18x21 => first | rfl | k_is)
    (case q18x22 => first | rfl | k_is)
    (case q18x23 => first | rfl | k_is)
    (case q18x24 => first | rfl | k_is)
    (case q18x25 => first | rfl | k_is)
    (case q18x26 => first | rfl | k_is)
    (case q18x27 => first | rfl | k_is)
    (case q18x28 => first | rfl | k_is)
    (case q18x29 => first | rfl | k_is)
    (case sv18 => k_is)
    (case q19x0 => first | rfl | k_is)
    (case q19x1 => first | rfl | k_is)
    (case q19x2 => first | rfl | k_is)
    (case q19x3 => first | rfl | k_is)
    (case q19x4 => first | rfl | k_is)
    (case q19x5 => first | rfl | k_is)
    (case q19x6 => first | rfl | k_is)
    (case q19x7 => first | rfl | k_is)
    (case q19x8 => first | rfl | k_is)
    (case q19x9 => first | rfl | k_is)
    (case q19x10 => first | rfl | k_is)
    (case q19x11 => first | rfl | k_is)
    (case q19x12 => first | rfl | k_is)
    (case q19x13 => first | rfl | k_is)
    (case q19x14 => first | rfl | k_is)
    (case q19x15 => first | rfl | k_is)
    (case q19x16 => first | rfl | k_is)
    (case q19x17 => first | rfl | k_is)
    (case q19x18 => first | rfl | k_is)
    (case q19x20 => first | rfl | k_is)
    (case q19x21 => first | rfl | k_is)
    (case q19x22 => first | rfl | k_is)
    (case q19x23 => first | rfl | k_is)
    (case q19x24 => first | rfl | k_is)
    (case q19x25 => first | rfl | k_is)
    (case q19x26 => first | rfl | k_is)
    (case q19x27 => first | rfl | k_is)
    (case q19x28 => first | rfl | k_is)
    (case q19x29 => first | rfl | k_is)
    (case sv19 => k_is)
    (case q20x0 => first | rfl | k_is)
    (case q20x1 => first | rfl | k_is)
    (case q20x2 => first | rfl | k_is)
    (case q20x3 => first | rfl | k_is)
    (case q20x4 => first | rfl | k_is)
    (case q20x5 => first | rfl | k_is)
    (case q20x6 => first | rfl | k_is)
    (case q20x7 => first | rfl | k_is)
    (case q20x8 => first | rfl | k_is)
    (case q20x9 => first | rfl | k_is)
    (case q20x10 => first | rfl | k_is)
    (case q20x11 => first | rfl | k_is)
    (case q20x12 => first | rfl | k_is)
    (case q20x13 => first | rfl | k_is)
    (case q20x14 => first | rfl | k_is)
    (case q20x15 => first | rfl | k_is)
    (case q20x16 => first | rfl | k_is)
    (case q20x17 => first | rfl | k_is)
    (case q20x18 => first | rfl | k_is)
    (case q20x19 => first | rfl | k_is)
    (case q20x21 => first | rfl | k_is)
    (case q20x22 => first | rfl | k_is)
    (case q20x23 => first | rfl | k_is)
    (case q20x24 => first | rfl | k_is)
    (case q20x25 => first | rfl | k_is)
    (case q20x26 => first | rfl | k_is)
    (case q20x27 => first | rfl | k_is)
    (case q20x28 => first | rfl | k_is)
    (case q20x29 => first | rfl | k_is)
    (case sv20 => k_is)
    (case q21x0 => first | rfl | k_is)
    (case q21x1 => first | rfl | k_is)
    (case q21x2 => first | rfl | k_is)
    (case q21x3 => first | rfl | k_is)
    (case q21x4 => first | rfl | k_is)
    (case q21x5 => first | rfl | k_is)
    (case q21x6 => first | rfl | k_is)
    (case q21x7 => first | rfl | k_is)
    (case q21x8 => first | rfl | k_is)
    (case q21x9 => first | rfl | k_is)
    (case q21x10 => first | rfl | k_is)
    (case q21x11 => first | rfl | k_is)
    (case q21x12 => first | rfl | k_is)
    (case q21x13 => first | rfl | k_is)
    (case q21x14 => first | rfl | k_is)
    (case q21x15 => first | rfl | k_is)
    (case q21x16 => first | rfl | k_is)
    (case q21x17 => first | rfl | k_is)
    (case q21x18 => first | rfl | k_is)
    (case q21x19 => first | rfl | k_is)
    (case q21x20 => first | rfl | k_is)
    (case q21x22 => first | rfl | k_is)
    (case q21x23 => first | rfl | k_is)
    (case q21x24 => first | rfl | k_is)
    (case q21x25 => first | rfl | k_is)
    (case q21x26 => first | rfl | k_is)
    (case q21x27 => first | rfl | k_is)
    (case q21x28 => first | rfl | k_is)
    (case q21x29 => first | rfl | k_is)
    (case sv21 => k_is)
    (case q22x0 => first | rfl | k_is)
    (case q22x1 => first | rfl | k_is)
    (case q22x2 => first | rfl | k_is)
    (case q22x3 => first | rfl | k_is)
    (case q22x4 => first | rfl | k_is)
    (case q22x5 => first | rfl | k_is)
    (case q22x6 => first | rfl | k_is)
    (case q22x7 => first | rfl | k_is)
    (case q22x8 => first | rfl | k_is)
    (case q22x9 => first | rfl | k_is)
    (case q22x10 => first | rfl | k_is)
    (case q22x11 => first | rfl | k_is)
    (case q22x12 => first | rfl | k_is)
    (case q22x13 => first | rfl | k_is)
    (case q22x14 => first | rfl | k_is)
    (case q22x15 => first | rfl | k_is)
    (case q22x16 => first | rfl | k_is)
    (case q22x17 => first | rfl | k_is)
    (case q22x18 => first | rfl | k_is)
    (case q22x19 => first | rfl | k_is)
    (case q22x20 => first | rfl | k_is)
    (case q22x21 => first | rfl | k_is)
    (case q22x23 => first | rfl | k_is)
    (case q22x24 => first | rfl | k_is)
    (case q22x25 => first | rfl | k_is)
    (case q22x26 => first | rfl | k_is)
    (case q22x27 => first | rfl | k_is)
    (case q22x28 => first | rfl | k_is)
    (case q22x29 => first | rfl | k_is)
    (case q23x0 => first | rfl | k_is)
    (case q23x1 => first | rfl | k_is)
    (case q23x2 => first | rfl | k_is)
    (case q23x3 => first | rfl | k_is)
    (case q23x4 => first | rfl | k_is)
    (case q23x5 => first | rfl | k_is)
    (case q23x6 => first | rfl | k_is)
    (case q23x7 => first | rfl | k_is)
    (case q23x8 => first | rfl | k_is)
    (case q23x9 => first | rfl | k_is)
    (case q23x10 => first | rfl | k_is)
    (case q23x11 => first | rfl | k_is)
    (case q23x12 => first | rfl | k_is)
    (case q23x13 => first | rfl | k_is)
    (case q23x14 => first | rfl | k_is)
    (case q23x15 => first | rfl | k_is)
    (case q23x16 => first | rfl | k_is)
    (case q23x17 => first | rfl | k_is)
    (case q23x18 => first | rfl | k_is)
    (case q23x19 => first | rfl | k_is)
    (case q23x20 => first | rfl | k_is)
    (case q23x21 => first | rfl | k_is)
    (case q23x22 => first | rfl | k_is)
    (case q23x24 => first | rfl | k_is)
    (case q23x25 => first | rfl | k_is)
    (case q23x26 => first | rfl | k_is)
    (case q23x27 => first | rfl | k_is)
    (case q23x28 => first | rfl | k_is)
    (case q23x29 => first | rfl | k_is)
    (case sv23 => k_is)
    (case q24x0 => first | rfl | k_is)
    (case q24x1 => first | rfl | k_is)
    (case q24x2 => first | rfl | k_is)
    (case q24x3 => first | rfl | k_is)
    (case q24x4 => first | rfl | k_is)
    (case q24x5 => first | rfl | k_is)
    (case q24x6 => first | rfl | k_is)
    (case q24x7 => first | rfl | k_is)
    (case q24x8 => first | rfl | k_is)
    (case q24x9 => first | rfl | k_is)
    (case q24x10 => first | rfl | k_is)
    (case q24x11 => first | rfl | k_is)
    (case q24x12 => first | rfl | k_is)
    (case q24x13 => first | rfl | k_is)
    (case q24x14 => first | rfl | k_is)
    (case q24x15 => first | rfl | k_is)
    (case q24x16 => first | rfl | k_is)
    (case q24x17 => first | rfl | k_is)
    (case q24x18 => first | rfl | k_is)
    (case q24x19 => first | rfl | k_is)
    (case q24x20 => first | rfl | k_is)
    (case q24x21 => first | rfl | k_is)
    (case q24x22 => first | rfl | k_is)
    (case q24x23 => first | rfl | k_is)
    (case q24x25 => first | rfl | k_is)
    (case q24x26 => first | rfl | k_is)
    (case q24x27 => first | rfl | k_is)
    (case q24x28 => first | rfl | k_is)
    (case q24x29 => first | rfl | k_is)
    (case sv24 => k_is)
    (case q25x0 => first | rfl | k_is)
    (case q25x1 => first | rfl | k_is)
    (case q25x2 => first | rfl | k_is)
    (case q25x3 => first | rfl | k_is)
    (case q25x4 => first | rfl | k_is)
    (case q25x5 => first | rfl | k_is)
    (case q25x6 => first | rfl | k_is)
    (case q25x7 => first | rfl | k_is)
    (case q25x8 => first | rfl | k_is)
    (case q25x9 => first | rfl | k_is)
    (case q25x10 => first | rfl | k_is)
    (case q25x11 => first | rfl | k_is)
    (case q25x12 => first | rfl | k_is)
    (case q25x13 => first | rfl | k_is)
    (case q25x14 => first | rfl | k_is)
    (case q25x15 => first | rfl | k_is)
    (case q25x16 => first | rfl | k_is)
    (case q25x17 => first | rfl | k_is)
    (case q25x18 => first | rfl | k_is)
    (case q25x19 => first | rfl | k_is)
    (case q25x20 => first | rfl | k_is)
    (case q25x21 => first | rfl | k_is)
    (case q25x22 => first | rfl | k_is)
    (case q25x23 => first | rfl | k_is)
    (case q25x24 => first | rfl | k_is)
    (case q25x26 => first | rfl | k_is)
    (case q25x27 => first | rfl | k_is)
    (case q25x28 => first | rfl | k_is)
    (case q25x29 => first | rfl | k_is)
    (case sv25 => k_is)
    (case q26x0 => first | rfl | k_is)
    (case q26x1 => first | rfl | k_is)
    (case q26x2 => first | rfl | k_is)
    (case q26x3 => first | rfl | k_is)
    (case q26x4 => first | rfl | k_is)
    (case q26x5 => first | rfl | k_is)
    (case q26x6 => first | rfl | k_is)
    (case q26x7 => first | rfl | k_is)
    (case q26x8 => first | rfl | k_is)
    (case q26x9 => first | rfl | k_is)
    (case q26x10 => first | rfl | k_is)
    (case q26x11 => first | rfl | k_is)
    (case q26x12 => first | rfl | k_is)
    (case q26x13 => first | rfl | k_is)
    (case q26x14 => first | rfl | k_is)
    (case q26x15 => first | rfl | k_is)
    (case q26x16 => first | rfl | k_is)
    (case q26x17 => first | rfl | k_is)
    (case q26x18 => first | rfl | k_is)
    (case q26x19 => first | rfl | k_is)
    (case q26x20 => first | rfl | k_is)
    (case q26x21 => first | rfl | k_is)
    (case q26x22 => first | rfl | k_is)
    (case q26x23 => first | rfl | k_is)
    (case q26x24 => first | rfl | k_is)
    (case q26x25 => first | rfl | k_is)
    (case q26x27 => first | rfl | k_is)
    (case q26x28 => first | rfl | k_is)
    (case q26x29 => first | rfl | k_is)
    (case sv26 => k_is)
    (case q27x0 => first | rfl | k_is)
    (case q27x1 => first | rfl | k_is)
    (case q27x2 => first | rfl | k_is)
    (case q27x3 => first | rfl | k_is)
    (case q27x4 => first | rfl | k_is)
    (case q27x5 => first | rfl | k_is)
    (case q27x6 => first | rfl | k_is)
    (case q27x7 => first | rfl | k_is)
    (case q27x8 => first | rfl | k_is)
    (case q27x9 => first | rfl | k_is)
    (case q27x10 => first | rfl | k_is)
    (case q27x11 => first | rfl | k_is)
    (case q27x12 => first | rfl | k_is)
    (case q27x13 => first | rfl | k_is)
    (case q27x14 => first | rfl | k_is)
    (case q27x15 => first | rfl | k_is)
    (case q27x16 => first | rfl | k_is)
    (case q27x17 => first | rfl | k_is)
    (case q27x18 => first | rfl | k_is)
    (case q27x19 => first | rfl | k_is)
    (case q27x20 => first | rfl | k_is)
    (case q27x21 => first | rfl | k_is)
    (case q27x22 => first | rfl | k_is)
    (case q27x23 => first | rfl | k_is)
    (case q27x24 => first | rfl | k_is)
    (case q27x25 => first | rfl | k_is)
    (case q27x26 => first | rfl | k_is)
    (case q27x28 => first | rfl | k_is)
    (case q27x29 => first | rfl | k_is)
    (case sv27 => k_is)
    (case q28x1 => first | rfl | k_is)
    (case q28x2 => first | rfl | k_is)
    (case q28x3 => first | rfl | k_is)
    (case q28x4 => first | rfl | k_is)
    (case q28x5 => first | rfl | k_is)
    (case q28x6 => first | rfl | k_is)
    (case q28x7 => first | rfl | k_is)
    (case q28x8 => first | rfl | k_is)
    (case q28x9 => first | rfl | k_is)
    (case q28x10 => first | rfl | k_is)
    (case q28x11 => first | rfl | k_is)
    (case q28x13 => first | rfl | k_is)
    (case q28x14 => first | rfl | k_is)
    (case q28x15 => first | rfl | k_is)
    (case q28x17 => first | rfl | k_is)
    (case q28x18 => first | rfl | k_is)
    (case q28x19 => first | rfl | k_is)
    (case q28x20 => first | rfl | k_is)
    (case q28x21 => first | rfl | k_is)
    (case q28x22 => first | rfl | k_is)
    (case q28x23 => first | rfl | k_is)
    (case q28x24 => first | rfl | k_is)
    (case q28x25 => first | rfl | k_is)
    (case q28x26 => first | rfl | k_is)
    (case q28x27 => first | rfl | k_is)
    (case q28x29 => first | rfl | k_is)
    (case sv28 => k_is)
    (case q29x0 => first | rfl | k_is)
    (case q29x1 => first | rfl | k_is)
    (case q29x2 => first | rfl | k_is)
    (case q29x3 => first | rfl | k_is)
    (case q29x4 => first | rfl | k_is)
    (case q29x5 => first | rfl | k_is)
    (case q29x6 => first | rfl | k_is)
    (case q29x7 => first | rfl | k_is)
    (case q29x8 => first | rfl | k_is)
    (case q29x9 => first | rfl | k_is)
    (case q29x10 => first | rfl | k_is)
    (case q29x11 => first | rfl | k_is)
    (case q29x12 => first | rfl | k_is)
    (case q29x13 => first | rfl | k_is)
    (case q29x14 => first | rfl | k_is)
    (case q29x15 => first | rfl | k_is)
    (case q29x16 => first | rfl | k_is)
    (case q29x17 => first | rfl | k_is)
    (case q29x18 => first | rfl | k_is)
    (case q29x19 => first | rfl | k_is)
    (case q29x20 => first | rfl | k_is)
    (case q29x21 => first | rfl | k_is)
    (case q29x22 => first | rfl | k_is)
    (case q29x23 => first | rfl | k_is)
    (case q29x24 => first | rfl | k_is)
    (case q29x25 => first | rfl | k_is)
    (case q29x26 => first | rfl | k_is)
    (case q29x27 => first | rfl | k_is)
    (case q29x28 => first | rfl | k_is)
    (case hn => k_is)
    (case ht => k_is)
    (case opq => k_is)
    (case zsup => k_is)
    (case zve => k_is)
    (case nsup => first | rfl | decide +kernel)
#print axioms PySem.Challenge.cw_wholewalks_k00_errors_and_their_fields_holds

