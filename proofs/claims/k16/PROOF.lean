import PyProof.Rows.All
import Wide.All
import OpenK.AllK
import Wide.FinOn
import HandS.ForExc
import HandS.Nested
import HandS.ExcInit
import KE.KSuper
import KE.KExcSuper
import HandS.ExcField
import HandS.ExcIs
import HandS.IsInst
import HandS.ExcOwn
import KE.KExcIs
import HandS.CallSlots
import HandS.TupMul
import HandS.Conv
import HandS.SetFor
import HandS.Strs
import HandS.List
import KE.DatumOrd
import HandS.Comp
import HandS.Iter
import HandS.Text
import HandS.Walk
import HandS.TupAny
import HandS.TryMany
import HandS.Deep
import HandS.TupLe
import HandS.More
import HandS.Dict
import HandS.Small
import HandS.WordsExc
import PySem.Challenge.RW_wholewalks_k16_programs_judged
set_option Elab.async false
set_option linter.all false
set_option maxRecDepth 100000
set_option maxHeartbeats 4000000
/-! X0: an own class of errors whose __init__ says super().__init__(part); self.part = part, over classes without one. -/
namespace Z9
open PySem PySem.Spec PyProof.Rows L2 PySem.W NdefX

abbrev bmVE : List Value := [.type "ValueError", .type "Exception", .type "BaseException", .type "object"]
/-- what is known of such a class -/
structure SupF (P : Program) (K : Frag) (mg : Str → Option Value) (C fI : Addr) (F : NF) (doc pm ctv : Value) (slf part fld : Str) : Prop where
  fn : ∃ oc od sl, K.lookup fI = some ⟨oc, od, .func (F.fd doc pm ctv), sl⟩
  cl : ∃ cell oc od sl, F.cl = [(("__class__" : Str), cell)] ∧ K.lookup cell = some ⟨oc, od, .cell (some (.ref C)), sl⟩
  code : codeIn K (.ref F.c) F.qual = true
  file : ∃ oc vs file tf, K.lookup F.c = some oc ∧ oc.data = .fields vs ∧ vs[2]? = some (.str file tf) ∧ (P.main.file == file) = true
  nosup : (P.main.scope.names.lookup ("super" : Str)).isSome = false
  mgs : mg "super" = none
  oex : OexC K C
  sub : subIn K (.ref C) (.ref C) = some true
  sve : subIn K (.ref C) (.type "ValueError") = some true
  sup : ks_superIn K C C "__init__" = some (some (.builtin "ValueError.__init__"))
  opq : nsIn K cStatics "thirdparty.any" = some none
  exi : excInitIn K C bmVE "ValueError.__new__" = true
  fdf : findIn K (.ref C) fld = some none
  scp : NScope [slf, part, "__class__"] [slf, part] ["__class__"] F.scope
  ssu : F.scope.names.lookup ("super" : Str) = some NameKind.globalImplicit
  par : ∃ ar, (F.params.posonlyargs ++ F.params.args).head? = some ar ∧ ar.arg = slf
  nm1 : (slf == ("__debug__" : Str)) = false ∧ (slf == ("__classdict__" : Str)) = false
  nm2 : (part == ("__debug__" : Str)) = false ∧ (part == ("__classdict__" : Str)) = false
  body : ∃ p0 p1 p2 p3 p4 p5 p6 p7 p8 p9, (p2.endLine == p4.line) = true ∧ F.body = [.Expr (.Call (.Attribute (.Call (.Name "super" p0) [] [] p1) "__init__" p2) [.Name part p3] [] p4) p5, .Assign [.Attribute (.Name slf p6) fld p7] (.Name part p8) p9]

/-- the promise: the field is kept -/
def spI (C : Addr) (fld : Str) : Sp := fun vs H Q _ => ∃ (a : Addr) (v : V), vs = [.ref a, v] ∧ H a = some (exo a C none) ∧ ∀ d, H d = none → d ≠ a → Q .non (upd (upd H d (exd d [(fld, v)])) a (exo a C (some d)))

theorem ns_keep {h h' : Heap} {a : Addr} {m : Str → Option Value} (k : ∀ b o, h.get? b = some o → h'.get? b = some o) (n : h.Ns a m) : h'.Ns a m := by
  obtain ⟨o, es, ep, e, r⟩ := n
  exact ⟨o, es, ep, k _ _ e, r⟩
theorem ns_uniq {h : Heap} {a : Addr} {m m' : Str → Option Value} (n : h.Ns a m) (n' : h.Ns a m') : m = m' := by
  obtain ⟨o, es, ep, e, d, _, f⟩ := n
  obtain ⟨o', es', ep', e', d', _, f'⟩ := n'
  rw [e] at e'
  cases e'
  rw [d] at d'
  cases d'
  funext x
  rw [← f x, ← f' x]
theorem ns_there {h : Heap} {a : Addr} {m : Str → Option Value} (n : h.Ns a m) : ∃ o, h.get? a = some o := by
  obtain ⟨o, _, _, e, _⟩ := n
  exact ⟨o, e⟩
theorem get_lt {h : Heap} {b : Addr} {o : Obj} (e : h.get? b = some o) : b < h.objs.size := by
  refine Classical.byContradiction fun n => ?_
  unfold Heap.get? at e
  rw [Array.getElem?_eq_none (show h.objs.size ≤ b from Nat.le_of_not_lt n)] at e
  cases e
/-- all objects but some -/
noncomputable def others (base h : Heap) (ex : List Addr) : List (Addr × Obj) := (List.range h.objs.size).filterMap fun b => match h.get? b with
  | some o => if (base.get? b).isNone && !(ex.contains b) then some (b, o) else none
  | none => none
theorem others_mem {base h : Heap} {ex : List Addr} {p : Addr × Obj} : p ∈ others base h ex ↔ h.get? p.1 = some p.2 ∧ base.get? p.1 = none ∧ p.1 ∉ ex := by
  unfold others
  rw [List.mem_filterMap]
  constructor
  · rintro ⟨b, _, e⟩
    cases k : h.get? b with
    | none => rw [k] at e; cases e
    | some o =>
      rw [k] at e
      simp only at e
      split at e
      · rename_i c
        cases e
        simp only [Bool.and_eq_true, Option.isNone_iff_eq_none, Bool.not_eq_true'] at c
        refine ⟨k, c.1, fun m => ?_⟩
        have := List.contains_iff_mem.mpr m
        rw [c.2] at this
        cases this
      · cases e
  · rintro ⟨e, n, m⟩
    refine ⟨p.1, List.mem_range.mpr (get_lt e), ?_⟩
    rw [e]
    simp only
    rw [if_pos]
    simp only [Bool.and_eq_true, Option.isNone_iff_eq_none, Bool.not_eq_true']
    refine ⟨n, ?_⟩
    cases c : ex.contains p.1 with
    | false => rfl
    | true => exact absurd (List.contains_iff_mem.mp c) m

section
variable {P : Program} {w : World} {K : Frag} {mg : Str → Option Value} {base : Heap} {C fI : Addr} {F : NF} {doc pm ctv : Value} {slf part fld : Str}
theorem frs_there {base : Heap} {h : Heap} : ∀ {outer : List PySem.Env}, h.FunFrames base outer → ∀ b ∈ frs outer, ∃ o, h.get? b = some o
  | [], _, b, m => by cases m
  | e :: outer, f, b, m => by
    unfold Heap.FunFrames at f
    obtain ⟨_, ⟨L, o, e1, _, e2, _⟩, f'⟩ := f
    unfold frs at m
    rw [List.filterMap_cons, e1] at m
    rcases List.mem_cons.mp m with rfl | m
    · exact ⟨o, e2⟩
    · exact frs_there f' b m
theorem frs_base {base : Heap} {h : Heap} : ∀ {outer : List PySem.Env}, h.FunFrames base outer → ∀ b ∈ frs outer, base.get? b = none
  | [], _, b, m => by cases m
  | e :: outer, f, b, m => by
    unfold Heap.FunFrames at f
    obtain ⟨_, ⟨L, o, e1, e0, e2, _⟩, f'⟩ := f
    unfold frs at m
    rw [List.filterMap_cons, e1] at m
    rcases List.mem_cons.mp m with rfl | m
    · exact e0
    · exact frs_base f' b m
theorem inv_keep {X : Cx} {pins : List (Addr × Obj)} {σ : L2.St} {H : Hp} {s : Shared} {h' : Heap} {g' : Array GenState} {t' : Nat} {d' : Drawn} {a : Addr} (I : L2.Inv X pins σ H s) (ha : H a = some (exo a C none))
    (k : ∀ b o, b ≠ X.env.locals → b ≠ a → s.heap.get? b = some o → h'.get? b = some o) (hx : ∃ t1, h'.get? a = some ⟨.ref C, none, .fields #[.ref t1, .none, .none, .none, .bool false, .none], #[]⟩)
    (n : ∀ m, s.heap.Ns X.env.locals m → h'.Ns X.env.locals m) (bare : AllBare g') : L2.Inv X pins σ H { heap := h', gens := g', drawn := d', toks := t', os := s.os } := by
  have ne : ∀ b, H b = none → b ≠ a := fun b e z => by rw [z, ha] at e; cases e
  have nl : ∀ b x, H b = some x → b ≠ X.env.locals := fun b x e z => by rw [z, I.free] at e; cases e
  obtain ⟨t1, hx⟩ := hx
  refine I.step (ch := []) (fun b m => by cases m) (fun b o h1 _ _ h2 h3 => k b o h1 (ne b h3) h2) (fun b o h1 _ _ h2 h3 => ⟨o.slots, k b o h1 (ne b h3) h2⟩) (fun _ _ _ _ e => e) (fun b o _ e => ?_) (fun _ _ e => e) (fun _ _ _ e => e) (fun _ _ e => ⟨#[], by simpa using e⟩) n (fun b x e => ?_) bare
  · by_cases z : b = X.env.locals
    · obtain ⟨m, hm, _⟩ := I.loc
      rw [z]
      exact ns_there (n m hm)
    · by_cases y : b = a
      · rw [y]
        exact ⟨_, hx⟩
      · exact ⟨o, k b o z y e⟩
  · by_cases y : b = a
    · rw [y] at e ⊢
      rw [ha] at e
      cases e
      exact exo_ok hx
    · refine ObjOk.stay (I.hok b x e) (fun b' u hb e' => ?_) (fun _ e => e) (fun _ _ e => e)
      rcases hb with rfl | hb
      · exact k _ _ (nl _ _ e) y e'
      · refine k _ _ (nl _ _ hb) (fun z => ?_) e'
        rw [z, ha] at hb
        exact exo_own (Option.some.inj hb)
theorem super_eval {env : PySem.Env} {part : Str} {p0 p1 p2 p3 p4 : Pos} (hp : (p2.endLine == p4.line) = true) : eval (.Call (.Attribute (.Call (.Name "super" p0) [] [] p1) "__init__" p2) [.Name part p3] [] p4) env = (do
    let ov ← attributeBase (.Call (.Name "super" p0) [] [] p1) "__init__" env (eval (.Call (.Name "super" p0) [] [] p1) env)
    standAt p2.atName
    let x ← holding [ov] (getMethod ov "__init__" (do
      let d ← importBound (.Call (.Name "super" p0) [] [] p1) env
      pure (d.getD true)))
    match x with
    | (f, first) => callWith p4 f first (backTo p4 (starEach [.Name part p3] env)) []) := by
  have h1 : methodCallForm ([Expr.Name part p3].length + ([] : List Keyword).length) (backTo p4 (starEach [.Name part p3] env)) (backToKw p4 (keywordEach [] env)) = true := rfl
  have h2 : methodCallPos true (.Call (.Name "super" p0) [] [] p1) env p2 p4 = pure p4 := by
    unfold methodCallPos
    rw [hp]
    rfl
  show (do
      let ov ← attributeBase (.Call (.Name "super" p0) [] [] p1) "__init__" env (eval (.Call (.Name "super" p0) [] [] p1) env)
      standAt p2.atName
      methodCall (.Call (.Name "super" p0) [] [] p1) "__init__" p2 p4 env ov ([Expr.Name part p3].length + ([] : List Keyword).length) (backTo p4 (starEach [.Name part p3] env)) (backToKw p4 (keywordEach [] env))) = _
  unfold methodCall
  rw [h1, h2]
  rfl
theorem init_ok (T : SupF P K mg C fI F doc pm ctv slf part fld) : FnOk P w K mg base (L2.CX P w) 1 fI (F.fd doc pm ctv) [slf, part] (spI C fld) := by
  refine ⟨fun vs H Q E ⟨a, v, e, _⟩ => by rw [e]; rfl, fun A outer s H args us vs Q E hr e0 hb hv sp => ?_⟩
  obtain ⟨a, v, rfl, ha, hq⟩ := sp
  obtain ⟨u, hvu, rfl⟩ : ∃ u, RelV v u ∧ us = [.ref a, u] := by
    cases hv with
    | cons r t =>
      cases t with
      | cons r2 t2 =>
        cases t2
        cases r
        exact ⟨_, r2, rfl⟩
  have kin : K.In s.heap := fun b o e => (e0.bs b o (e0.mod.kin b o e)).1
  obtain ⟨oc, od, sl, hfn⟩ := T.fn
  obtain ⟨cell, oc2, od2, sl2, hcl, hcell⟩ := T.cl
  obtain ⟨oc3, vs3, file, tf, hco, hcd, hcf, hcm⟩ := T.file
  obtain ⟨p0, p1, p2, p3, p4, p5, p6, p7, p8, p9, hpp, hbody⟩ := T.body
  obtain ⟨ar, har, har2⟩ := T.par
  have bsk : ∀ b o, base.get? b = some o → s.heap.get? b = some o := fun b o e => (e0.bs b o e).1
  have lim : s.heap.NoLimit := by
    obtain ⟨mc, n, e⟩ := e0.mod.nolimit
    exact ⟨mc, ns_keep bsk n, e⟩
  refine ks_codeAny_call_defAt (fd := F.fd doc pm ctv) (body := F.body) (by have := hr.dp; omega) (kin _ _ hfn) rfl lim (codeRec_of kin T.code) rfl hb T.scp.nocell (fun x m => ?_) (fun h₀ ns keep => ?_) T.scp.co T.scp.gen T.scp.kind
  · have : x.1 ∈ [slf, part] := by
      rcases List.mem_cons.mp m with rfl | m
      · exact List.mem_cons_self
      · rcases List.mem_cons.mp m with rfl | m
        · exact List.mem_cons_of_mem _ List.mem_cons_self
        · cases m
    exact T.scp.par _ this
  have hcn : ∀ b o, base.get? b = some o → H b = none := fun b o e => (e0.bs b o e).2
  have cellB : s.heap.IsCell cell (some (.ref C)) := ⟨_, kin _ _ hcell, rfl⟩
  have hcs : CellsAt F.cl ["__class__"] [some (V.ref C)] s.heap H := by
    rw [hcl]
    refine ⟨rfl, fun y c e => ?_, fun x y c e1 e2 => ?_, fun i y e => ?_⟩
    · rw [List.lookup_cons] at e
      split at e
      · cases e
        exact ⟨hcn _ _ (e0.mod.kin _ _ hcell), _, cellB⟩
      · cases e
    · rw [List.lookup_cons] at e1 e2
      split at e1
      · split at e2
        · rename_i z1 z2
          exact (beq_iff_eq.mp (by assumption)).trans (beq_iff_eq.mp (by assumption)).symm
        · cases e2
      · cases e1
    · cases i with
      | zero =>
        cases e
        refine ⟨cell, by rw [List.lookup_cons, beq_self_eq_true], fun v e => ?_⟩
        cases e
        exact ⟨_, rfl, cellB⟩
      | succ i => simp at e
  have I0 := inv_startN (CX := L2.CX P w) (mg := mg) (E := E) (F := F) (f := fI) (ws := [some (.ref C)]) (h₁ := h₀) (tk := s.toks + ([slf, part].zip [Value.ref a, u]).length) T.scp hr.hd e0 (vs := [.ref a, v]) rfl (us := [.ref a, u]) hv hcs ns keep
  let X := ncx (L2.CX P w) P w K mg base [slf, part, "__class__"] F fI A outer s H E
  have hX : X = ncx (L2.CX P w) P w K mg base [slf, part, "__class__"] F fI A outer s H E := rfl
  have kin0 : K.In h₀ := fun b o e => keep _ _ (kin b o e)
  obtain ⟨t1, hexo⟩ := exo_at e0.hok ha
  have hex0 := keep _ _ hexo
  obtain ⟨nmC, q, N, bs, bm, sn, sub, ab, col, dd, k0, k1, k2, k3, k5, hC, hrv⟩ := T.oex.cls
  have bsk0 : ∀ b o, base.get? b = some o → h₀.get? b = some o := fun b o e => keep _ _ (bsk b o e)
  obtain ⟨mb, nmb, emb⟩ := e0.mod.blt
  have nd := T.scp.nd
  have hsp : ¬ slf = part := fun z => by
    rw [z] at nd
    simp at nd
  rw [hbody]
  -- super().__init__(part)
  refine ks_wpAt_execs_cons (ks_wpAt_Expr_any (ks_wpAt_MethodCall ?_ (super_eval hpp)) (by
    show (F.scope.kind == ScopeKind.module && _) = false
    rw [T.scp.kind]
    rfl))
  have kfree : (callEnv (F.fd doc pm ctv) s.heap.objs.size fI).kindOf "__class__" = some NameKind.free := T.scp.frk _ List.mem_cons_self
  refine ks_wpAt_super_base (of := _) (oc := oc3) (fd := F.fd doc pm ctv) T.ssu kfree rfl rfl (kin0 _ _ hfn) rfl har rfl (kin0 _ _ hco) hcd hcf hcm T.nosup ?_
  have kk : (callEnv (F.fd doc pm ctv) s.heap.objs.size fI).scope.kind = ScopeKind.function := T.scp.kind
  refine ks_loadName_global kk T.ssu (Calls.loadGlobal_builtin (mg := mg) (mb := mb) (ns_keep bsk0 e0.mod.glob) T.mgs (ns_keep bsk0 nmb) (v := .type "super") (by rw [emb _ (by decide)]; rfl) ⟨rfl, ?_⟩)
  refine wpAny_loadName_free (c := cell) (v := .ref C) kk kfree (by
    show F.cl.lookup _ = _
    rw [hcl]
    rfl) ⟨_, kin0 _ _ hcell, rfl⟩ ?_
  have klo : (callEnv (F.fd doc pm ctv) s.heap.objs.size fI).kindOf slf = some NameKind.local := T.scp.par _ List.mem_cons_self
  rw [har2]
  refine wpAny_loadName_local (v := .ref a) kk klo ns (by
    show List.lookup slf [(part, u), (slf, Value.ref a)] = _
    rw [List.lookup_cons, beq_eq_false_iff_ne.mpr hsp, List.lookup_cons, beq_self_eq_true]) ?_
  refine ks_wpAny_isType_cls (kin0 _ _ hC) rfl ⟨rfl, ?_⟩
  refine ks_wpAny_call_super (kin0 _ _ hC) rfl hex0 rfl (fun c z => by cases z) (looks_subIn kin0 T.sub) (fun h1 so1 kp1 => ?_)
  have aL : a ≠ s.heap.objs.size := fun z => absurd (get_lt hexo) (by rw [z]; exact Nat.lt_irrefl _)
  have Lh : s.heap.objs.size < h₀.objs.size := by
    obtain ⟨o, e⟩ := ns_there ns
    exact get_lt e
  have bsk1 : ∀ b o, base.get? b = some o → h1.get? b = some o := fun b o e => kp1 _ _ (bsk0 b o e)
  have ba : base.get? a = none := by
    cases k : base.get? a with
    | none => rfl
    | some o =>
      rw [hcn _ _ k] at ha
      cases ha
  have bso : base.get? h₀.objs.size = none := by
    cases k : base.get? h₀.objs.size with
    | none => rfl
    | some o => exact absurd (get_lt (bsk0 _ _ k)) (Nat.lt_irrefl _)
  have aso : a ≠ h₀.objs.size := fun z => absurd (get_lt hex0) (by rw [z]; exact Nat.lt_irrefl _)
  have hex1 := kp1 _ _ hex0
  have fr1 : Fr base s.heap.objs.size h1 _ := ⟨ns_keep kp1 ns, bsk1, e0.bsz⟩
  have nw1 : News base s.heap.objs.size h1 ((h₀.objs.size, ks_superObj C a C) :: (a, excObj C t1 none .none) :: others base h1 [s.heap.objs.size, h₀.objs.size, a]) := by
    intro p m
    rcases List.mem_cons.mp m with rfl | m
    · exact ⟨so1, by show h₀.objs.size ≠ _; omega, bso⟩
    · rcases List.mem_cons.mp m with rfl | m
      · exact ⟨hex1, aL, ba⟩
      · have := others_mem.mp m
        exact ⟨this.1, fun z => this.2.2 (by rw [z]; exact List.mem_cons_self), this.2.1⟩
  show wpAny _ _ (getMethod (.ref h₀.objs.size) "__init__" _) _ _ _
  refine kxs_method (odx := none) kxs_ValueError fr1 e0.mod.kin nw1 List.mem_cons_self (W.InstAt.mk hex1 rfl rfl trivial) T.opq T.sup T.sve rfl (fun q h2 fr2 nw2 lq => ?_)
  have hex2 : h2.get? a = some (excObj C t1 none .none) := (nw2 _ (List.mem_cons_of_mem _ (List.mem_cons_of_mem _ List.mem_cons_self))).1
  have hq2 := nw2 _ List.mem_cons_self
  have k2 : ∀ b o, b ≠ s.heap.objs.size → b ≠ a → h₀.get? b = some o → h2.get? b = some o := fun b o z y e => by
    cases k : base.get? b with
    | some o' =>
      have := bsk0 _ _ k
      rw [e] at this
      cases this
      exact fr2.keep _ _ k
    | none =>
      have hs : b ≠ h₀.objs.size := fun x => absurd (get_lt e) (by rw [x]; exact Nat.lt_irrefl _)
      exact (nw2 (b, o) (List.mem_cons_of_mem _ (List.mem_cons_of_mem _ (List.mem_cons_of_mem _ (others_mem.mpr ⟨kp1 _ _ e, k, fun m => by simp only [List.mem_cons, List.not_mem_nil, or_false] at m; exact m.elim z fun m => m.elim hs y⟩))))).1
  have I2 := inv_keep (h' := h2) (g' := s.gens) (t' := s.toks + ([slf, part].zip [Value.ref a, u]).length + 1) (d' := s.drawn) I0 ha k2 ⟨t1, hex2⟩ (fun m n => by
    have : m = _ := ns_uniq n ns
    rw [this]
    exact fr2.ns) e0.bare
  have hqs : s.heap.objs.size < q := by
    have : h₀.objs.size < q := lq (h₀.objs.size, ks_superObj C a C) List.mem_cons_self
    exact Nat.lt_trans Lh this
  have hqg : s.heap.get? q = none := by
    cases k : s.heap.get? q with
    | none => rfl
    | some o => exact absurd (get_lt k) (Nat.not_lt_of_gt hqs)
  have hqn : H q = none := e0.hok.gone hqg
  have hqf : q ∉ frs outer := fun m => by
    obtain ⟨o, e⟩ := frs_there e0.funs q m
    rw [hqg] at e
    cases e
  have I3 : L2.Inv X [(q, kxs_mw "ValueError.__init__" a)] _ H _ := { I2 with
    pin := fun p m => by
      have m : p ∈ [(q, kxs_mw "ValueError.__init__" a)] := m
      rw [List.mem_singleton.mp m]
      exact ⟨hq2.1, hqn, hq2.2.1, hqf, fun v z => by cases z⟩ }
  show wpAny _ _ (callWith p4 (.ref q) [] _ []) _ _ _
  refine kxs_callWith1 nw2 List.mem_cons_self ?_
  have PAx : PA X [.Name part p3] _ := pa_cons (pv (X := X) (pos := p3) 1 rfl (.inl (T.scp.par _ (List.mem_cons_of_mem _ List.mem_cons_self))) T.nm2.1 T.nm2.2) pa_nil
  refine wpAny_mono (PAx.run p4 _ _ _ H (fun vs H' => vs = [v] ∧ H' = H) I3 ⟨v, rfl, rfl, rfl⟩) (fun us4 s4 ⟨vs4, H4, I4, r4, e4, e5⟩ => ?_) (fun _ _ e => e)
  subst e4 e5
  have hl4 : us4.length ≤ sizeLine := by
    cases r4 with
    | cons _ t =>
      cases t
      exact Nat.le_trans (by decide : 1 ≤ 1000) (by decide +kernel)
  have pq := I4.pin (q, kxs_mw "ValueError.__init__" a) (List.mem_append_right _ List.mem_cons_self)
  refine ⟨pq.1, ?_⟩
  obtain ⟨m4, ns4, _⟩ := I4.loc
  have bsk4 : ∀ b o, base.get? b = some o → s4.heap.get? b = some o := fun b o e => I4.base.keep b o (bsk b o e) (hcn b o e) (fun m => by
    rw [frs_base e0.funs b m] at e
    cases e) (fun m : b ∈ ([] : List Addr) => by cases m)
  obtain ⟨t4, hex4⟩ := exo_at I4.hok ha
  have qa : q ≠ a := fun z => by rw [z, ha] at hqn; cases hqn
  have qL : q ≠ s.heap.objs.size := hq2.2.1
  have bq : base.get? q = none := by
    cases k : base.get? q with
    | none => rfl
    | some o =>
      rw [bsk _ _ k] at hqg
      cases hqg
  have nw4 : News base s.heap.objs.size s4.heap ((q, kxs_mw "ValueError.__init__" a) :: (a, excObj C t4 none .none) :: others base s4.heap [s.heap.objs.size, q, a]) := by
    intro p m
    rcases List.mem_cons.mp m with rfl | m
    · exact ⟨pq.1, qL, bq⟩
    · rcases List.mem_cons.mp m with rfl | m
      · exact ⟨hex4, aL, ba⟩
      · have := others_mem.mp m
        exact ⟨this.1, fun z => this.2.2 (by rw [z]; exact List.mem_cons_self), this.2.1⟩
  refine kxs_call (m := m4) ⟨ns4, bsk4, e0.bsz⟩ e0.mod.kin nw4 PySem.F.excBase_ValueError T.exi List.mem_cons_self (UpdF.tail qa (UpdF.head fun p m => ?_)) hl4 (fun t5 h5 fr5 nw5 lt5 => ?_)
  · have := others_mem.mp m
    exact fun z => this.2.2 (by rw [z]; simp)
  have hex5 := (nw5 _ (List.mem_cons_of_mem _ (List.mem_cons_of_mem _ List.mem_cons_self))).1
  have k5 : ∀ b o, b ≠ s.heap.objs.size → b ≠ a → s4.heap.get? b = some o → h5.get? b = some o := fun b o z y e => by
    cases k : base.get? b with
    | some o' =>
      have := bsk4 _ _ k
      rw [e] at this
      cases this
      exact fr5.keep _ _ k
    | none =>
      by_cases hs : b = q
      · subst hs
        rw [pq.1] at e
        cases e
        exact (nw5 _ (List.mem_cons_of_mem _ List.mem_cons_self)).1
      · exact (nw5 (b, o) (List.mem_cons_of_mem _ (List.mem_cons_of_mem _ (List.mem_cons_of_mem _ (others_mem.mpr ⟨e, k, fun m => by simp only [List.mem_cons, List.not_mem_nil, or_false] at m; exact m.elim z fun m => m.elim hs y⟩))))).1
  have I5 := inv_keep (h' := h5) (g' := s4.gens) (t' := s4.toks) (d' := s4.drawn) I4 ha k5 ⟨t5, hex5⟩ (fun m n => by
    have : m = _ := ns_uniq n ns4
    rw [this]
    exact fr5.ns) I4.bare
  -- self.part = part
  have PS2 : PSs X [.Assign [.Attribute (.Name slf p6) fld p7] (.Name part p8) p9] _ := pss_one (ps_ost (pv (X := X) (pos := p6) 0 rfl (.inl (T.scp.par _ List.mem_cons_self)) T.nm1.1 T.nm1.2) (pv (X := X) (pos := p8) 1 rfl (.inl (T.scp.par _ (List.mem_cons_of_mem _ List.mem_cons_self))) T.nm2.1 T.nm2.2))
  have R2 := PS2.run _ _ _ H4 { nx := fun _ H' => Q .non H', rt := Q } I5 ⟨v, rfl, .ref a, rfl, a, C, rfl, T.oex, T.fdf, .inl ⟨ha, hq⟩⟩
  refine fun Γ p hc hA => (wpAny_mono R2 (fun f s' e => ?_) (fun _ _ e => e)) Γ p hA
  clear R2 PS2 I5 I4 I3 I2 k5 nw5 fr5 k2 nw2 fr2 nw4
  cases f with
  | next =>
    obtain ⟨σ', H', I, q⟩ := e
    exact ⟨.non, H', I.os, I.bare, I.base, I.hok, rfl, q⟩
  | ret u' =>
    obtain ⟨v', σ', H', I, r, q⟩ := e
    exact ⟨v', H', I.os, I.bare, I.base, I.hok, r, q⟩
  | brk => exact e.elim fun _ e => e.elim fun _ e => e.2.elim
  | cont => exact e.elim fun _ e => e.elim fun _ e => e.2.elim
end
end Z9

set_option Elab.async false
set_option linter.all false
set_option maxRecDepth 100000
set_option maxHeartbeats 4000000
/-! X1: errors held as values: made, their kind asked, their field read. -/
namespace Z9
open PySem PySem.Spec PyProof.Rows L2 PySem.W

/-- an error's object, as it is held -/
def exw (a : Addr) (cls : Value) (d : Option Addr) : HO := .ext fun h => ∃ oe vs, h.get? a = some oe ∧ Zc cls d oe ∧ oe.data = .fields vs
theorem exw_at {P : Program} {w : World} {H : Hp} {h : Heap} {a : Addr} {cls : Value} {d : Option Addr} (ok : HOk P w H h) (e : H a = some (exw a cls d)) : ∃ oe vs, h.get? a = some oe ∧ Zc cls d oe ∧ oe.data = .fields vs := (ok a _ e).1
theorem exw_ok {P : Program} {w : World} {H : Hp} {h : Heap} {a : Addr} {cls : Value} {d : Option Addr} {oe : Obj} {vs : Array Value} (e : h.get? a = some oe) (z : Zc cls d oe) (f : oe.data = .fields vs) : ObjOk P w H h a (exw a cls d) :=
  ⟨⟨oe, vs, e, z, f⟩, ⟨oe, e⟩, fun h1 h2 ⟨oe, vs, e, z, f⟩ k => ⟨oe, vs, k _ e, z, f⟩⟩
theorem exw_own {a x : Addr} {cls : Value} {d : Option Addr} : exw a cls d ≠ HO.own x := fun z => by cases z
theorem exw_tup {a : Addr} {cls : Value} {d : Option Addr} {xs : List V} : exw a cls d ≠ HO.tup xs := fun z => by cases z
/-- a new object is tracked -/
theorem inv_more {X : Cx} {pins : List (Addr × Obj)} {σ : L2.St} {H : Hp} {s s' : Shared} {a : Addr} {x : HO} (I : L2.Inv X pins σ H s) (k : ∀ b o, s.heap.get? b = some o → s'.heap.get? b = some o) (na : s.heap.get? a = none) (ha : H a = none)
    (ok : ObjOk X.prog X.w (upd H a x) s'.heap a x) (os : s'.os = s.os) (bare : AllBare s'.gens) : L2.Inv X pins σ (upd H a x) s' := by
  obtain ⟨h', g', d', t', os'⟩ := s'
  simp only at os
  subst os
  have ne : ∀ b o, s.heap.get? b = some o → b ≠ a := fun b o e z => by rw [z, na] at e; cases e
  refine I.step (ch := []) (fun b m => by cases m) (fun b o _ _ _ h2 _ => k b o h2) (fun b o _ _ _ h2 _ => ⟨o.slots, k b o h2⟩) (fun b o _ e1 e2 => by rw [upd_ne (ne b o e1)]; exact e2) (fun b o _ e => ⟨o, k b o e⟩)
    (fun b xs e => ?_) (fun b o u e => ?_) (fun b ps e => ⟨#[], ?_⟩) (fun m n => ns_keep k n) (fun b y e => ?_) bare
  · rw [upd_ne (fun z => by rw [z, ha] at e; cases e)]; exact e
  · rw [upd_ne (fun z => by rw [z, ha] at e; cases e)]; exact e
  · rw [upd_ne (fun z => by rw [z, ha] at e; cases e)]; simpa using e
  · by_cases z : b = a
    · subst z
      rw [upd_same] at e
      cases e
      exact ok
    · rw [upd_ne z] at e
      exact ObjOk.stay (I.hok b y e) (fun b' u _ e' => k _ _ e') (fun b' e' => by rw [upd_ne (fun z => by rw [z, ha] at e'; cases e')]; exact e') (fun b' xs e' => by rw [upd_ne (fun z => by rw [z, ha] at e'; cases e')]; exact e')
/-- an error that is made and held -/
theorem pe_of_pmk {X : Cx} {e : Expr} {t : L2.St → Hp → XK → Prop} (h : PMk X e t) : PE X e fun σ H Q => t σ H fun cls d H' => ∀ a, H' a = none → Q (.ref a) (upd H' a (exw a cls d)) := by
  refine ⟨fun pins s σ H Q I q => wpAny_mono (h pins s σ H _ I q) (fun u s' e => ?_) (fun _ _ e => e)⟩
  obtain ⟨a, oe, vs, sI, H', cls, d, rfl, I', k, n, g, z, f, _, ha, os, bare, _, q'⟩ := e
  exact ⟨.ref a, _, inv_more I' k n ha (exw_ok g z f) os bare, rfl, q' a ha⟩

theorem pmk_own0 {X : Cx} {C : Addr} {bmB : List Value} {B newId initId : String} {x : Str} {p pos : Pos} (F : ExcBaseFacts B newId initId bmB) (q : PySem.W.excIn X.K C bmB newId = true) (gC : X.mg x = some (.ref C))
    (kC : PySem.W.keepIn X.K (.ref C) = true) (r : Raises X (.ref C)) (hg : Gl X x) (hdb : (x == ("__debug__" : Str)) = false) : PMk X (.Call (.Name x p) [] [] pos) (fun _ H Q => Q (.ref C) none H) := by
  intro pins s σ H Q I h
  refine wpAny_Call_Name_kw (ld_glob I hg gC ?_ hdb)
  refine PySem.W.callWith_K0 I.kIn kC ?_
  show wpAny _ _ (call (.ref C) []) _ _ _
  obtain ⟨bm, N, nm, qn, bs, hdct, sn, sub, ab, col, dd, k0, k1, k2, k3, k5, mN, hC, hN, hni, T⟩ := exc_obj I.kIn q
  refine wpAny_call_exc_subT F T hC hN hni (fun h' e hm => ?_) (by show 0 ≤ sizeLine; exact Nat.zero_le _)
  exact mk_of I hm r h (I.hok.gone hm.new)

/-- an error's own dict is there -/
def dictAt (H : Hp) : Option Addr → List (Str × V) → Prop
  | none, fs => fs = []
  | some d, fs => H d = some (.xd fs)
theorem inst_at {X : Cx} {pins : List (Addr × Obj)} {σ : L2.St} {H : Hp} {s : Shared} {a C : Addr} {d : Option Addr} {fs : List (Str × V)} (I : L2.Inv X pins σ H s) (ha : H a = some (exw a (.ref C) d)) (hd : dictAt H d fs) :
    ∃ oe od, W.InstAt s.heap a oe C od ∧ (∀ dd, d = some dd → ∃ o, od = some o ∧ s.heap.get? dd = some o) := by
  obtain ⟨oe, vs, e, ⟨z1, z2⟩, f⟩ := exw_at I.hok ha
  have hn : notCls oe = true := by unfold notCls; rw [f]
  cases d with
  | none => exact ⟨oe, none, ⟨e, z1, hn, by rw [z2]; trivial⟩, fun _ z => by cases z⟩
  | some dd =>
    obtain ⟨mA, n, _⟩ := I.hok dd _ hd
    obtain ⟨o, eo⟩ : ∃ o, s.heap.get? dd = some o := by
      obtain ⟨o, _, _, eo, _⟩ := n
      exact ⟨o, eo⟩
    exact ⟨oe, some o, ⟨e, z1, hn, by rw [z2]; exact eo⟩, fun _ z => by cases z; exact ⟨o, rfl, eo⟩⟩
structure EcK (K : PySem.W.Frag) (C : Addr) : Prop where
  cl : (clsIn K C).isSome = true
  ec : ExcC K C
/-- isinstance of an error that is held -/
def rIsw (K : PySem.W.Frag) : List V → Hp → VK → Prop := fun xs H Q => ∃ (a C : Addr) (d : Option Addr) (fs : List (Str × V)) (c : V) (cv : Value) (b : Bool), xs = [.ref a, c] ∧ H a = some (exw a (.ref C) d) ∧ dictAt H d fs ∧ EcK K C ∧ ClsV c cv ∧ kitOne K (.ref C) cv = some b ∧ Q (.bl b) H
theorem call_isw {X : Cx} : CallR X (.builtin "isinstance") (rIsw X.K) := by
  intro pins s σ H vs us Q I rs hh
  obtain ⟨a, C, d, fs, c, cv, b, rfl, ha, hd, ec, hc, hk, q⟩ := hh
  obtain ⟨oe, od, ia, _⟩ := inst_at I ha hd
  have K1 := kitx_exc (od := od) (x := a) (ox := oe) ec.cl ec.ec.hg ec.ec.hk ec.ec.hs ec.ec.ha ec.ec.hn ec.ec.ht ec.ec.hm
  obtain ⟨u, rfl, hu⟩ : ∃ u, us = [.ref a, u] ∧ RelV c u := by
    cases rs with
    | cons r t =>
      cases t with
      | cons r2 t2 =>
        cases t2
        cases r
        exact ⟨_, rfl, r2⟩
  have : u = cv := hc.eq hu
  subst this
  refine kia_one K1 I.kIn ia hk (fun z => by cases z) (fun tk => ?_)
  exact ⟨.bl b, H, { I with }, rfl, q⟩
/-- the field of an error that is held -/
def tXw (K : PySem.W.Frag) (n : Str) (te : TE) : TE := fun σ H Q => te σ H fun x H1 => ∃ (a C d : Addr) (fs : List (Str × V)) (v : V), x = .ref a ∧ H1 a = some (exw a (.ref C) (some d)) ∧ H1 d = some (.xd fs) ∧ XfC K C ∧ findIn K (.ref C) n = some none ∧ fs.lookup n = some v ∧ Q v H1
theorem pe_xw {X : Cx} {e : Expr} {te : TE} {n : Str} {pos : Pos} (he : PE X e te) (hb : attributeBase e n X.env (eval e X.env) = eval e X.env) : PE X (.Attribute e n pos) (tXw X.K n te) := by
  refine ⟨fun pins s σ H Q I q => attr_of hb (wpAny_mono (he.run pins s σ H _ I q) (fun u s' e => ?_) (fun _ _ e => e))⟩
  obtain ⟨v0, H', I', r, a, C, d, fs, v, rfl, ha, hd, xf, fi, fl, q'⟩ := e
  cases r
  obtain ⟨oe, od, ia, hod⟩ := inst_at I' ha (d := some d) hd
  obtain ⟨o, rfl, eo⟩ := hod d rfl
  obtain ⟨mA, n1, hrel⟩ := I'.hok d _ hd
  obtain ⟨o', eo', hl⟩ := lookIn_ns n1
  rw [eo] at eo'
  cases eo'
  have hr := hrel n
  rw [fl] at hr
  obtain ⟨w, hw, rw'⟩ : ∃ w, mA n = some w ∧ RelV v w := by
    cases k : mA n with
    | none => rw [k] at hr; exact hr.elim
    | some w => rw [k] at hr; exact ⟨w, rfl, hr⟩
  have fo := findObj_own xf.hdC fi rfl (od := o) (v := w) (by rw [hl, hw])
  refine HandSPX.exc_get I'.kIn ia xf.ga xf.gg xf.exC fo (handed_of rw') ?_
  exact ⟨v, H', { I' with }, rw', q'⟩
end Z9

set_option Elab.async false
set_option linter.all false
set_option maxRecDepth 100000
set_option maxHeartbeats 4000000
/-! X2: instances made, methods called, where what is raised is wished for at the caller's slots. -/
namespace Z9
open PySem PySem.Spec PyProof.Rows L2 PySem.W

/-- behind a call -/
theorem inv_un {X : Cx} {pins : List (Addr × Obj)} {σ : L2.St} {H H2 : Hp} {s s' : Shared} (I : L2.Inv X pins σ H s) (u : Un (frs X.stack) [] H H2 s.heap s'.heap) (ok : HOk X.prog X.w H2 s'.heap) (bare : AllBare s'.gens) (os : s'.os = s.os) : L2.Inv X pins σ H2 s' := by
  obtain ⟨h', g', d', t', os'⟩ := s'
  simp only at os
  subst os
  have st : ∀ b, b ∈ frs X.stack → b ∈ X.fs ∨ b = X.env.locals := fun b m => by
    rcases I.ok.stk with e | ⟨e, ef⟩
    · rw [e] at m
      exact .inl m
    · rw [e] at m
      unfold frs at m
      rw [List.filterMap_cons, ef] at m
      rcases List.mem_cons.mp m with m | m
      · exact .inr m
      · exact .inl m
  have fs : ∀ b, b ∈ X.fs → b ∈ frs X.stack := fun b m => by
    rcases I.ok.stk with e | ⟨e, ef⟩
    · rw [e]
      exact m
    · rw [e]
      unfold frs
      rw [List.filterMap_cons, ef]
      exact List.mem_cons_of_mem _ m
  have nn : ∀ b : Addr, ¬ b ∈ ([] : List Addr) := fun b m => by cases m
  refine I.step (ch := []) (fun b m => by cases m) (fun b o h1 h2 _ e hb => u.keep b o e hb (fun m => (st b m).elim h2 h1) (nn b)) (fun b o h1 h2 _ e hb => u.slot b o e hb (fs b h2) (nn b)) (fun b o _ e hb => u.free b o e hb (nn b)) (fun b o _ e => u.there b o e (nn b)) u.tups u.frzs u.tbls (fun m n => ?_) ok bare
  obtain ⟨o, es, ep, e, r⟩ := n
  by_cases hm : X.env.locals ∈ frs X.stack
  · obtain ⟨sl, e2⟩ := u.slot _ o e I.free hm (nn _)
    exact ⟨_, es, ep, e2, r⟩
  · exact ⟨o, es, ep, u.keep _ o e I.free hm (nn _), r⟩
theorem push_old {h : Heap} {o o' : Obj} {b : Addr} (e : h.get? b = some o') : (h.push o).get? b = some o' := by
  have := get_lt e
  unfold Heap.get? Heap.push at *
  simp only [Array.getElem?_push]
  rw [if_neg (fun z : b = h.objs.size => absurd this (by rw [z]; exact Nat.lt_irrefl _))]
  exact e
theorem push_new {h : Heap} {o : Obj} (n : ∀ z, o.data ≠ z → True) (nf : o.data ≠ .freed) : (h.push o).get? h.objs.size = some o := by
  unfold Heap.get? Heap.push
  simp only [Array.getElem?_push, if_true]
  split
  · rename_i c d sl e
    cases e
    exact absurd rfl nf
  · rfl
theorem get_none {h : Heap} {b : Addr} (l : h.objs.size ≤ b) : h.get? b = none := by
  cases e : h.get? b with
  | none => rfl
  | some o => exact absurd (get_lt e) (Nat.not_lt_of_le l)
theorem room_under {k : Nat} {A : Around} {C : Addr} {us : List Value} (h : Room (k + 1) A) : Room k (A.under (Code.builtin "type.__call__" { pos := Value.ref C :: us })) := by
  refine ⟨h.hd, ?_, ?_⟩
  · have := h.dp
    rw [make_depth]
    omega
  · have := h.un
    have m := make_units (A := A) (C := C) (us := us) (kw := [])
    omega
theorem run_makeS {X : Cx} {k : Nat} {f C : Addr} {fd : FuncData} {ps : List Str} {sp : Sp} {E : L2.St → XK} {pins : List (Addr × Obj)} {σ : L2.St} {H : Hp} {s : Shared} {Q : VK} {us : List Value} {vs : List V}
    (M : Mk X.K C f) (F : FnOk X.prog X.w X.K X.mg X.base (L2.CX X.prog X.w) k f fd ps sp) (hr : Room (k + 1) X.A) (hb : L2.Binds X.K fd ps []) (hx : PassesAt (L2.CX X.prog X.w) X σ (E σ)) (I : L2.Inv X pins σ H s) (rv : Vals vs us)
    (q : ∀ (x dx : Addr), H x = none → H dx = none → dx ≠ x → sp (V.ref x :: vs) (upd (upd H dx (HO.own x)) x (HO.ins C dx [])) (fun v H2 => v = V.non ∧ Q (V.ref x) H2) (E σ)) :
    wpAny (model X.prog X.w) X.A (call (Value.ref C) us) (EP X pins σ Q) X.xe s := by
  have ty : typeIn X.K (.ref f) = some (.type "function") := eq_of_beq M.fn
  refine wpAny_call (make_map I.kIn M.makes M.init ty ?_)
  generalize hdx : s.heap.objs.size = dx
  have gdx : s.heap.get? dx = none := get_none (by omega)
  have gx : s.heap.get? (dx + 1) = none := get_none (by omega)
  have ndx := I.hok.gone gdx
  have nx := I.hok.gone gx
  have dne : dx ≠ dx + 1 := Nat.ne_of_lt (Nat.lt_succ_self _)
  have q1 := q (dx + 1) dx nx ndx dne
  have e1 : (s.heap.push emptyDict).get? dx = some emptyDict := by rw [← hdx]; exact push_new (fun _ _ => trivial) (fun z => by cases z)
  have I1 := inv_more (a := dx) (x := .own (dx + 1)) (s' := { s with heap := s.heap.push emptyDict }) I (fun b o e => push_old e) gdx ndx ⟨_, e1⟩ rfl I.bare
  have sz : (s.heap.push emptyDict).objs.size = dx + 1 := by rw [← hdx]; unfold Heap.push; exact Array.size_push _
  have e2 : ((s.heap.push emptyDict).push (instObj C dx)).get? (dx + 1) = some (instObj C dx) := by rw [← sz]; exact push_new (fun _ _ => trivial) (fun z => by cases z)
  have I2 := inv_more (a := dx + 1) (x := .ins C dx []) (s' := { s with heap := (s.heap.push emptyDict).push (instObj C dx) }) I1 (fun b o e => push_old e) (get_none (by show (s.heap.push emptyDict).objs.size ≤ dx + 1; rw [sz]; exact Nat.le_refl _)) (by rw [upd_ne (Ne.symm dne)]; exact nx)
    ⟨by rw [upd_ne dne, upd_same], by simp, dne, e2, fun _ => none, ⟨emptyDict, _, _, push_old e1, rfl, (fun e m => by simp at m), List.Pairwise.nil, fun _ => rfl⟩, fun _ => trivial, fun y z => absurd rfl z⟩ rfl I.bare
  have env := I2.env0
  have hlen : (Value.ref (dx + 1) :: us).length = ps.length := by
    have := F.len _ _ _ _ q1
    rw [← this]
    show us.length + 1 = vs.length + 1
    rw [rv.length]
  have env' : Env0 X.prog X.w X.K X.mg X.base (X.A.under (Code.builtin "type.__call__" { pos := Value.ref C :: us })) X.stack _ _ := { env with frames := env.frames }
  have rm : Room k (X.A.under (Code.builtin "type.__call__" { pos := Value.ref C :: us })) := room_under hr
  have bt := hb { s with heap := (s.heap.push emptyDict).push (instObj C dx) } (.ref (dx + 1) :: us) I2.kIn (by rw [List.append_nil]; exact hlen)
  rw [List.append_nil] at bt
  have R := F.run _ _ _ _ _ _ _ _ _ rm env' bt (.cons (show RelV (.ref (dx + 1)) (.ref (dx + 1)) from rfl) rv) q1
  refine codeAny_mono R (fun r s' c => ?_)
  cases r with
  | error e =>
    exact hx pins _ _ e s' I2 c
  | ok fl =>
    cases fl with
    | ret u =>
      obtain ⟨v, H2, os, bare, un, ok, rel, rfl, q2⟩ := c
      have : u = .none := rel
      subst this
      exact ⟨rfl, .ref (dx + 1), H2, inv_un I2 un ok bare os, rfl, q2⟩
    | next => exact c.elim
    | brk => exact c.elim
    | cont => exact c.elim
/-- an instance made -/
def tMakeS (C : Addr) (sp : Sp) (E : L2.St → XK) (t : TA) : TE := fun σ H Q => t σ H fun vs H1 => ∀ x dx, H1 x = none → H1 dx = none → dx ≠ x → sp (V.ref x :: vs) (upd (upd H1 dx (HO.own x)) x (HO.ins C dx [])) (fun v H2 => v = V.non ∧ Q (V.ref x) H2) (E σ)
theorem pe_makeS {X : Cx} {k : Nat} {f C : Addr} {fd : FuncData} {ps : List Str} {sp : Sp} {E : L2.St → XK} {x : Str} {p pos : Pos} {e : Expr} {es : List Expr} {t : TA}
    (M : Mk X.K C f) (F : FnOk X.prog X.w X.K X.mg X.base (L2.CX X.prog X.w) k f fd ps sp) (hr : Room (k + 1) X.A) (hg : Gl X x) (hm : X.mg x = some (.ref C)) (hb : L2.Binds X.K fd ps []) (hx : ∀ σ, PassesAt (L2.CX X.prog X.w) X σ (E σ)) (ha : PA X (e :: es) t)
    (hdb : (x == ("__debug__" : Str)) = false) (hst : starEach (e :: es) X.env = (false, eval e X.env) :: starEach es X.env) (hpl : ((backTo pos (starEach es X.env)).any fun x => x.1) = false) : PE X (.Call (.Name x p) (e :: es) [] pos) (tMakeS C sp E t) := by
  refine ⟨fun pins s σ H Q I q => ?_⟩
  refine wpAny_Call_Name_kw (ld_glob I hg hm ?_ hdb)
  refine callWith_K I.kIn M.kp ?_ hst hpl
  refine wpAny_mono (ha.run pos pins s σ H _ I q) (fun us s1 c => ?_) (fun _ _ e => e)
  obtain ⟨vs, H1, I1, rv, q1⟩ := c
  exact ⟨I1.kIn, run_makeS M F hr hb (hx σ) I1 rv q1⟩
theorem meth_eval {env : PySem.Env} {o : Expr} {m : Str} {apos pos : Pos} {args : List Expr} (hb : attributeBase o m env (eval o env) = eval o env) (hp : (apos.endLine == pos.line) = true) (hf : methodCallForm (args.length + ([] : List Keyword).length) (backTo pos (starEach args env)) (backToKw pos (keywordEach [] env)) = true) :
    eval ((o.Attribute m apos).Call args [] pos) env = (do
      let ov ← eval o env
      standAt apos.atName
      let x ← holding [ov] (getMethod ov m (do
        let d ← importBound o env
        pure (d.getD true)))
      match x with
      | (f, first) => callWith pos f first (backTo pos (starEach args env)) (backToKw pos (keywordEach [] env))) := by
  have h2 : methodCallPos true o env apos pos = pure pos := by
    unfold methodCallPos
    rw [hp]
    rfl
  show (do
      let ov ← attributeBase o m env (eval o env)
      standAt apos.atName
      methodCall o m apos pos env ov (args.length + ([] : List Keyword).length) (backTo pos (starEach args env)) (backToKw pos (keywordEach [] env))) = _
  rw [hb]
  unfold methodCall
  rw [hf, h2]
  rfl
theorem pe_makeS0 {X : Cx} {k : Nat} {f C : Addr} {fd : FuncData} {ps : List Str} {sp : Sp} {E : L2.St → XK} {x : Str} {p pos : Pos}
    (M : Mk X.K C f) (F : FnOk X.prog X.w X.K X.mg X.base (L2.CX X.prog X.w) k f fd ps sp) (hr : Room (k + 1) X.A) (hg : Gl X x) (hm : X.mg x = some (.ref C)) (hb : L2.Binds X.K fd ps []) (hx : ∀ σ, PassesAt (L2.CX X.prog X.w) X σ (E σ))
    (hdb : (x == ("__debug__" : Str)) = false) : PE X (.Call (.Name x p) [] [] pos) (tMakeS C sp E fun _ H Q => Q [] H) := by
  refine ⟨fun pins s σ H Q I q => ?_⟩
  refine wpAny_Call_Name_kw (ld_glob I hg hm ?_ hdb)
  exact callWith_K0 I.kIn M.kp (run_makeS M F hr hb (hx σ) I .nil q)
theorem get_xw {X : Cx} {pins : List (Addr × Obj)} {σ : L2.St} {H1 : Hp} {s' : Shared} {a C d : Addr} {fs : List (Str × V)} {v : V} {n : Str} {Q : VK} (I' : L2.Inv X pins σ H1 s') (ha : H1 a = some (exw a (.ref C) (some d))) (hd : H1 d = some (.xd fs)) (xf : XfC X.K C) (fi : findIn X.K (.ref C) n = some none) (fl : fs.lookup n = some v) (q : Q v H1) :
    wpAny (model X.prog X.w) X.A (getAttr (.ref a) n true) (EP X pins σ Q) X.xe s' := by
  obtain ⟨oe, od, ia, hod⟩ := inst_at I' ha (d := some d) hd
  obtain ⟨o, rfl, eo⟩ := hod d rfl
  obtain ⟨mA, n1, hrel⟩ := I'.hok d _ hd
  obtain ⟨o', eo', hl⟩ := lookIn_ns n1
  rw [eo] at eo'
  cases eo'
  have hr := hrel n
  rw [fl] at hr
  obtain ⟨w, hw, rw'⟩ : ∃ w, mA n = some w ∧ RelV v w := by
    cases k : mA n with
    | none => rw [k] at hr; exact hr.elim
    | some w => rw [k] at hr; exact ⟨w, rfl, hr⟩
  have fo := findObj_own xf.hdC fi rfl (od := o) (v := w) (by rw [hl, hw])
  refine HandSPX.exc_get I'.kIn ia xf.ga xf.gg xf.exC fo (handed_of rw') ?_
  exact ⟨v, H1, { I' with }, rw', q⟩
theorem get_ins {X : Cx} {pins : List (Addr × Obj)} {σ : L2.St} {H1 : Hp} {s' : Shared} {a C dx : Addr} {fs : List (Str × V)} {v : V} {n : Str} {Q : VK} (I' : L2.Inv X pins σ H1 s') (ha : H1 a = some (.ins C dx fs)) (cl : Cls X.K C) (na : NoAttr X.K C n) (fl : fs.lookup n = some v) (q : Q v H1) :
    wpAny (model X.prog X.w) X.A (getAttr (.ref a) n true) (EP X pins σ Q) X.xe s' :=
  getattr_ok I' ha cl na fl fun u' s2 I2 ru => ⟨v, H1, I2, ru, q⟩
/-- the field of an instance or of an error -/
def tXwi (K : PySem.W.Frag) (n : Str) (te : TE) : TE := fun σ H Q => te σ H fun x H1 => (∃ (a C d : Addr) (fs : List (Str × V)) (v : V), x = .ref a ∧ H1 a = some (exw a (.ref C) (some d)) ∧ H1 d = some (.xd fs) ∧ XfC K C ∧ findIn K (.ref C) n = some none ∧ fs.lookup n = some v ∧ Q v H1) ∨
  (∃ (a C dx : Addr) (fs : List (Str × V)) (v : V), x = .ref a ∧ H1 a = some (.ins C dx fs) ∧ Cls K C ∧ NoAttr K C n ∧ fs.lookup n = some v ∧ Q v H1)
theorem pe_xwi {X : Cx} {e : Expr} {te : TE} {n : Str} {pos : Pos} (he : PE X e te) (hb : attributeBase e n X.env (eval e X.env) = eval e X.env) : PE X (.Attribute e n pos) (tXwi X.K n te) := by
  refine ⟨fun pins s σ H Q I q => attr_of hb (wpAny_mono (he.run pins s σ H _ I q) (fun u s' e => ?_) (fun _ _ e => e))⟩
  obtain ⟨v0, H', I', r, h⟩ := e
  rcases h with ⟨a, C, d, fs, v, rfl, ha, hd, xf, fi, fl, q'⟩ | ⟨a, C, dx, fs, v, rfl, ha, cl, na, fl, q'⟩
  · cases r
    exact get_xw I' ha hd xf fi fl q'
  · cases r
    exact get_ins I' ha cl na fl q'
/-- a method called; its class is what the receiver has -/
def tMethD (X : Cx) (k : Nat) (m : Str) (E : L2.St → XK) (ta : TE) (t : TA) : TE := fun σ H Q => ta σ H fun x H1 => ∃ (a C dx : Addr) (fs : List (Str × V)) (f : Addr) (fd : FuncData) (ps : List Str) (sp : Sp), x = .ref a ∧ H1 a = some (.ins C dx fs) ∧ Cls X.K C ∧ Meth X.K C m f ∧
  FnOk X.prog X.w X.K X.mg X.base (L2.CX X.prog X.w) k f fd ps sp ∧ L2.Binds X.K fd ps [] ∧ fs.lookup m = none ∧ t σ H1 fun vs H2 => sp (x :: vs) H2 Q (E σ)
theorem pe_methD {X : Cx} {k : Nat} {E : L2.St → XK} {m : Str} {pos apos : Pos} {e o : Expr} {es : List Expr} {ta : TE} {t : TA}
    (he : PE X o ta) (hr : Room k X.A) (hx : ∀ σ, PassesAt (L2.CX X.prog X.w) X σ (E σ)) (ha : PA X (e :: es) t)
    (hst : starEach (e :: es) X.env = (false, eval e X.env) :: starEach es X.env) (hpl : ((backTo pos (starEach es X.env)).any fun x => x.1) = false)
    (hab : attributeBase o m X.env (eval o X.env) = eval o X.env) (hp : (apos.endLine == pos.line) = true) (hf : methodCallForm ((e :: es).length + ([] : List Keyword).length) (backTo pos (starEach (e :: es) X.env)) (backToKw pos (keywordEach [] X.env)) = true) : PE X ((o.Attribute m apos).Call (e :: es) [] pos) (tMethD X k m E ta t) := by
  refine ⟨fun pins s σ H Q I q => ?_⟩
  let te : TE := fun σ H Q' => ∀ pins s, L2.Inv X pins σ H s → wpAny (model X.prog X.w) X.A (eval o X.env) (EP X pins σ Q') X.xe s
  have hte : PE X o te := ⟨fun pins s σ H Q I q => q pins s I⟩
  refine methcall_of hte I (fun pins s I => wpAny_mono (he.run pins s σ H _ I q) (fun u s1 e1 => ?_) (fun _ _ e => e)) (meth_eval hab hp hf)
  obtain ⟨v, H1, I1, r1, a, C, dx, fs, f, fd, ps, sp, rfl, ea, c, hm, F, hb, nl, q1⟩ := e1
  refine ⟨.ref a, H1, I1, r1, a, C, dx, fs, f, rfl, ea, c, hm, nl, fun s2 I2 => ?_⟩
  refine callWith_K (first := [.ref a]) I2.kIn hm.kp (wpAny_mono (ha.run pos _ s2 σ H1 _ I2 q1) (fun us s3 e3 => ?_) (fun _ _ e => e)) hst hpl
  obtain ⟨vs, H3, I3, rv, q3⟩ := e3
  exact ⟨I3.kIn, run_fnS F hr hb (hx σ) I3 (.cons (show RelV (.ref a) (.ref a) from rfl) rv) q3⟩
theorem pe_methD0 {X : Cx} {k : Nat} {E : L2.St → XK} {m : Str} {pos apos : Pos} {o : Expr} {ta : TE}
    (he : PE X o ta) (hr : Room k X.A) (hx : ∀ σ, PassesAt (L2.CX X.prog X.w) X σ (E σ))
    (hab : attributeBase o m X.env (eval o X.env) = eval o X.env) (hp : (apos.endLine == pos.line) = true) (hf : methodCallForm (([] : List Expr).length + ([] : List Keyword).length) (backTo pos (starEach [] X.env)) (backToKw pos (keywordEach [] X.env)) = true) : PE X ((o.Attribute m apos).Call [] [] pos) (tMethD X k m E ta fun _ H Q => Q [] H) := by
  refine ⟨fun pins s σ H Q I q => ?_⟩
  let te : TE := fun σ H Q' => ∀ pins s, L2.Inv X pins σ H s → wpAny (model X.prog X.w) X.A (eval o X.env) (EP X pins σ Q') X.xe s
  have hte : PE X o te := ⟨fun pins s σ H Q I q => q pins s I⟩
  refine methcall_of hte I (fun pins s I => wpAny_mono (he.run pins s σ H _ I q) (fun u s1 e1 => ?_) (fun _ _ e => e)) (meth_eval hab hp hf)
  obtain ⟨v, H1, I1, r1, a, C, dx, fs, f, fd, ps, sp, rfl, ea, c, hm, F, hb, nl, q1⟩ := e1
  refine ⟨.ref a, H1, I1, r1, a, C, dx, fs, f, rfl, ea, c, hm, nl, fun s2 I2 => ?_⟩
  exact callWith_K0 (first := [.ref a]) I2.kIn hm.kp (run_fnS F hr hb (hx σ) I2 (.cons (show RelV (.ref a) (.ref a) from rfl) .nil) q1)
end Z9

set_option Elab.async false
set_option linter.all false
set_option maxRecDepth 100000
set_option maxHeartbeats 4000000
/-! X3: max of a tuple, sorted(set(..)), a tuple many times, a tuple against one of one item. -/
namespace Z9
open PySem PySem.Spec PyProof.Rows L2 PySem.W

theorem foldl_max : ∀ (xs : List Int) (x : Int), (xs.foldl (fun a y => if DatumOrd.lt a y = true then y else a) x ∈ x :: xs) ∧ ∀ y ∈ x :: xs, y ≤ xs.foldl (fun a y => if DatumOrd.lt a y = true then y else a) x
  | [], x => ⟨by simp, by simp⟩
  | y :: xs, x => by
    rw [List.foldl_cons]
    have e : (DatumOrd.lt x y = true) = (x < y) := by
      show (decide (x < y) = true) = _
      exact propext ⟨of_decide_eq_true, decide_eq_true⟩
    obtain ⟨h1, h2⟩ := foldl_max xs (if DatumOrd.lt x y = true then y else x)
    refine ⟨?_, fun z hz => ?_⟩
    · rcases List.mem_cons.mp h1 with h | h
      · rw [h]
        split
        · exact List.mem_cons_of_mem _ List.mem_cons_self
        · exact List.mem_cons_self
      · exact List.mem_cons_of_mem _ (List.mem_cons_of_mem _ h)
    · have h3 := h2 _ List.mem_cons_self
      rcases List.mem_cons.mp hz with rfl | hz
      · refine Int.le_trans ?_ h3
        split
        · rename_i hh
          rw [e] at hh
          omega
        · exact Int.le_refl _
      · rcases List.mem_cons.mp hz with rfl | hz
        · refine Int.le_trans ?_ h3
          split
          · exact Int.le_refl _
          · rename_i hh
            rw [e] at hh
            omega
        · exact h2 _ (List.mem_cons_of_mem _ hz)
/-- max(xs), ints, a list or a tuple -/
def rMx (K : PySem.W.Frag) : List V → Hp → VK → Prop := fun vs H Q => ∃ (a : Addr) (ns : List Int), vs = [V.ref a] ∧ (SqL K H a (ns.map V.int) ∨ SqT K H a (ns.map V.int)) ∧ 0 < ns.length ∧ ∀ m, m ∈ ns → (∀ y, y ∈ ns → y ≤ m) → Q (.int m) H
theorem cr_mx {X : Cx} (hc : X.calm = true) (hu : X.A.units + 65 < cLine) : CallR X (.builtin "max") (rMx X.K) := by
  intro pins s σ H vs us Q I r h
  obtain ⟨a, ns, rfl, hs, hne, q⟩ := h
  rcases hs with hs | hs
  · exact cr_max hc pins s σ H _ us Q I r ⟨a, ns, rfl, hs, hne, q⟩
  · obtain ⟨its, rv, hl, _⟩ := I.tuple hs
    rw [Vals.ref1 r]
    cases ns with
    | nil => simp at hne
    | cons n ns =>
      refine max_tuple_datum (α := Int) (x := n) (xs := ns) (I.ok.hd hc) hl (HoldAll.of_ints (by simpa using ints_of_vals rv)) (by show _ + 1 + 0 < _; omega) fun i v h' tk hi hv hk => ?_
      obtain ⟨t, rfl⟩ := int_of_holds hv
      obtain ⟨h1, h2⟩ := foldl_max ns n
      exact ⟨.int _, H, I.kept hk, ⟨_, rfl⟩, q _ h1 h2⟩
/-- set(xs), ints, a tuple -/
def rSetT (K : PySem.W.Frag) (w : World) : List V → Hp → VK → Prop := fun vs H Q => ∃ (a : Addr) (ns : List Int), vs = [V.ref a] ∧ SqT K H a (ns.map V.int) ∧ ns.length ≤ 1000 ∧ ∀ p c, H p = none → c ≤ ns.length → Q (.ref p) (upd H p (SetO w p (fun j => decide (j ∈ ns)) c))
theorem cr_setT {X : Cx} (hc : X.calm = true) : CallR X (.type "set") (rSetT X.K X.w) := by
  intro pins s σ H vs us Q I r h
  obtain ⟨a, ns, rfl, hs, hl, q⟩ := h
  obtain ⟨its, rv, pt, hz⟩ := I.tuple hs
  rw [Vals.ref1 r]
  have hi : IntsAre its.toArray.toList ns := by simpa using ints_of_vals rv
  refine call_set_tupI ns (I.ok.hd hc) pt hi (by unfold scanBound; omega) fun h' tk c R hcn k => ?_
  exact ⟨.ref _, _, I.laid (t' := tk) k (Nat.le_refl _) (setO_new R), rfl, q _ _ (I.hok.fresh (Nat.le_refl _)) hcn⟩
/-- a tuple, many times -/
def rRepB (K : PySem.W.Frag) : V → V → Hp → VK → Prop := fun x y H Q => ∃ l k xs, x = .ref l ∧ y = .int k ∧ SqT K H l xs ∧ xs ≠ [] ∧ 2 ≤ k ∧ k ≤ 100000 ∧ xs.length ≤ 100 ∧ ∀ p, H p = none → Q (.ref p) (upd H p (.tup (List.replicate k.toNat xs).flatten))
theorem op_repB {X : Cx} : OpR X (binaryOp .Mult) (rRepB X.K) := by
  intro pins s σ H x y v u Q I rx ry h
  obtain ⟨l, k, xs, rfl, rfl, hT, hne, h1, h2, hz, q⟩ := h
  cases rx
  obtain ⟨t, rfl⟩ := ry
  obtain ⟨its, r, ⟨⟨cls, dd, data, sl⟩, ho, hc, n, hd⟩, hs⟩ := I.tuple hT
  simp only at hc hd
  subst hc hd
  have hle : its.length = xs.length := r.length.symm
  have hn : its ≠ [] := fun e => hne (by
    rw [e] at hle
    exact List.eq_nil_of_length_eq_zero hle.symm)
  have hi : its.toArray.isEmpty = false := by
    cases its with
    | nil => exact absurd rfl hn
    | cons a b => rfl
  have hsz0 : its.toArray.size = xs.length := by rw [List.size_toArray, hle]
  have hm : ((its.toArray.size : Nat) : Int) * k ≤ 10000000 := by
    rw [hsz0]
    have a1 : ((xs.length : Nat) : Int) * k ≤ 100 * k := Int.mul_le_mul_of_nonneg_right (by omega) (by omega)
    omega
  have a1 : k.toNat * xs.length ≤ 100000 * 100 := Nat.mul_le_mul (by omega) hz
  have flen : (List.replicate k.toNat its).flatten.length ≤ sizeLine := by
    rw [PyProof.Rows.lm_len_rep_flat, hle, sizeLine_eq]
    omega
  have c0 : (decide (k < -(2 ^ 63)) || decide (k ≥ 2 ^ 63)) = false := by
    rw [decide_eq_false (by omega), decide_eq_false (by omega)] <;> rfl
  have c1 : (its.toArray.isEmpty || k == 1) = false := by
    rw [hi, Bool.false_or]
    exact beq_eq_false_iff_ne.mpr (by omega)
  have c2 : (decide (k ≤ 0) || its.toArray.isEmpty) = false := by
    rw [hi, Bool.or_false]
    exact decide_eq_false (by omega)
  have c4 : Builtin.Tuple.tupleTooMany (((its.toArray.size : Nat) : Int) * k) = false := by
    unfold Builtin.Tuple.tupleTooMany
    rw [sizeLine_eq]
    exact decide_eq_false (by omega)
  refine wpAny_binaryOp_repeat_ref (T := "tuple") (U := "int") (by decide) ⟨_, ho, rfl⟩ (fun s' => typeIs_int s' k t) noFill_tuple_mul F.fills_int_mul F.slot_int_rmul repeat_tuple F.slot_int_index.lookup
    (call_meets F.slot_int_rmul (typeIs_int s k t) F.entry_int_rmul (F.args_int_rmul_2 _ _) (int_rmul_tuple k t l its.toArray n dd sl)
      ⟨ho, rfl, ⟨_, ho, rfl⟩, call_meets F.slot_tuple_mul ⟨_, ho, rfl⟩ F.entry_tuple_mul (F.args_tuple_mul_2 _ _) (tuple_mulW l its.toArray n dd sl k t c0 c1 c2 (by omega) c4 (by rw [size_rep, List.size_toArray]; exact flen)) ⟨ho, ?_⟩⟩)
  rw [size_rep]
  refine ⟨.ref s.heap.objs.size, _, I.laid (t' := s.toks) (o := .tup (List.replicate k.toNat xs).flatten) (fun b ob q => Heap.get?_push_of_some _ q) (Nat.le_refl _) ?_, rfl, q _ (I.hok.fresh (Nat.le_refl _))⟩
  exact ⟨by rw [PyProof.Rows.lm_len_rep_flat, sizeLine_eq]; omega, _, r.rep k.toNat, IsTup.new _ _⟩
/-- a tuple against one of one item -/
def rEq1 (K : PySem.W.Frag) : V → V → Hp → VK → Prop := fun x y H Q => ∃ (a b : Addr) (v : V) (vs : List V) (w : V) (d e : PyData), x = .ref a ∧ y = .ref b ∧ SqT K H a (v :: vs) ∧ SqT K H b [w] ∧ Dp K H v d ∧ Dp K H w e ∧ SeqAt.shaped d = true ∧ SeqAt.shaped e = true ∧ Q (.bl (PyData.eqv d e && vs.isEmpty)) H
theorem op_eq1 {X : Cx} (hu : X.A.units + 65 < cLine) : OpR X (compareOp .Eq) (rEq1 X.K) := by
  intro pins s σ H x y v u Q I rx ry h
  obtain ⟨a, b, v0, vs, w, d, e, rfl, rfl, h1, h2, hd, he, sd, se, q⟩ := h
  cases rx
  cases ry
  obtain ⟨its, r1, t1, _⟩ := I.tuple h1
  obtain ⟨its2, r2, t2, _⟩ := I.tuple h2
  cases r1 with
  | @cons _ u1 _ us1 r1 rs1 =>
    cases r2 with
    | @cons _ u2 _ us2 r2 rs2 =>
      cases rs2
      obtain ⟨as, q1⟩ := Dp.reads I d _ _ hd r1
      obtain ⟨bs, q2⟩ := Dp.reads I e _ _ he r2
      refine SeqAt.eq_tupleAt (e := fun _ => PyData.eqv d e) t1 t2 (by omega) (fun j h1 h2 => ?_) ?_
      · have : j = 0 := by simpa using h2
        subst this
        exact SeqAt.eqAt_reads d e _ s _ _ as bs q1 q2 (SeqAt.canLay_of_shaped sd) (SeqAt.canLay_of_shaped se) (by
          have := SeqAt.depth_of_shaped sd
          have hin : X.A.in1.units = X.A.units + 1 ∨ X.A.in1.units = X.A.units := by first | exact .inl rfl | exact .inr rfl | simp
          have h3 := Nat.min_le_left d.depth e.depth
          omega)
      · have e1 : ((List.range (min (u1 :: us1).toArray.size [u2].toArray.size)).all (fun _ => PyData.eqv d e) && (u1 :: us1).toArray.size == [u2].toArray.size) = (PyData.eqv d e && vs.isEmpty) := by
          have hl := rs1.length
          have m : min (u1 :: us1).toArray.size [u2].toArray.size = 1 := by simp
          rw [m]
          have : ((u1 :: us1).toArray.size == [u2].toArray.size) = vs.isEmpty := by
            cases vs with
            | nil =>
              cases us1 with
              | nil => rfl
              | cons _ _ => simp at hl
            | cons _ _ =>
              cases us1 with
              | nil => simp at hl
              | cons _ _ => simp
          rw [this]
          simp [List.range_succ]
        exact ⟨.bl _, H, I, (congrArg Value.bool e1).symm ▸ rfl, q⟩
end Z9

set_option Elab.async false
set_option linter.all false
/-! E0: the values, the language of forms, and what a form gives. Plain Lean. -/
namespace Z9
open PySem

/-- a value as data; ref: a place of the changing heap -/
inductive D where
  | non | bl (b : Bool) | int (i : Int) | str (s : List Nat)
  | tup (xs : List D) | lst (xs : List D)
  | ins (c : Str) (ns : List Str) (ds : List D) | exc (c : Str) (ns : List Str) (ds : List D)
  | ref (i : Nat)
  | scr (ns : List Int)
  | dic (ks : List (List Nat)) (vs : List D)
  deriving Inhabited

/-- the changing lists and instances -/
abbrev Hh := List D

inductive Res (α : Type) where
  | ok (a : α) | exc (c : Nat) (xs : List D) (h : Hh) | no
def Res.bind {α β : Type} (r : Res α) (f : α → Res β) : Res β := match r with
  | .ok a => f a
  | .exc c xs h => .exc c xs h
  | .no => .no
@[simp] theorem Res.bind_ok {α β : Type} (a : α) (f : α → Res β) : (Res.ok a).bind f = f a := rfl
@[simp] theorem Res.bind_exc {α β : Type} (c xs h) (f : α → Res β) : (Res.exc c xs h : Res α).bind f = .exc c xs h := rfl
@[simp] theorem Res.bind_no {α β : Type} (f : α → Res β) : (Res.no : Res α).bind f = .no := rfl

/-- built-in kinds for isinstance -/
inductive Ty where
  | int | bool | str | list | tuple | dict
  deriving DecidableEq
/-- built-in functions -/
inductive BF where
  | len | abs | int | sum | all | any | list | tuple | max
  deriving DecidableEq
/-- methods of built-in values -/
inductive BM where
  | join | pop | append
  deriving DecidableEq

mutual
inductive Ex where
  | var (i : Nat) | con (d : D) | glob (k : Nat) | dic0 | dicc (s : List Nat) (i : Int)
  | fld (a : Ex) (n : Str) | isc (a : Ex) (k : Nat) | mkx (k : Nat) (es : Exs)
  | new (k : Nat) (es : Exs) | meth (a : Ex) (m : Str) (es : Exs)
  | tup (es : Exs) | lst (es : Exs) | newl (es : Exs)
  | bin (o : Operator) (a b : Ex) | neg (a : Ex)
  | cmp (o : CmpOp) (a b : Ex) | cmp2 (o p : CmpOp) (a b c : Ex)
  | isn (a : Ex) | notn (a : Ex)
  | and (es : Exs) | or (es : Exs) | not (a : Ex)
  | ife (c a b : Ex)
  | ix (a i : Ex) | sl (a : Ex) (lo hi : Ox)
  | isi (a : Ex) (t : Ty)
  | bcall (f : BF) (es : Exs) | bmeth (m : BM) (a : Ex) (es : Exs)
  | call (k : Nat) (es : Exs)
  | lof (e : Ex) | lor (new : Bool) (e : Ex) | sset (e : Ex) | inr (neg : Bool) (a b : Ex)
  | lcv (new : Bool) (elt : Ex) (t : Tg) (e : Ex) (ifs : Exs) (own : List Nat)
  | lc (new : Bool) (elt : Ex) (t : Tg) (it : It) (ifs : Exs) (own : List Nat)
inductive Exs where
  | nil | cons (e : Ex) (es : Exs)
inductive Ox where
  | none | some (e : Ex)
inductive It where
  | seq (e : Ex) | range (e : Ex) | range2 (a b : Ex) | enum (e : Ex) | zip (a b : Ex)
inductive Tg where
  | var (i : Nat) | tup (ts : Tgs)
inductive Tgs where
  | nil | cons (t : Tg) (ts : Tgs)
end

/-- what an except suite says of its error -/
inductive Xe where
  | con (d : D) | fld (n : Str) | tup2 (a b : Xe)
inductive Xs where
  | set (i : Nat) (e : Xe) | ret (e : Xe) | ifis (ks : List Nat) (s : Xs)
mutual
inductive Sm where
  | set (i : Nat) (e : Ex) | asg (t : Tg) (e : Ex) | par (i j : Nat) (es : Exs) | seti (o i e : Ex) | setf (o : Ex) (n : Str) (e : Ex)
  | aug (i : Nat) (o : Operator) (e : Ex)
  | expr (e : Ex) | ret (e : Ex) | retn
  | iff (c : Ex) (a b : Sms)
  | forr (t : Tg) (it : It) (b : Sms) | whil (c : Ex) (b : Sms)
  | brk | cont | pass
  | rais (k : Nat) (es : Exs) | rai1 (k : Nat) (e : Ex)
  | tryy (b : Sms) (hs : Hds) | tryx (b : Sms) (k v : Nat) (xs : List Xs)
inductive Sms where
  | nil | cons (s : Sm) (ss : Sms)
inductive Hds where
  | nil | cons (k : Nat) (b : Sms) (hs : Hds)
end

/-! ### operations on data -/
def okN (n : Nat) : Bool := decide (n ≤ 16777216)
/-- int operations and the sizes that the model is asked for -/
def cMul (i j : Int) : Bool := (decide (-(2 ^ 64) < i) && decide (i < 2 ^ 64)) || (decide (-(2 ^ 64) < j) && decide (j < 2 ^ 64))
def ofB {α : Type} (b : Bool) (a : α) : Res α := if b then .ok a else .no
@[simp] theorem ofB_true {α : Type} (a : α) : ofB true a = .ok a := rfl
@[simp] theorem ofB_false {α : Type} (a : α) : ofB false a = .no := rfl
def ixN (n : Nat) (i : Int) : Option Nat := if 0 ≤ i then (if i < n then some i.toNat else none) else if -(n : Int) ≤ i then some (i + n).toNat else none
def binD (o : Operator) (x y : D) : Res D := match o, x, y with
  | .Add, .int i, .int j => .ok (.int (i + j))
  | .Sub, .int i, .int j => .ok (.int (i - j))
  | .Mult, .int i, .int j => ofB (cMul i j) (.int (i * j))
  | .Mod, .int i, .int j => ofB (decide (0 < j)) (.int (i % j))
  | .FloorDiv, .int i, .int j => ofB (decide (0 < j) && decide (j < 1073741824)) (.int (i / j))
  | .Pow, .int i, .int j => ofB (decide (0 ≤ j) && decide (j ≤ 1000000) && decide (i.natAbs < 2 ^ 64)) (.int (i ^ j.toNat))
  | .LShift, .int i, .int j => ofB (decide (0 ≤ j) && decide (j ≤ 1000000) && decide (i.natAbs < 2 ^ 64)) (.int (i * 2 ^ j.toNat))
  | .Add, .str x, .str y => ofB (okN (x.length + y.length)) (.str (x ++ y))
  | .Mult, .str x, .int j => ofB (decide (0 ≤ j) && decide (j < 1099511627776) && okN (x.length * j.toNat)) (.str (List.replicate j.toNat x).flatten)
  | .Mult, .tup x, .int j => ofB (!x.isEmpty && decide (2 ≤ j) && decide (j ≤ 100000) && decide (x.length ≤ 100)) (.tup (List.replicate j.toNat x).flatten)
  | .Add, .lst x, .lst y => ofB (okN (x.length + y.length)) (.lst (x ++ y))
  | .Add, .tup x, .tup y => ofB (okN (x.length + y.length)) (.tup (x ++ y))
  | _, _, _ => .no

/-- += -/
def augD (x y : D) : Res D := match x, y with
  | .int i, .int j => .ok (.int (i + j))
  | .str x, .str y => ofB (okN (x.length + y.length)) (.str (x ++ y))
  | _, _ => .no
mutual
/-- == of data (True is 1) -/
def eqD : D → D → Bool
  | .non, .non => true
  | .bl a, .bl b => a == b
  | .bl a, .int b => decide ((if a then 1 else 0) = b)
  | .int a, .bl b => decide (a = if b then 1 else 0)
  | .int a, .int b => decide (a = b)
  | .str a, .str b => decide (a = b)
  | .tup a, .tup b => eqDs a b
  | .lst a, .lst b => eqDs a b
  | _, _ => false
def eqDs : List D → List D → Bool
  | [], [] => true
  | a :: as, b :: bs => eqD a b && eqDs as bs
  | _, _ => false
end
mutual
/-- nesting, for data that == is asked of: none for a thing that it is not -/
def depD : D → Option Nat
  | .non | .bl _ | .int _ | .str _ => some 0
  | .tup xs | .lst xs => (depDs xs).map (· + 1)
  | _ => none
def depDs : List D → Option Nat
  | [] => some 0
  | x :: xs => match depD x, depDs xs with
    | some a, some b => some (max a b)
    | _, _ => none
end
/-- == may be asked -/
def canEq (d : D) : Bool := match depD d with
  | some n => decide (n ≤ 60)
  | none => false
def atomD : D → Bool
  | .non | .bl _ | .int _ | .str _ => true
  | _ => false
def ints? : List D → Option (List Int)
  | [] => some []
  | .int i :: r => (ints? r).map (i :: ·)
  | _ => none
def hasD (x : D) (ys : List D) : Bool := ys.any fun y => eqD y x
/-- a tuple, whatever it holds further on, against one of one item -/
def eqT (x y : D) : Res D := match x, y with
  | .tup (a :: as), .tup [b] => ofB (canEq a && canEq b) (.bl (eqD a b && as.isEmpty))
  | _, _ => .no
def cmpD (o : CmpOp) (x y : D) : Res D := match o, x, y with
  | .Lt, .int i, .int j => .ok (.bl (decide (i < j)))
  | .LtE, .int i, .int j => .ok (.bl (decide (i ≤ j)))
  | .Gt, .int i, .int j => .ok (.bl (decide (j < i)))
  | .GtE, .int i, .int j => .ok (.bl (decide (j ≤ i)))
  | .Eq, .dic ks vs, .dic ls ws => match ints? vs, ints? ws with
    | some is, some js => ofB (decide (ks = ls) && decide (is = js) && decide ks.Nodup) (.bl true)
    | _, _ => .no
  | .Eq, x, y => if canEq x && canEq y then .ok (.bl (eqD x y)) else eqT x y
  | .NotEq, x, y => ofB (canEq x && canEq y) (.bl (!eqD x y))
  | .In, .str x, .str y => match x with
    | [c] => .ok (.bl (decide (c ∈ y)))
    | _ => .no
  | .NotIn, .str x, .str y => match x with
    | [c] => .ok (.bl (!decide (c ∈ y)))
    | _ => .no
  | .In, x, .lst ys => ofB (canEq x && canEq (.lst ys)) (.bl (hasD x ys))
  | .NotIn, x, .lst ys => ofB (canEq x && canEq (.lst ys)) (.bl (!hasD x ys))
  | .In, x, .tup ys => ofB (canEq x && canEq (.tup ys)) (.bl (hasD x ys))
  | .NotIn, x, .tup ys => ofB (canEq x && canEq (.tup ys)) (.bl (!hasD x ys))
  | .Is, .bl a, .bl b => .ok (.bl (decide (a = b)))
  | .IsNot, .bl a, .bl b => .ok (.bl (!decide (a = b)))
  | _, _, _ => .no
/-- the item at i, counted from the end if below 0 -/
def atD {α : Type} (xs : List α) (i : Int) : Option α := (ixN xs.length i).bind fun j => xs[j]?
def ofO {α : Type} (o : Option α) : Res α := match o with
  | some a => .ok a
  | none => .no
@[simp] theorem ofO_some {α : Type} (a : α) : ofO (some a) = .ok a := rfl
@[simp] theorem ofO_none {α : Type} : ofO (none : Option α) = .no := rfl
/-- what stands at a place, for a list that is read -/
def lookD (h : Hh) (x : D) : D := match x with
  | .ref i => match h[i]? with
    | some d => d
    | none => .ref i
  | x => x
def ixD (h : Hh) (x y : D) : Res D := match lookD h x, y with
  | .lst xs, .int i => ofO (atD xs i)
  | .tup xs, .int i => ofO (atD xs i)
  | .str s, .int i => ofO ((atD s i).map fun c => .str [c])
  | _, _ => .no
def clampD (n d : Nat) : Option Int → Nat
  | none => d
  | some v => if v < 0 then (v + (n : Int)).toNat else min v.toNat n
def cutD {α : Type} (xs : List α) (lo hi : Option Int) : List α := (xs.drop (clampD xs.length 0 lo)).take (clampD xs.length xs.length hi - clampD xs.length 0 lo)
def slD (h : Hh) (x : D) (lo hi : Option Int) : Res D := match lookD h x with
  | .lst xs => .ok (.lst (cutD xs lo hi))
  | .tup xs => .ok (.tup (cutD xs lo hi))
  | .str s => .ok (.str (cutD s lo hi))
  | .scr s => .ok (.lst ((cutD s lo hi).map D.int))
  | _ => .no
/-- the kind of a value -/
inductive Tk where
  | non | bl | int | str | tup | lst | dic
  deriving DecidableEq
def tkD : D → Option Tk
  | .non => some .non | .bl _ => some .bl | .int _ => some .int | .str _ => some .str | .tup _ => some .tup | .lst _ => some .lst | .dic _ _ => some .dic
  | _ => none
def subT : Tk → Ty → Bool
  | .bl, .bool | .bl, .int | .int, .int | .str, .str | .tup, .tuple | .lst, .list | .dic, .dict => true
  | _, _ => false
def isiD (h : Hh) (x : D) (t : Ty) : Res D := (ofO (tkD (lookD h x))).bind fun k => .ok (.bl (subT k t))
def bools? : List D → Option (List Bool)
  | [] => some []
  | .bl i :: r => (bools? r).map (i :: ·)
  | _ => none
def strs? : List D → Option (List (List Nat))
  | [] => some []
  | .str i :: r => (strs? r).map (i :: ·)
  | _ => none
def bLen (xs : List D) (h : Hh) : Res D := match xs with
  | [x] => match lookD h x with
    | .lst xs => .ok (.int xs.length)
    | .tup xs => .ok (.int xs.length)
    | .str s => .ok (.int s.length)
    | _ => .no
  | _ => .no
def bAbs (xs : List D) : Res D := match xs with
  | [.int i] => .ok (.int i.natAbs)
  | _ => .no
def bInt (xs : List D) : Res D := match xs with
  | [.int i] => .ok (.int i)
  | _ => .no
def bSum (xs : List D) : Res D := match xs with
  | [.lst xs] => (ofO (ints? xs)).bind fun is => .ok (.int is.sum)
  | _ => .no
def bAll (xs : List D) : Res D := match xs with
  | [.lst xs] => (ofO (bools? xs)).bind fun bs => .ok (.bl (bs.all id))
  | _ => .no
def bAny (xs : List D) : Res D := match xs with
  | [.lst xs] => (ofO (bools? xs)).bind fun bs => .ok (.bl (bs.any id))
  | _ => .no
def bList (xs : List D) (h : Hh) : Res D := match xs with
  | [x] => match lookD h x with
    | .lst xs => .ok (.lst xs)
    | .tup xs => .ok (.lst xs)
    | _ => .no
  | _ => .no
def bTup (xs : List D) (h : Hh) : Res D := match xs with
  | [x] => match lookD h x with
    | .lst xs => .ok (.tup xs)
    | .tup xs => .ok (.tup xs)
    | _ => .no
  | _ => .no
def maxI : List Int → Int
  | [] => 0
  | [x] => x
  | x :: y :: r => if x ≤ maxI (y :: r) then maxI (y :: r) else x
/-- max of some ints -/
def maxO : Option (List Int) → Res D
  | some (i :: is) => .ok (.int (maxI (i :: is)))
  | _ => .no
def bMax (xs : List D) (h : Hh) : Res D := match xs with
  | [x] => match lookD h x with
    | .lst xs => maxO (ints? xs)
    | .tup xs => maxO (ints? xs)
    | _ => .no
  | _ => .no
/-- into an ascending list -/
def insU (i : Int) : List Int → List Int
  | [] => [i]
  | j :: r => if i < j then i :: j :: r else if i = j then j :: r else j :: insU i r
def sortU : List Int → List Int
  | [] => []
  | i :: r => insU i (sortU r)
/-- sorted(set(x)), ints -/
def ssetD (x : D) : Res D := match x with
  | .tup xs => (ofO (ints? xs)).bind fun is => ofB (decide (is.length ≤ 60)) (.lst ((sortU is).map D.int))
  | _ => .no
def bcallD (f : BF) (xs : List D) (h : Hh) : Res D := match f with
  | .len => bLen xs h
  | .abs => bAbs xs
  | .int => bInt xs
  | .sum => bSum xs
  | .all => bAll xs
  | .any => bAny xs
  | .list => bList xs h
  | .tuple => bTup xs h
  | .max => bMax xs h
def joinS (sep : List Nat) : List (List Nat) → List Nat
  | [] => []
  | [x] => x
  | x :: y :: r => x ++ (sep ++ joinS sep (y :: r))
def mJoin (x : D) (xs : List D) (h : Hh) : Res (D × Hh) := match x, xs with
  | .str sep, [.lst ys] => (ofO (strs? ys)).bind fun ss => ofB (okN ((ss.map List.length).sum + ss.length * sep.length)) (.str (joinS sep ss), h)
  | _, _ => .no
def mAppend (x : D) (xs : List D) (h : Hh) : Res (D × Hh) := match x, xs with
  | .ref i, [y] => match h[i]? with
    | some (.lst ys) => ofB (okN (ys.length + 1)) (.non, h.set i (.lst (ys ++ [y])))
    | _ => .no
  | _, _ => .no
def mPop (x : D) (xs : List D) (h : Hh) : Res (D × Hh) := match x, xs with
  | .ref i, [.int j] => match h[i]? with
    | some (.lst ys) => if 0 ≤ j then match ys[j.toNat]? with
        | some y => .ok (y, h.set i (.lst (ys.eraseIdx j.toNat)))
        | none => .no
      else .no
    | _ => .no
  | .ref i, [] => match h[i]? with
    | some (.lst ys) => match ys.getLast? with
        | some y => .ok (y, h.set i (.lst ys.dropLast))
        | none => .no
    | _ => .no
  | _, _ => .no
/-- the receiver's kind -/
def isLD : Option D → Bool
  | some (.lst _) => true
  | _ => false
def recvD (h : Hh) : BM → D → Bool
  | .join, .str _ => true
  | .append, .ref i => isLD h[i]?
  | .pop, .ref i => isLD h[i]?
  | _, _ => false
def bmethD (m : BM) (x : D) (xs : List D) (h : Hh) : Res (D × Hh) := match m with
  | .join => mJoin x xs h
  | .append => mAppend x xs h
  | .pop => mPop x xs h
def setiD (o i v : D) (h : Hh) : Res Hh := match o, i with
  | .ref r, .int j => match h[r]? with
    | some (.lst ys) => if 0 ≤ j ∧ j < ys.length then .ok (h.set r (.lst (ys.set j.toNat v))) else .no
    | _ => .no
  | _, _ => .no

/-! ### what a form gives -/
abbrev Env := List (Option D)
/-- the named things: what a def gives, what a constant is, whether the error class c is one of k -/
structure Gam where
  fn : Nat → Option (Nat × (List D → Hh → Res (D × Hh)))
  con : Nat → Option D
  sub : Nat → Nat → Option Bool
  exk : Nat → Bool
  cls : Nat → Bool
  /-- a class of errors that is made: its name, and the field that its __init__ keeps -/
  mkc : Nat → Option (Str × Option Str)
  /-- whether a thing of the class of this name is of class k -/
  esub : Str → Nat → Option Bool
  /-- a class whose instances are made: arguments, name, __init__ -/
  ini : Nat → Option (Nat × Str × (List D → Hh → Res (D × Hh)))
  /-- a method of the class of this name: arguments, what it gives (the instance ahead) -/
  mth : Str → Str → Option (Nat × (List D → Hh → Res (D × Hh)))
  /-- a field of instances -/
  ifl : Str → Str → Bool
  /-- a field that may be read -/
  efl : Str → Str → Bool
/-- the classes of the clauses are known -/
def hsOk (G : Gam) : Hds → Bool
  | .nil => true
  | .cons k _ hs => G.cls k && hsOk G hs

def getV (r : Env) (i : Nat) : Res D := match r[i]? with
  | some (some d) => .ok d
  | _ => .no
def wipeE (r : Env) : List Nat → Env
  | [] => r
  | v :: vs => (wipeE r vs).set v none
def boolD (d : D) : Res Bool := match d with
  | .bl b => .ok b
  | _ => .no
@[simp] theorem boolD_bl (b : Bool) : boolD (.bl b) = .ok b := rfl

mutual
def setT : Tg → D → Env → Res Env
  | .var i, d, r => .ok (r.set i (some d))
  | .tup ts, d, r => match d with
    | .tup xs => setTs ts xs r
    | .lst xs => setTs ts xs r
    | _ => .no
def setTs : Tgs → List D → Env → Res Env
  | .nil, [], r => .ok r
  | .cons t ts, x :: xs, r => (setT t x r).bind fun r' => setTs ts xs r'
  | _, _, _ => .no
end

/-- a field -/
def fldD (G : Gam) (h : Hh) (x : D) (n : Str) : Res D := match x with
  | .exc c ns ds => if G.efl c n then ofO ((ns.zip ds).lookup n) else .no
  | x => match lookD h x with
    | .ins c ns ds => if G.ifl c n then ofO ((ns.zip ds).lookup n) else .no
    | _ => .no
/-- a field is kept -/
def putN (n : Str) (d : D) : List Str → List D → List Str × List D
  | m :: ns, x :: ds => if m = n then (m :: ns, d :: ds) else ((m :: (putN n d ns ds).1), (x :: (putN n d ns ds).2))
  | _, _ => ([n], [d])
def setfD (G : Gam) (h : Hh) (x : D) (n : Str) (v : D) : Res Hh := match x with
  | .ref i => match h[i]? with
    | some (.ins c ns ds) => if G.ifl c n && decide (ns.length < 900) then .ok (h.set i (.ins c (putN n v ns ds).1 (putN n v ns ds).2)) else .no
    | _ => .no
  | _ => .no
/-- the method of an instance -/
def methD (G : Gam) (h : Hh) (x : D) (m : Str) : Option (Nat × (List D → Hh → Res (D × Hh))) := match lookD h x with
  | .ins c ns _ => if ns.contains m then none else G.mth c m
  | _ => none
/-- what a making gives -/
def madeD (i : Nat) (p : D × Hh) : Res (D × Hh) := match p.1 with
  | .non => .ok (.ref i, p.2)
  | _ => .no
/-- isinstance against a class of errors -/
def iscD (G : Gam) (x : D) (k : Nat) : Res D := match x with
  | .exc c _ _ => (ofO (G.esub c k)).bind fun b => .ok (.bl b)
  | _ => .no
/-- an error that is made -/
def mkxD (m : Str × Option Str) (xs : List D) : Res D := match m, xs with
  | (c, none), [] => .ok (.exc c [] [])
  | (c, some f), [x] => .ok (.exc c [f] [x])
  | _, _ => .no
def mkSh : Option Str → Exs → Bool
  | none, .nil => true
  | some _, .cons _ .nil => true
  | _, _ => false
/-- the turns of a comprehension -/
def lcD (f : D → Hh → Res (Option D × Hh)) : List D → List D → Hh → Res (List D × Hh)
  | [], acc, h => .ok (acc, h)
  | x :: xs, acc, h => match f x h with
    | .ok (some y, h') => if acc.length < 16777216 then lcD f xs (acc ++ [y]) h' else .no
    | .ok (none, h') => lcD f xs acc h'
    | _ => .no

/-- the item of a changing list of n items -/
def itV (h : Hh) (i n k : Nat) : Option D := match h[i]? with
  | some (.lst ys) => if ys.length = n then ys[k]? else none
  | _ => none
def lenV (h : Hh) (i n : Nat) : Bool := match h[i]? with
  | some (.lst ys) => decide (ys.length = n)
  | _ => false
/-- the turns of a comprehension over the changing list i of n items -/
def lcV (f : D → Hh → Res (Option D × Hh)) (i n : Nat) : Nat → List D → Hh → Res (List D × Hh)
  | 0, acc, h => if lenV h i n then .ok (acc, h) else .no
  | m + 1, acc, h => match itV h i n (n - (m + 1)) with
    | some x => match f x h with
      | .ok (some y, h') => if acc.length < 16777216 then lcV f i n m (acc ++ [y]) h' else .no
      | .ok (none, h') => lcV f i n m acc h'
      | _ => .no
    | none => .no
/-- a changing list is read -/
def refL (h : Hh) (x : D) : Option (Nat × List D) := match x with
  | .ref i => match h[i]? with
    | some (.lst ys) => some (i, ys)
    | _ => none
  | _ => none
mutual
def evE (G : Gam) : Ex → Env → Hh → Res (D × Hh)
  | .var i, r, h => (getV r i).bind fun d => .ok (d, h)
  | .con d, _, h => .ok (d, h)
  | .glob k, _, h => (ofO (G.con k)).bind fun d => .ok (d, h)
  | .tup es, r, h => (evEs G es r h).bind fun p => ofB (okN p.1.length) (.tup p.1, p.2)
  | .lst es, r, h => (evEs G es r h).bind fun p => ofB (okN p.1.length) (.lst p.1, p.2)
  | .newl es, r, h => (evEs G es r h).bind fun p => ofB (okN p.1.length) (.ref p.2.length, p.2 ++ [.lst p.1])
  | .bin o a b, r, h => (evE G a r h).bind fun p => (evE G b r p.2).bind fun q => (binD o p.1 q.1).bind fun d => .ok (d, q.2)
  | .neg a, r, h => (evE G a r h).bind fun p => match p.1 with
    | .int i => .ok (.int (-i), p.2)
    | _ => .no
  | .cmp o a b, r, h => (evE G a r h).bind fun p => (evE G b r p.2).bind fun q => (cmpD o p.1 q.1).bind fun d => .ok (d, q.2)
  | .cmp2 o o2 a b c, r, h => (evE G a r h).bind fun p => (evE G b r p.2).bind fun q => (cmpD o p.1 q.1).bind fun d => (boolD d).bind fun t =>
      if t then (evE G c r q.2).bind fun w => (cmpD o2 q.1 w.1).bind fun e => .ok (e, w.2) else .ok (.bl false, q.2)
  | .isn a, r, h => (evE G a r h).bind fun p => match p.1 with
    | .non => .ok (.bl true, p.2)
    | _ => .ok (.bl false, p.2)
  | .notn a, r, h => (evE G a r h).bind fun p => match p.1 with
    | .non => .ok (.bl false, p.2)
    | _ => .ok (.bl true, p.2)
  | .and es, r, h => evA G true es r h
  | .or es, r, h => evA G false es r h
  | .dic0, _, h => .ok (.dic [] [], h)
  | .dicc s i, _, h => .ok (.dic [s] [.int i], h)
  | .fld a n, r, h => (evE G a r h).bind fun p => (fldD G p.2 p.1 n).bind fun d => .ok (d, p.2)
  | .isc a k, r, h => (evE G a r h).bind fun p => (iscD G p.1 k).bind fun d => .ok (d, p.2)
  | .new k es, r, h => match G.ini k with
    | some g => (evEs G es r h).bind fun p => if p.1.length = g.1 then (g.2.2 (.ref p.2.length :: p.1) (p.2 ++ [.ins g.2.1 [] []])).bind (madeD p.2.length) else .no
    | none => .no
  | .meth a m es, r, h => (evE G a r h).bind fun p => match methD G p.2 p.1 m with
    | some g => (evEs G es r p.2).bind fun q => if q.1.length = g.1 then g.2 (p.1 :: q.1) q.2 else .no
    | none => .no
  | .mkx k es, r, h => match G.mkc k with
    | some m => if mkSh m.2 es then (evEs G es r h).bind fun p => (mkxD m p.1).bind fun d => .ok (d, p.2) else .no
    | none => .no
  | .not a, r, h => (evE G a r h).bind fun p => (boolD p.1).bind fun t => .ok (.bl (!t), p.2)
  | .ife c a b, r, h => (evE G c r h).bind fun p => (boolD p.1).bind fun t => if t then evE G a r p.2 else evE G b r p.2
  | .ix a i, r, h => (evE G a r h).bind fun p => (evE G i r p.2).bind fun q => (ixD q.2 p.1 q.1).bind fun d => .ok (d, q.2)
  | .sl a lo hi, r, h => (evE G a r h).bind fun p => (evO G lo r p.2).bind fun q => (evO G hi r q.2).bind fun w => (slD w.2 p.1 q.1 w.1).bind fun d => .ok (d, w.2)
  | .isi a t, r, h => (evE G a r h).bind fun p => (isiD p.2 p.1 t).bind fun d => .ok (d, p.2)
  | .bcall f es, r, h => (evEs G es r h).bind fun p => (bcallD f p.1 p.2).bind fun d => .ok (d, p.2)
  | .bmeth m a es, r, h => (evE G a r h).bind fun p => if recvD p.2 m p.1 then (evEs G es r p.2).bind fun q => bmethD m p.1 q.1 q.2 else .no
  | .call k es, r, h => match G.fn k with
    | some g => (evEs G es r h).bind fun p => if p.1.length = g.1 then g.2 p.1 p.2 else .no
    | none => .no
  | .lof e, r, h => (evE G e r h).bind fun p => match lookD p.2 p.1 with
    | .lst xs => .ok (.ref p.2.length, p.2 ++ [.lst xs])
    | .tup xs => .ok (.ref p.2.length, p.2 ++ [.lst xs])
    | _ => .no
  | .lor new e, r, h => (evE G e r h).bind fun p => match p.1 with
    | .int n => if decide (-1000000 < n) && decide (n < 1000000) then (if new then .ok (.ref p.2.length, p.2 ++ [.lst ((List.range n.toNat).map fun (i : Nat) => .int (0 + (i : Int)))]) else .ok (.lst ((List.range n.toNat).map fun (i : Nat) => .int (0 + (i : Int))), p.2)) else .no
    | _ => .no
  | .sset e, r, h => (evE G e r h).bind fun p => (ssetD p.1).bind fun d => .ok (d, p.2)
  | .inr neg a b, r, h => (evE G a r h).bind fun p => (evE G b r p.2).bind fun q => match refL q.2 q.1 with
    | some (_, ys) => (cmpD (if neg then .NotIn else .In) p.1 (.lst ys)).bind fun d => .ok (d, q.2)
    | none => .no
  | .lcv new elt t e ifs own, r, h => (evE G e r h).bind fun p => match refL p.2 p.1 with
    | some (i, ys) => (lcV (fun x h1 => (setT t x (wipeE r own)).bind fun r1 => (evTs G ifs r1 h1).bind fun b => if b.1 then (evE G elt r1 b.2).bind fun y => .ok (some y.1, y.2) else .ok (none, b.2)) i ys.length ys.length [] p.2).bind fun q =>
        if new then .ok (.ref q.2.length, q.2 ++ [.lst q.1]) else .ok (.lst q.1, q.2)
    | none => .no
  | .lc new elt t it ifs own, r, h => (evI G it r h).bind fun p =>
      (lcD (fun x h1 => (setT t x (wipeE r own)).bind fun r1 => (evTs G ifs r1 h1).bind fun b => if b.1 then (evE G elt r1 b.2).bind fun y => .ok (some y.1, y.2) else .ok (none, b.2)) p.1 [] p.2).bind fun q =>
        if new then .ok (.ref q.2.length, q.2 ++ [.lst q.1]) else .ok (.lst q.1, q.2)
def evEs (G : Gam) : Exs → Env → Hh → Res (List D × Hh)
  | .nil, _, h => .ok ([], h)
  | .cons e es, r, h => (evE G e r h).bind fun p => (evEs G es r p.2).bind fun q => .ok (p.1 :: q.1, q.2)
/-- and (true), or (false) of truth values, from the left -/
def evA (G : Gam) (k : Bool) : Exs → Env → Hh → Res (D × Hh)
  | .nil, _, _ => .no
  | .cons e es, r, h => (evE G e r h).bind fun p => (boolD p.1).bind fun t => match es with
    | .nil => .ok (.bl t, p.2)
    | es => if t = k then evA G k es r p.2 else .ok (.bl t, p.2)
/-- all tests hold, from the left -/
def evTs (G : Gam) : Exs → Env → Hh → Res (Bool × Hh)
  | .nil, _, h => .ok (true, h)
  | .cons e es, r, h => (evE G e r h).bind fun p => (boolD p.1).bind fun t => if t then evTs G es r p.2 else .ok (false, p.2)
def evO (G : Gam) : Ox → Env → Hh → Res (Option Int × Hh)
  | .none, _, h => .ok (none, h)
  | .some e, r, h => (evE G e r h).bind fun p => match p.1 with
    | .int i => .ok (some i, p.2)
    | _ => .no
/-- what a loop goes through -/
def evI (G : Gam) : It → Env → Hh → Res (List D × Hh)
  | .seq e, r, h => (evE G e r h).bind fun p => match p.1 with
    | .lst xs => .ok (xs, p.2)
    | .tup xs => .ok (xs, p.2)
    | .str s => .ok (s.map fun c => .str [c], p.2)
    | _ => .no
  | .range e, r, h => (evE G e r h).bind fun p => match p.1 with
    | .int n => ofB (decide (-1099511627776 < n) && decide (n < 1099511627776)) ((List.range n.toNat).map fun (i : Nat) => .int (0 + (i : Int)), p.2)
    | _ => .no
  | .range2 a b, r, h => (evE G a r h).bind fun p => (evE G b r p.2).bind fun q => match p.1, q.1 with
    | .int m, .int n => ofB (decide (-1099511627776 < m) && decide (m < 1099511627776) && decide (-1099511627776 < n) && decide (n < 1099511627776)) ((List.range (n - m).toNat).map fun (i : Nat) => .int (m + (i : Int)), q.2)
    | _, _ => .no
  | .enum e, r, h => (evE G e r h).bind fun p => match p.1 with
    | .lst xs => .ok (xs.zipIdx.map fun y => .tup [.int y.2, y.1], p.2)
    | .tup xs => .ok (xs.zipIdx.map fun y => .tup [.int y.2, y.1], p.2)
    | _ => .no
  | .zip a b, r, h => (evE G a r h).bind fun p => (evE G b r p.2).bind fun q => match p.1, q.1 with
    | .lst xs, .lst ys => .ok ((xs.zip ys).map fun y => .tup [y.1, y.2], q.2)
    | _, _ => .no
end

inductive Out where
  | nx (r : Env) (h : Hh) | rt (d : D) (h : Hh) | bk (r : Env) (h : Hh) | ct (r : Env) (h : Hh) | ex (c : Nat) (xs : List D) (r : Env) (h : Hh)
/-- an expression within a statement: what it raises leaves the statement at these places -/
def Res.bs {a : Type} (x : Res a) (r : Env) (f : a → Res Out) : Res Out := match x with
  | .ok a => f a
  | .exc c xs h => .ok (.ex c xs r h)
  | .no => .no
@[simp] theorem Res.bs_ok {a : Type} (x : a) (r : Env) (f : a → Res Out) : (Res.ok x).bs r f = f x := rfl
@[simp] theorem Res.bs_exc {a : Type} (c xs h) (r : Env) (f : a → Res Out) : (Res.exc c xs h : Res a).bs r f = .ok (.ex c xs r h) := rfl
@[simp] theorem Res.bs_no {a : Type} (r : Env) (f : a → Res Out) : (Res.no : Res a).bs r f = .no := rfl

/-- the turns of a for -/
def forD (f : D → Env → Hh → Res Out) : List D → Env → Hh → Res Out
  | [], r, h => .ok (.nx r h)
  | x :: xs, r, h => match f x r h with
    | .ok (.nx r' h') => forD f xs r' h'
    | .ok (.ct r' h') => forD f xs r' h'
    | .ok (.bk r' h') => .ok (.nx r' h')
    | o => o
/-- n turns of a while at most -/
def whileN (c : Env → Hh → Res (Bool × Hh)) (f : Env → Hh → Res Out) : Nat → Env → Hh → Res Out
  | 0, _, _ => .no
  | n + 1, r, h => (c r h).bs r fun b => if b.1 then match f r b.2 with
      | .ok (.nx r' h') => whileN c f n r' h'
      | .ok (.ct r' h') => whileN c f n r' h'
      | .ok (.bk r' h') => .ok (.nx r' h')
      | o => o
    else .ok (.nx r b.2)
open Classical in
/-- a while, whatever the number of its turns -/
noncomputable def whileD (c : Env → Hh → Res (Bool × Hh)) (f : Env → Hh → Res Out) (r : Env) (h : Hh) : Res Out :=
  if e : ∃ n, whileN c f n r h ≠ .no then whileN c f (Classical.choose e) r h else .no

/-- two names at once -/
def parD (i j : Nat) (r : Env) (h : Hh) : List D → Res Out
  | [x, y] => .ok (.nx ((r.set i (some x)).set j (some y)) h)
  | _ => .no
/-- an except suite's evaluation: x the error -/
def evX (G : Gam) (x : D) : Xe → Res D
  | .con d => .ok d
  | .fld n => match x with
    | .exc c ns ds => if G.efl c n then ofO ((ns.zip ds).lookup n) else .no
    | _ => .no
  | .tup2 a b => (evX G x a).bind fun p => (evX G x b).bind fun q => .ok (.tup [p, q])
/-- of all these classes -/
def allIs (G : Gam) (c : Str) : List Nat → Option Bool
  | [] => some true
  | k :: ks => match G.esub c k with
    | some true => allIs G c ks
    | some false => some false
    | none => none
def evXs (G : Gam) (x : D) : Xs → Env → Hh → Res Out
  | .set i e, r, h => (evX G x e).bind fun p => .ok (.nx (r.set i (some p)) h)
  | .ret e, r, h => (evX G x e).bind fun p => .ok (.rt p h)
  | .ifis ks s, r, h => match x with
    | .exc c _ _ => match allIs G c ks with
      | some true => evXs G x s r h
      | some false => .ok (.nx r h)
      | none => .no
    | _ => .no
def evXl (G : Gam) (x : D) : List Xs → Env → Hh → Res Out
  | [], r, h => .ok (.nx r h)
  | s :: ss, r, h => (evXs G x s r h).bind fun o => match o with
    | .nx r' h' => evXl G x ss r' h'
    | o => .ok o
/-- behind the suite the name is gone -/
def goneX (v : Nat) : Out → Out
  | .nx r h => .nx (r.set v none) h
  | o => o
mutual
noncomputable def evS (G : Gam) : Sm → Env → Hh → Res Out
  | .set i e, r, h => (evE G e r h).bs r fun p => .ok (.nx (r.set i (some p.1)) p.2)
  | .asg t e, r, h => (evE G e r h).bs r fun p => (setT t p.1 r).bs r fun r' => .ok (.nx r' p.2)
  | .par i j es, r, h => (evEs G es r h).bs r fun p => parD i j r p.2 p.1
  | .seti o i e, r, h => (evE G e r h).bs r fun p => (evE G o r p.2).bs r fun q => (evE G i r q.2).bs r fun w => (setiD q.1 w.1 p.1 w.2).bs r fun h' => .ok (.nx r h')
  | .setf o n e, r, h => (evE G e r h).bs r fun p => (evE G o r p.2).bs r fun q => (setfD G q.2 q.1 n p.1).bs r fun h' => .ok (.nx r h')
  | .aug i o e, r, h => (getV r i).bs r fun d => (evE G e r h).bs r fun p => (augD d p.1).bs r fun y => .ok (.nx (r.set i (some y)) p.2)
  | .expr e, r, h => (evE G e r h).bs r fun p => .ok (.nx r p.2)
  | .ret e, r, h => (evE G e r h).bs r fun p => .ok (.rt p.1 p.2)
  | .retn, _, h => .ok (.rt .non h)
  | .iff c a b, r, h => (evE G c r h).bs r fun p => (boolD p.1).bs r fun t => if t then evSs G a r p.2 else evSs G b r p.2
  | .forr t it b, r, h => (evI G it r h).bs r fun p => forD (fun x r1 h1 => (setT t x r1).bs r1 fun r2 => evSs G b r2 h1) p.1 r p.2
  | .whil c b, r, h => whileD (fun r1 h1 => (evE G c r1 h1).bind fun p => (boolD p.1).bind fun t => .ok (t, p.2)) (fun r1 h1 => evSs G b r1 h1) r h
  | .brk, r, h => .ok (.bk r h)
  | .cont, r, h => .ok (.ct r h)
  | .pass, r, h => .ok (.nx r h)
  | .rais k es, r, h => if G.exk k then (evEs G es r h).bs r fun p => .ok (.ex k p.1 r p.2) else .no
  | .rai1 k e, r, h => match G.mkc k with
    | some (c, some f) => (evE G e r h).bs r fun p => .ok (.ex k [.exc c [f] [p.1]] r p.2)
    | _ => .no
  | .tryy b hs, r, h => if hsOk G hs then match evSs G b r h with
      | .ok (.ex c xs r' h') => evH G hs c xs r' h'
      | o => o
    else .no
  | .tryx b k v ss, r, h => if G.cls k then match evSs G b r h with
      | .ok (.ex c xs r' h') => match G.sub c k with
        | some true => match xs with
          | [.exc cn ns ds] => if v < r'.length then (evXl G (.exc cn ns ds) ss (r'.set v none) h').bind fun o => .ok (goneX v o) else .no
          | _ => .no
        | some false => .ok (.ex c xs r' h')
        | none => .no
      | o => o
    else .no
noncomputable def evSs (G : Gam) : Sms → Env → Hh → Res Out
  | .nil, r, h => .ok (.nx r h)
  | .cons s ss, r, h => (evS G s r h).bind fun o => match o with
    | .nx r' h' => evSs G ss r' h'
    | o => .ok o
noncomputable def evH (G : Gam) : Hds → Nat → List D → Env → Hh → Res Out
  | .nil, c, xs, r, h => .ok (.ex c xs r h)
  | .cons k b hs, c, xs, r, h => match G.sub c k with
    | some true => evSs G b r h
    | some false => evH G hs c xs r h
    | none => .no
end
/-- a body run with its arguments: n places -/
noncomputable def runD (G : Gam) (n : Nat) (b : Sms) (xs : List D) (h : Hh) : Res (D × Hh) :=
  match evSs G b (xs.map some ++ List.replicate (n - xs.length) none) h with
  | .ok (.nx _ h') => .ok (.non, h')
  | .ok (.rt d h') => .ok (d, h')
  | .ok (.ex c xs _ h') => .exc c xs h'
  | _ => .no
end Z9

set_option Elab.async false
set_option linter.all false
set_option maxRecDepth 100000
/-! E1: how data stands for values over the abstract heap. -/
namespace Z9
open PySem L2

/-- a list of the module, or one that stays -/
def SqF (K : PySem.W.Frag) (L : Addr → Prop) (f : List Addr) (H : Hp) (a : Addr) (xs : List V) : Prop :=
  (Rd H a (.lst xs) ∧ ¬ L a ∧ a ∉ f) ∨
    ∃ (o : Obj) (its : Array Value) (n : Nat), K.lookup a = some o ∧ o.cls = .type "list" ∧ o.dict = none ∧ o.data = .seq its n ∧ its.size ≤ sizeLine ∧ Vals xs its.toList
theorem SqF.sq {K : PySem.W.Frag} {L : Addr → Prop} {f : List Addr} {H : Hp} {a : Addr} {xs : List V} (h : SqF K L f H a xs) : SqL K H a xs := h.elim (fun x => .inl x.1) .inr
/-- the name of the class that stands there -/
def clsNm (K : PySem.W.Frag) (C : Addr) : Option Str := (PySem.W.clsIn K C).map fun cd => cd.name
def kS (s : List Nat) : Key := .inr ⟨s.toArray⟩
/-- where the own dict of an error is, and what it holds -/
def ExD (L : Addr → Prop) (f : List Addr) (H : Hp) (dd : Option Addr) (fs : List (Str × V)) : Prop := (dd = none ∧ fs = []) ∨ ∃ d, dd = some d ∧ H d = some (.xd fs) ∧ ¬ L d ∧ d ∉ f
section
variable (K : PySem.W.Frag) (L : Addr → Prop) (f : List Addr) (H : Hp)
mutual
/-- the value v stands for the data; L: places that others may change; f: the changing places, by number -/
inductive Rep : V → D → Prop
  | non : Rep .non .non
  | bl (b : Bool) : Rep (.bl b) (.bl b)
  | int (i : Int) : Rep (.int i) (.int i)
  | str (s : List Nat) : PySem.PyData.strOk ⟨s.toArray⟩ = true → s.length ≤ sizeLine → Rep (.str ⟨s.toArray⟩) (.str s)
  | tup {a : Addr} {vs : List V} {ds : List D} : SqT K H a vs → RepL vs ds → Rep (.ref a) (.tup ds)
  | lst {a : Addr} {vs : List V} {ds : List D} : H a = some (.lst vs) → ¬ L a → a ∉ f → RepL vs ds → Rep (.ref a) (.lst ds)
  | ref {a : Addr} {i : Nat} : f[i]? = some a → Rep (.ref a) (.ref i)
  | dic {a : Addr} {ks : List (List Nat)} {vs : List V} {ds : List D} : H a = some (.dK ((ks.map kS).zip vs)) → ks.length = vs.length → ¬ L a → a ∉ f → RepL vs ds → Rep (.ref a) (.dic ks ds)
  | ins {a C dx : Addr} {c : Str} {ns : List Str} {vs : List V} {ds : List D} : H a = some (.ins C dx (ns.zip vs)) → ns.length = vs.length → clsNm K C = some c → ¬ L a → a ∉ f → RepL vs ds → Rep (.ref a) (.ins c ns ds)
  | exc {a C : Addr} {dd : Option Addr} {c : Str} {ns : List Str} {vs : List V} {ds : List D} : H a = some (exw a (.ref C) dd) → clsNm K C = some c → ¬ L a → a ∉ f → ns.length = vs.length → ExD L f H dd (ns.zip vs) → RepL vs ds → Rep (.ref a) (.exc c ns ds)
  | scr {a : Addr} {ns : List Int} : SqF K L f H a (ns.map V.int) → Rep (.ref a) (.scr ns)
inductive RepL : List V → List D → Prop
  | nil : RepL [] []
  | cons {v : V} {vs : List V} {d : D} {ds : List D} : Rep v d → RepL vs ds → RepL (v :: vs) (d :: ds)
end
end

section
variable {K : PySem.W.Frag} {L : Addr → Prop} {f : List Addr} {H : Hp}
theorem RepL.length : ∀ {vs : List V} {ds : List D}, RepL K L f H vs ds → vs.length = ds.length
  | _, _, .nil => rfl
  | _, _, .cons _ t => by simp [RepL.length t]
theorem RepL.append : ∀ {vs ws : List V} {ds es : List D}, RepL K L f H vs ds → RepL K L f H ws es → RepL K L f H (vs ++ ws) (ds ++ es)
  | _, _, _, _, .nil, h => h
  | _, _, _, _, .cons r t, h => .cons r (RepL.append t h)
theorem RepL.get : ∀ {vs : List V} {ds : List D} {i : Nat} {d : D}, RepL K L f H vs ds → ds[i]? = some d → ∃ v, vs[i]? = some v ∧ Rep K L f H v d
  | _, _, _, _, .nil, e => by simp at e
  | _, _, 0, _, .cons r _, e => by simp at e; subst e; exact ⟨_, rfl, r⟩
  | _, _, i + 1, d, .cons _ t, e => by
    obtain ⟨v, h1, h2⟩ := RepL.get (i := i) (d := d) t (by simpa using e)
    exact ⟨v, by simpa using h1, h2⟩
theorem RepL.getV : ∀ {vs : List V} {ds : List D} {i : Nat} {v : V}, RepL K L f H vs ds → vs[i]? = some v → ∃ d, ds[i]? = some d ∧ Rep K L f H v d
  | _, _, _, _, .nil, e => by simp at e
  | _, _, 0, _, .cons r _, e => by simp at e; subst e; exact ⟨_, rfl, r⟩
  | _, _, i + 1, d, .cons _ t, e => by
    obtain ⟨v, h1, h2⟩ := RepL.getV (i := i) (v := d) t (by simpa using e)
    exact ⟨v, by simpa using h1, h2⟩
theorem RepL.take : ∀ {vs : List V} {ds : List D} (n : Nat), RepL K L f H vs ds → RepL K L f H (vs.take n) (ds.take n)
  | _, _, 0, _ => by simpa using .nil
  | _, _, _ + 1, .nil => by simpa using .nil
  | _, _, n + 1, .cons r t => .cons r (RepL.take n t)
theorem RepL.drop : ∀ {vs : List V} {ds : List D} (n : Nat), RepL K L f H vs ds → RepL K L f H (vs.drop n) (ds.drop n)
  | _, _, 0, h => h
  | _, _, _ + 1, .nil => by simpa using .nil
  | _, _, n + 1, .cons r t => RepL.drop n t
theorem RepL.set {v : V} {d : D} (r : Rep K L f H v d) : ∀ {vs : List V} {ds : List D} (i : Nat), RepL K L f H vs ds → RepL K L f H (vs.set i v) (ds.set i d)
  | _, _, _, .nil => .nil
  | _, _, 0, .cons _ t => .cons r t
  | _, _, i + 1, .cons q t => .cons q (RepL.set r i t)
theorem RepL.ints : ∀ (ns : List Int), RepL K L f H (ns.map V.int) (ns.map D.int)
  | [] => .nil
  | n :: ns => .cons (.int n) (RepL.ints ns)
theorem RepL.split : ∀ {vs : List V} {ds es : List D}, RepL K L f H vs (ds ++ es) → ∃ us ws, vs = us ++ ws ∧ RepL K L f H us ds ∧ RepL K L f H ws es
  | vs, [], es, h => ⟨[], vs, rfl, .nil, h⟩
  | _, d :: ds, es, .cons r t => by
    obtain ⟨us, ws, e, a, b⟩ := RepL.split (ds := ds) t
    exact ⟨_ :: us, ws, by rw [e]; rfl, .cons r a, b⟩
end

/-- a changing list, or a changing instance -/
def DOf (K : PySem.W.Frag) (o : HO) (vs : List V) (d : D) (ds : List D) : Prop := (o = .lst vs ∧ d = .lst ds) ∨ ∃ (C dx : Addr) (c : Str) (ns : List Str), o = .ins C dx (ns.zip vs) ∧ ns.length = vs.length ∧ clsNm K C = some c ∧ d = .ins c ns ds
def isMut : HO → Prop
  | .lst _ => True
  | .ins _ _ _ => True
  | _ => False
theorem DOf.mut {K : PySem.W.Frag} {o : HO} {vs : List V} {d : D} {ds : List D} (h : DOf K o vs d ds) : isMut o := by
  rcases h with ⟨rfl, _⟩ | ⟨_, _, _, _, rfl, _⟩ <;> exact trivial
/-- the state's changing objects -/
structure SRel (K : PySem.W.Frag) (L : Addr → Prop) (f : List Addr) (h : Hh) (H : Hp) : Prop where
  len : f.length = h.length
  nd : f.Nodup
  out : ∀ a, L a → H a ≠ none
  dis : ∀ a ∈ f, ¬ L a
  obj : ∀ (i : Nat) (d : D), h[i]? = some d → ∃ (a : Addr) (ds : List D) (vs : List V) (o : HO), f[i]? = some a ∧ DOf K o vs d ds ∧ H a = some o ∧ RepL K L f H vs ds

/-- what may have become of the state -/
structure Le (f : List Addr) (H : Hp) (f' : List Addr) (H' : Hp) : Prop where
  pre : ∃ g, f' = f ++ g ∧ ∀ a ∈ g, H a = none
  keep : ∀ a o, H a = some o → a ∉ f → H' a = some o

section
variable {K : PySem.W.Frag} {L : Addr → Prop} {f f' f2 : List Addr} {h h' : Hh} {H H' H2 : Hp}
theorem Le.refl : Le f H f H := ⟨⟨[], by simp, by simp⟩, fun _ _ e _ => e⟩
theorem SRel.objL (S : SRel K L f h H) {i : Nat} {ds : List D} (e : h[i]? = some (.lst ds)) : ∃ (a : Addr) (vs : List V), f[i]? = some a ∧ H a = some (.lst vs) ∧ RepL K L f H vs ds := by
  obtain ⟨a, ds', vs, o, e1, e2, e3, r⟩ := S.obj i _ e
  rcases e2 with ⟨rfl, e2⟩ | ⟨_, _, _, _, _, _, _, e2⟩
  · cases e2
    exact ⟨a, vs, e1, e3, r⟩
  · cases e2
theorem SRel.objI (S : SRel K L f h H) {i : Nat} {c : Str} {ns : List Str} {ds : List D} (e : h[i]? = some (.ins c ns ds)) : ∃ (a C dx : Addr) (vs : List V), f[i]? = some a ∧ H a = some (.ins C dx (ns.zip vs)) ∧ ns.length = vs.length ∧ clsNm K C = some c ∧ RepL K L f H vs ds := by
  obtain ⟨a, ds', vs, o, e1, e2, e3, r⟩ := S.obj i _ e
  rcases e2 with ⟨_, e2⟩ | ⟨C, dx, c', ns', e4, e5, e6, e2⟩
  · cases e2
  · cases e2
    subst e4
    exact ⟨a, C, dx, vs, e1, e3, e5, e6, r⟩
theorem SRel.at (S : SRel K L f h H) {a : Addr} (ha : a ∈ f) : ∃ o, H a = some o ∧ isMut o := by
  obtain ⟨i, hi, e⟩ := List.getElem_of_mem ha
  have hi' : i < h.length := by rw [← S.len]; exact hi
  obtain ⟨b, ds, vs, o, e1, em, e2, _⟩ := S.obj i h[i] (by simp [hi'])
  have : b = a := by
    rw [List.getElem?_eq_getElem hi, e] at e1
    exact (Option.some.inj e1).symm
  subst this
  exact ⟨o, e2, em.mut⟩
theorem Le.none {L0 L1 : Addr → Prop} (l : Le f H f' H') (S : SRel K L0 f h H) (S' : SRel K L1 f' h' H') {a : Addr} (e : H' a = .none) : H a = .none := by
  cases q : H a with
  | none => rfl
  | some o =>
    exfalso
    by_cases hm : a ∈ f
    · obtain ⟨g, e1, _⟩ := l.pre
      obtain ⟨vs, e2, _⟩ := S'.at (a := a) (by rw [e1]; exact List.mem_append_left _ hm)
      rw [e] at e2
      cases e2
    · rw [l.keep a o q hm] at e
      cases e
theorem Le.trans {L0 L1 : Addr → Prop} (S : SRel K L0 f h H) (S' : SRel K L1 f' h' H') (l : Le f H f' H') (m : Le f' H' f2 H2) : Le f H f2 H2 := by
  obtain ⟨g, e1, n1⟩ := id l.pre
  obtain ⟨k, e2, n2⟩ := id m.pre
  refine ⟨⟨g ++ k, by rw [e2, e1, List.append_assoc], fun a ha => ?_⟩, fun a o e hn => ?_⟩
  · rcases List.mem_append.mp ha with h1 | h1
    · exact n1 a h1
    · exact l.none S S' (n2 a h1)
  · have hn' : a ∉ f' := by
      rw [e1]
      intro hm
      rcases List.mem_append.mp hm with h1 | h1
      · exact hn h1
      · rw [n1 a h1] at e
        cases e
    exact m.keep a o (l.keep a o e hn) hn'
theorem ExD.mono {dd : Option Addr} {fs : List (Str × V)} (x : ExD L f H dd fs) (l : Le f H f' H') : ExD L f' H' dd fs := x.imp id fun ⟨d, e1, e, nl, nf⟩ => ⟨d, e1, l.keep _ _ e nf, nl, (by
      obtain ⟨g, e1, n1⟩ := l.pre
      rw [e1]
      intro hm
      rcases List.mem_append.mp hm with h1 | h1
      · exact nf h1
      · rw [n1 _ h1] at e
        cases e)⟩
mutual
theorem Rep.mono {L0 : Addr → Prop} (S : SRel K L0 f h H) (l : Le f H f' H') : ∀ {v : V} {d : D}, Rep K L f H v d → Rep K L f' H' v d
  | _, _, .non => .non
  | _, _, .bl b => .bl b
  | _, _, .int i => .int i
  | _, _, .str s a b => .str s a b
  | _, _, .tup (a := a) (vs := vs) hs r => .tup (by
      rcases hs with (e | ⟨o, e⟩) | k
      · refine .inl (.inl (l.keep _ _ e fun hm => ?_))
        obtain ⟨ws, e2, km⟩ := S.at hm
        rw [e] at e2
        cases e2
        exact km.elim
      · refine .inl (.inr ⟨o, l.keep _ _ e fun hm => ?_⟩)
        obtain ⟨ws, e2, km⟩ := S.at hm
        rw [e] at e2
        cases e2
        exact km.elim
      · exact .inr k) (RepL.mono S l r)
  | _, _, .lst e nl nf r => .lst (l.keep _ _ e nf) nl (by
      obtain ⟨g, e1, n1⟩ := l.pre
      rw [e1]
      intro hm
      rcases List.mem_append.mp hm with h1 | h1
      · exact nf h1
      · rw [n1 _ h1] at e
        cases e) (RepL.mono S l r)
  | _, _, .dic e z nl nf r => .dic (l.keep _ _ e nf) z nl (by
      obtain ⟨g, e1, n1⟩ := l.pre
      rw [e1]
      intro hm
      rcases List.mem_append.mp hm with h1 | h1
      · exact nf h1
      · rw [n1 _ h1] at e
        cases e) (RepL.mono S l r)
  | _, _, .ins e zq cn nl nf r => .ins (l.keep _ _ e nf) zq cn nl (by
      obtain ⟨g, e1, n1⟩ := l.pre
      rw [e1]
      intro hm
      rcases List.mem_append.mp hm with h1 | h1
      · exact nf h1
      · rw [n1 _ h1] at e
        cases e) (RepL.mono S l r)
  | _, _, .exc e c nl nf z x r => .exc (l.keep _ _ e nf) c nl (by
      obtain ⟨g, e1, n1⟩ := l.pre
      rw [e1]
      intro hm
      rcases List.mem_append.mp hm with h1 | h1
      · exact nf h1
      · rw [n1 _ h1] at e
        cases e) z (x.mono l) (RepL.mono S l r)
  | _, _, .ref (i := i) e => .ref (by
      obtain ⟨g, e1, _⟩ := l.pre
      rw [e1]
      have hi : i < f.length := (List.getElem?_eq_some_iff.mp e).1
      rw [List.getElem?_append_left hi]
      exact e)
  | _, _, .scr (a := a) (ns := ns) hs => .scr (by
      rcases hs with ⟨e, nl, nf⟩ | k
      · have e' : Rd H' a (.lst (ns.map V.int)) := by
          rcases e with e | ⟨o, e⟩
          · exact .inl (l.keep _ _ e nf)
          · exact .inr ⟨o, l.keep _ _ e nf⟩
        refine .inl ⟨e', nl, ?_⟩
        obtain ⟨g, e1, n1⟩ := l.pre
        rw [e1]
        intro hm
        rcases List.mem_append.mp hm with h1 | h1
        · exact nf h1
        · rcases e with e | ⟨o, e⟩
          · rw [n1 _ h1] at e
            cases e
          · rw [n1 _ h1] at e
            cases e
      · exact .inr k)
theorem RepL.mono {L0 : Addr → Prop} (S : SRel K L0 f h H) (l : Le f H f' H') : ∀ {vs : List V} {ds : List D}, RepL K L f H vs ds → RepL K L f' H' vs ds
  | _, _, .nil => .nil
  | _, _, .cons r t => .cons (Rep.mono S l r) (RepL.mono S l t)
end
/-- a new object that stays -/
theorem SRel.alloc {p : Addr} {o : HO} (S : SRel K L f h H) (hp : H p = .none) : Le f H f (upd H p o) ∧ SRel K L f h (upd H p o) ∧ ¬ L p ∧ p ∉ f := by
  have hl : ¬ L p := fun x => S.out p x hp
  have hf : p ∉ f := fun x => by
    obtain ⟨vs, e, _⟩ := S.at x
    rw [hp] at e
    cases e
  have l : Le f H f (upd H p o) := ⟨⟨[], by simp, by simp⟩, fun a u e _ => by
    rw [upd_ne (fun z => by rw [z, hp] at e; cases e)]
    exact e⟩
  refine ⟨l, ⟨S.len, S.nd, fun a x => ?_, S.dis, fun i d e => ?_⟩, hl, hf⟩
  · by_cases z : a = p
    · subst z
      rw [upd_same]
      exact fun y => nomatch y
    · rw [upd_ne z]
      exact S.out a x
  · obtain ⟨a, ds, vs, o, e1, e2, e3, r⟩ := S.obj i d e
    refine ⟨a, ds, vs, o, e1, e2, ?_, RepL.mono S l r⟩
    rw [upd_ne (fun z => by rw [z, hp] at e3; cases e3)]
    exact e3
/-- more places that others may change: new ones -/
structure Lw (L : Addr → Prop) (H : Hp) (L1 : Addr → Prop) : Prop where
  sub : ∀ a, L a → L1 a
  new : ∀ a, L1 a → L a ∨ H a = .none
theorem Lw.refl : Lw L H L := ⟨fun _ h => h, fun _ h => .inl h⟩
mutual
theorem Rep.wide {L1 : Addr → Prop} (w : Lw L H L1) : ∀ {v : V} {d : D}, Rep K L f H v d → Rep K L1 f H v d
  | _, _, .non => .non
  | _, _, .bl b => .bl b
  | _, _, .int i => .int i
  | _, _, .str s a b => .str s a b
  | _, _, .tup hs r => .tup hs (RepL.wide w r)
  | _, _, .lst e nl nf r => .lst e (fun x => (w.new _ x).elim nl fun z => by rw [z] at e; cases e) nf (RepL.wide w r)
  | _, _, .ref e => .ref e
  | _, _, .dic e l nl nf r => .dic e l (fun x => (w.new _ x).elim nl fun z => by rw [z] at e; cases e) nf (RepL.wide w r)
  | _, _, .ins e lq cn nl nf r => .ins e lq cn (fun x => (w.new _ x).elim nl fun z => by rw [z] at e; cases e) nf (RepL.wide w r)
  | _, _, .exc e c nl nf z x r => .exc e c (fun x => (w.new _ x).elim nl fun z => by rw [z] at e; cases e) nf z (x.imp id fun ⟨d, e1, e, nl, nf⟩ => ⟨d, e1, e, (fun x => (w.new _ x).elim nl fun z => by rw [z] at e; cases e), nf⟩) (RepL.wide w r)
  | _, _, .scr hs => .scr (by
      rcases hs with ⟨e, nl, nf⟩ | k
      · refine .inl ⟨e, fun x => (w.new _ x).elim nl fun z => ?_, nf⟩
        rcases e with e | ⟨o, e⟩ <;> (rw [z] at e; cases e)
      · exact .inr k)
theorem RepL.wide {L1 : Addr → Prop} (w : Lw L H L1) : ∀ {vs : List V} {ds : List D}, RepL K L f H vs ds → RepL K L1 f H vs ds
  | _, _, .nil => .nil
  | _, _, .cons r t => .cons (Rep.wide w r) (RepL.wide w t)
end
mutual
theorem Rep.narrow {L1 : Addr → Prop} (w : ∀ a, L1 a → L a) : ∀ {v : V} {d : D}, Rep K L f H v d → Rep K L1 f H v d
  | _, _, .non => .non
  | _, _, .bl b => .bl b
  | _, _, .int i => .int i
  | _, _, .str s a b => .str s a b
  | _, _, .tup hs r => .tup hs (RepL.narrow w r)
  | _, _, .lst e nl nf r => .lst e (fun x => nl (w _ x)) nf (RepL.narrow w r)
  | _, _, .ref e => .ref e
  | _, _, .dic e l nl nf r => .dic e l (fun x => nl (w _ x)) nf (RepL.narrow w r)
  | _, _, .ins e lq cn nl nf r => .ins e lq cn (fun x => nl (w _ x)) nf (RepL.narrow w r)
  | _, _, .exc e c nl nf z x r => .exc e c (fun x => nl (w _ x)) nf z (x.imp id fun ⟨d, e1, e, nl, nf⟩ => ⟨d, e1, e, (fun x => nl (w _ x)), nf⟩) (RepL.narrow w r)
  | _, _, .scr hs => .scr (by
      rcases hs with ⟨e, nl, nf⟩ | k
      · exact .inl ⟨e, fun x => nl (w _ x), nf⟩
      · exact .inr k)
theorem RepL.narrow {L1 : Addr → Prop} (w : ∀ a, L1 a → L a) : ∀ {vs : List V} {ds : List D}, RepL K L f H vs ds → RepL K L1 f H vs ds
  | _, _, .nil => .nil
  | _, _, .cons r t => .cons (Rep.narrow w r) (RepL.narrow w t)
end
mutual
theorem Rep.up {p : Addr} (np : ¬ L p) : ∀ {v : V} {d : D}, Rep K (fun a => L a ∨ a = p) f H v d → Rep K L (f ++ [p]) H v d
  | _, _, .non => .non
  | _, _, .bl b => .bl b
  | _, _, .int i => .int i
  | _, _, .str s a b => .str s a b
  | _, _, .tup hs r => .tup hs (RepL.up np r)
  | _, _, .lst e nl nf r => .lst e (fun x => nl (.inl x)) (fun m => (List.mem_append.mp m).elim nf fun z => nl (.inr (List.mem_singleton.mp z))) (RepL.up np r)
  | _, _, .ref (i := i) e => .ref (by
      have hi : i < f.length := (List.getElem?_eq_some_iff.mp e).1
      rw [List.getElem?_append_left hi]
      exact e)
  | _, _, .dic e l nl nf r => .dic e l (fun x => nl (.inl x)) (fun m => (List.mem_append.mp m).elim nf fun z => nl (.inr (List.mem_singleton.mp z))) (RepL.up np r)
  | _, _, .ins e lq cn nl nf r => .ins e lq cn (fun x => nl (.inl x)) (fun m => (List.mem_append.mp m).elim nf fun z => nl (.inr (List.mem_singleton.mp z))) (RepL.up np r)
  | _, _, .exc e c nl nf z x r => .exc e c (fun x => nl (.inl x)) (fun m => (List.mem_append.mp m).elim nf fun z => nl (.inr (List.mem_singleton.mp z))) z (x.imp id fun ⟨d, e1, e, nl, nf⟩ => ⟨d, e1, e, (fun x => nl (.inl x)), (fun m => (List.mem_append.mp m).elim nf fun z => nl (.inr (List.mem_singleton.mp z)))⟩) (RepL.up np r)
  | _, _, .scr hs => .scr (by
      rcases hs with ⟨e, nl, nf⟩ | k
      · exact .inl ⟨e, fun x => nl (.inl x), fun m => (List.mem_append.mp m).elim nf fun z => nl (.inr (List.mem_singleton.mp z))⟩
      · exact .inr k)
theorem RepL.up {p : Addr} (np : ¬ L p) : ∀ {vs : List V} {ds : List D}, RepL K (fun a => L a ∨ a = p) f H vs ds → RepL K L (f ++ [p]) H vs ds
  | _, _, .nil => .nil
  | _, _, .cons r t => .cons (Rep.up np r) (RepL.up np t)
end
theorem SRel.narrow {L1 : Addr → Prop} (w : ∀ a, L1 a → L a) (S : SRel K L f h H) : SRel K L1 f h H :=
  ⟨S.len, S.nd, fun a x => S.out a (w a x), fun a m x => S.dis a m (w a x), fun i d e => let ⟨a, ds, vs, o, e1, e2, e3, r⟩ := S.obj i d e; ⟨a, ds, vs, o, e1, e2, e3, RepL.narrow w r⟩⟩
/-- one place more that others may change -/
theorem SRel.widen {p : Addr} (S : SRel K L f h H) (hp : H p ≠ .none) (hf : p ∉ f) (r : ∀ vs ds, RepL K L f H vs ds → RepL K (fun a => L a ∨ a = p) f H vs ds) : SRel K (fun a => L a ∨ a = p) f h H :=
  ⟨S.len, S.nd, fun a x => x.elim (S.out a) fun z => by rw [z]; exact hp, fun a m x => x.elim (S.dis a m) fun z => hf (by rw [← z]; exact m),
    fun i d e => let ⟨a, ds, vs, o, e1, e2, e3, q⟩ := S.obj i d e; ⟨a, ds, vs, o, e1, e2, e3, r _ _ q⟩⟩
mutual
theorem Rep.poke {p : Addr} {o : HO} {xs : List V} (hp : L p) (hl : H p = some (.lst xs)) : ∀ {v : V} {d : D}, Rep K L f H v d → Rep K L f (upd H p o) v d
  | _, _, .non => .non
  | _, _, .bl b => .bl b
  | _, _, .int i => .int i
  | _, _, .str s a b => .str s a b
  | _, _, .tup hs r => .tup (by
      rcases hs with (e | ⟨u, e⟩) | k
      · exact .inl (.inl (by rw [upd_ne (fun z => by rw [z, hl] at e; cases e)]; exact e))
      · exact .inl (.inr ⟨u, by rw [upd_ne (fun z => by rw [z, hl] at e; cases e)]; exact e⟩)
      · exact .inr k) (RepL.poke hp hl r)
  | _, _, .lst e nl nf r => .lst (by rw [upd_ne (fun z => nl (by rw [z]; exact hp))]; exact e) nl nf (RepL.poke hp hl r)
  | _, _, .ref e => .ref e
  | _, _, .dic e l nl nf r => .dic (by rw [upd_ne (fun z => nl (by rw [z]; exact hp))]; exact e) l nl nf (RepL.poke hp hl r)
  | _, _, .ins e lq cn nl nf r => .ins (by rw [upd_ne (fun z => nl (by rw [z]; exact hp))]; exact e) lq cn nl nf (RepL.poke hp hl r)
  | _, _, .exc e c nl nf z x r => .exc (by rw [upd_ne (fun z => nl (by rw [z]; exact hp))]; exact e) c nl nf z (x.imp id fun ⟨d, e1, e, nl, nf⟩ => ⟨d, e1, by rw [upd_ne (fun z => nl (by rw [z]; exact hp))]; exact e, nl, nf⟩) (RepL.poke hp hl r)
  | _, _, .scr hs => .scr (by
      rcases hs with ⟨e, nl, nf⟩ | k
      · refine .inl ⟨?_, nl, nf⟩
        rcases e with e | ⟨u, e⟩
        · exact .inl (by rw [upd_ne (fun z => nl (by rw [z]; exact hp))]; exact e)
        · exact .inr ⟨u, by rw [upd_ne (fun z => nl (by rw [z]; exact hp))]; exact e⟩
      · exact .inr k)
theorem RepL.poke {p : Addr} {o : HO} {xs : List V} (hp : L p) (hl : H p = some (.lst xs)) : ∀ {vs : List V} {ds : List D}, RepL K L f H vs ds → RepL K L f (upd H p o) vs ds
  | _, _, .nil => .nil
  | _, _, .cons r t => .cons (Rep.poke hp hl r) (RepL.poke hp hl t)
end
theorem SRel.poke {p : Addr} {o : HO} {xs : List V} (S : SRel K L f h H) (hp : L p) (hl : H p = some (.lst xs)) : SRel K L f h (upd H p o) := by
  refine ⟨S.len, S.nd, fun a x => ?_, S.dis, fun i d e => ?_⟩
  · by_cases z : a = p
    · subst z
      rw [upd_same]
      exact fun y => nomatch y
    · rw [upd_ne z]
      exact S.out a x
  · obtain ⟨a, ds, vs, o, e1, e2, e3, r⟩ := S.obj i d e
    refine ⟨a, ds, vs, o, e1, e2, ?_, RepL.poke hp hl r⟩
    rw [upd_ne (fun z => S.dis a (List.mem_of_getElem? e1) (by rw [z]; exact hp))]
    exact e3
/-- a new object that this one may change, and no other knows -/
theorem SRel.lay {p : Addr} {o : HO} (S : SRel K L f h H) (hp : H p = .none) : Le f H f (upd H p o) ∧ SRel K (fun a => L a ∨ a = p) f h (upd H p o) ∧ Lw L H (fun a => L a ∨ a = p) ∧ ¬ L p ∧ p ∉ f := by
  obtain ⟨l, S', n1, n2⟩ := S.alloc (o := o) hp
  have w : Lw L H (fun a => L a ∨ a = p) := ⟨fun a x => .inl x, fun a x => x.imp id fun z => by rw [z]; exact hp⟩
  refine ⟨l, ⟨S.len, S.nd, fun a x => ?_, fun a m x => ?_, fun i d e => ?_⟩, w, n1, n2⟩
  · rcases x with x | x
    · exact S'.out a x
    · rw [x, upd_same]
      exact fun y => nomatch y
  · rcases x with x | x
    · exact S.dis a m x
    · rw [x] at m
      exact n2 m
  · obtain ⟨a, ds, vs, o, e1, e2, e3, r⟩ := S.obj i d e
    refine ⟨a, ds, vs, o, e1, e2, ?_, RepL.mono S l (RepL.wide w r)⟩
    rw [upd_ne (fun z => by rw [z, hp] at e3; cases e3)]
    exact e3
end
end Z9

set_option Elab.async false
set_option linter.all false
set_option maxRecDepth 100000
set_option maxHeartbeats 1000000
/-! E2: the operations by values. -/
namespace Z9
open PySem PySem.Spec PyProof.Rows L2

section
variable {K : PySem.W.Frag} {L : Addr → Prop} {f f' : List Addr} {h : Hh} {H H' : Hp}
theorem str_len (s : List Nat) : (⟨s.toArray⟩ : Str).length = s.length := by simp [Str.length]
theorem strOk_iff {s : List Nat} : PySem.PyData.strOk ⟨s.toArray⟩ = true ↔ ∀ c ∈ s, c < 0x110000 := by
  simp [PySem.PyData.strOk]
theorem Rep.app {x y : List Nat} {a b : Str} (h1 : Rep K L f H (.str a) (.str x)) (h2 : Rep K L f H (.str b) (.str y)) (hz : x.length + y.length ≤ sizeLine) : Rep K L f H (.str (a ++ b)) (.str (x ++ y)) := by
  cases h1 with
  | str _ o1 z1 =>
    cases h2 with
    | str _ o2 z2 =>
      have e : ((⟨x.toArray⟩ : Str) ++ (⟨y.toArray⟩ : Str)) = (⟨(x ++ y).toArray⟩ : Str) := by
        show (⟨x.toArray ++ y.toArray⟩ : Str) = _
        simp
      rw [e]
      refine .str _ ?_ (by rw [List.length_append]; exact hz)
      rw [strOk_iff] at o1 o2 ⊢
      intro c hc
      rcases List.mem_append.mp hc with k | k
      · exact o1 c k
      · exact o2 c k
/-- any text of signs that are let -/
theorem Rep.strOf {x : List Nat} (o : ∀ c ∈ x, c < 0x110000) (z : x.length ≤ sizeLine) : Rep K L f H (.str ⟨x.toArray⟩) (.str x) := .str x (strOk_iff.mpr o) z
theorem Rep.signs {x : List Nat} {v : V} (h : Rep K L f H v (.str x)) : v = .str ⟨x.toArray⟩ ∧ (∀ c ∈ x, c < 0x110000) ∧ x.length ≤ sizeLine := by
  cases h with
  | str _ o z => exact ⟨rfl, strOk_iff.mp o, z⟩
theorem Rep.seqT {ds : List D} {v : V} (h : Rep K L f H v (.tup ds)) : ∃ a vs, v = .ref a ∧ SqT K H a vs ∧ RepL K L f H vs ds := by
  cases h with
  | tup s r => exact ⟨_, _, rfl, s, r⟩
theorem Rep.seqL {ds : List D} {v : V} (h : Rep K L f H v (.lst ds)) : ∃ a vs, v = .ref a ∧ H a = some (.lst vs) ∧ ¬ L a ∧ a ∉ f ∧ RepL K L f H vs ds := by
  cases h with
  | lst s n1 n2 r => exact ⟨_, _, rfl, s, n1, n2, r⟩
theorem Rep.intE {i : Int} {v : V} (h : Rep K L f H v (.int i)) : v = .int i := by cases h; rfl
theorem Rep.blE {i : Bool} {v : V} (h : Rep K L f H v (.bl i)) : v = .bl i := by cases h; rfl
end

/-- what an operation by values asks -/
def rD (K : PySem.W.Frag) (g : D → D → Hh → Res D) : R2 := fun x y H Q => ∃ (L : Addr → Prop) (f : List Addr) (h : Hh) (d e : D), SRel K L f h H ∧ Rep K L f H x d ∧ Rep K L f H y e ∧
  match g d e h with
  | .ok z => ∀ (H' : Hp) (v : V), Le f H f H' → SRel K L f h H' → Rep K L f H' v z → Q v H'
  | _ => False

section
variable {X : Cx}
theorem ofB_ok {α : Type} {b : Bool} {a z : α} (h : ofB b a = .ok z) : b = true ∧ a = z := by
  cases b with
  | true => exact ⟨rfl, Res.ok.inj h⟩
  | false => cases h
theorem rD_ok {g : Res D} {P : D → Prop} (h : match g with | .ok z => P z | _ => False) : ∃ z, g = .ok z ∧ P z := by
  cases g with
  | ok z => exact ⟨z, rfl, h⟩
  | exc c xs h' => exact h.elim
  | no => exact h.elim
/-- a new list that stays -/
theorem fin_list {pins : List (Addr × Obj)} {σ : L2.St} {s : Shared} {H : Hp} {K : PySem.W.Frag} {L : Addr → Prop} {f : List Addr} {h : Hh} {vs : List V} {ds : List D} {Q : VK} {p : Addr} (S : SRel K L f h H) (r : RepL K L f H vs ds)
    (q : ∀ (H' : Hp) (v : V), Le f H f H' → SRel K L f h H' → Rep K L f H' v (.lst ds) → Q v H') (hp : H p = none) : Q (.ref p) (upd H p (.lst vs)) := by
  obtain ⟨l, S', n1, n2⟩ := S.alloc (o := .lst vs) hp
  exact q _ _ l S' (.lst upd_same n1 n2 (RepL.mono S l r))
theorem fin_tup {H : Hp} {K : PySem.W.Frag} {L : Addr → Prop} {f : List Addr} {h : Hh} {vs : List V} {ds : List D} {Q : VK} {p : Addr} (S : SRel K L f h H) (r : RepL K L f H vs ds)
    (q : ∀ (H' : Hp) (v : V), Le f H f H' → SRel K L f h H' → Rep K L f H' v (.tup ds) → Q v H') (hp : H p = none) : Q (.ref p) (upd H p (.tup vs)) := by
  obtain ⟨l, S', n1, n2⟩ := S.alloc (o := .tup vs) hp
  exact q _ _ l S' (.tup (.of upd_same) (RepL.mono S l r))

theorem foldl_cps (a : Array Nat) : ∀ (n : Nat) (acc : Array Nat), (List.replicate n a).foldl (· ++ ·) acc = (acc.toList ++ (List.replicate n a.toList).flatten).toArray
  | 0, acc => by simp
  | n + 1, acc => by
    rw [List.replicate_succ, List.foldl_cons, foldl_cps a n]
    simp [List.replicate_succ]
theorem tooLong_of {n : Nat} (h : n ≤ sizeLine) : PySem.Builtin.Str.tooLong n = false := decide_eq_false (by omega)
/-- a text times a number -/
theorem mulS {s : Shared} {Q : Value → Shared → Prop} {E : Value → Shared → Prop} {a : List Nat} {j : Int} {t u : Tok} (hj : 0 ≤ j) (hj2 : j < 1099511627776) (hz : a.length * j.toNat ≤ sizeLine)
    (h : ∀ (t' : Nat) (tk : Tok), Q (.str ⟨(List.replicate j.toNat a).flatten.toArray⟩ tk) { s with toks := t' }) : wpAny (model X.prog X.w) X.A (binaryOp .Mult (.str ⟨a.toArray⟩ t) (.int j u)) Q E s := by
  have hs : sizeLine = 16777216 := sizeLine_eq
  have hz2 : (a.length : Int) * j ≤ 16777216 := by
    have e : (a.length : Int) * j = ((a.length * j.toNat : Nat) : Int) := by
      rw [Int.natCast_mul, Int.toNat_of_nonneg hj]
    rw [e]
    omega
  refine PySem.P.mul_str ?_ (fun h1 _ => ?_) (fun _ _ => ?_) ?_
  · have e1 : decide (j < -(2 ^ 63 : Int)) = false := decide_eq_false (by omega)
    have e2 : decide (j ≥ 2 ^ 63) = false := decide_eq_false (by omega)
    rw [e1, e2]
    rfl
  · rw [str_len]
    intro hgt
    have h2 : (a.length : Int) ≤ (2 ^ 63 - 1) / j := by
      rw [Int.le_ediv_iff_mul_le (by omega)]
      exact Int.le_trans hz2 (by decide)
    omega
  · rw [str_len]
    exact tooLong_of hz
  · by_cases h1 : j < 1
    · rw [if_pos h1]
      have e : j = 0 := by omega
      subst e
      exact ⟨by decide, h _ _⟩
    · rw [if_neg h1]
      by_cases h2 : (j == 1 || (⟨a.toArray⟩ : Str).length == 0) = true
      · rw [if_pos h2]
        have e : (List.replicate j.toNat a).flatten = a := by
          rw [str_len, Bool.or_eq_true] at h2
          rcases h2 with h2 | h2
          · have : j = 1 := by simpa using h2
            subst this
            simp
          · have : a = [] := by simpa using h2
            subst this
            simp
        have q := h s.toks t
        rw [e] at q
        exact q
      · rw [if_neg h2]
        have e : List.foldl (fun x1 x2 => x1 ++ x2) #[] (List.replicate j.toNat (⟨a.toArray⟩ : Str).cps) = (List.replicate j.toNat a).flatten.toArray := by
          rw [foldl_cps]
          simp
        rw [e]
        refine ⟨?_, h _ _⟩
        rw [str_len]
        simpa [Nat.mul_comm] using hz
theorem RepL.rep {K : PySem.W.Frag} {L : Addr → Prop} {f : List Addr} {H : Hp} {vs : List V} {ds : List D} (r : RepL K L f H vs ds) : ∀ n : Nat, RepL K L f H (List.replicate n vs).flatten (List.replicate n ds).flatten
  | 0 => .nil
  | n + 1 => by
    rw [List.replicate_succ, List.replicate_succ, List.flatten_cons, List.flatten_cons]
    exact r.append (RepL.rep r n)
theorem op_binD (o : Operator) : OpR X (binaryOp o) (rD X.K fun x y _ => binD o x y) := by
  intro pins s σ H x y v u Q I rx ry hh
  obtain ⟨L, f, h, d, e, S, rd, re, q0⟩ := hh
  obtain ⟨z, hz, q⟩ := rD_ok q0
  replace hz : binD o d e = .ok z := hz
  unfold binD at hz
  split at hz
  · cases rd; cases re; cases hz
    exact op_add pins s σ H _ _ v u Q I rx ry ⟨_, _, rfl, rfl, q H _ .refl S (.int _)⟩
  · cases rd; cases re; cases hz
    exact op_sub pins s σ H _ _ v u Q I rx ry ⟨_, _, rfl, rfl, q H _ .refl S (.int _)⟩
  · cases rd; cases re
    obtain ⟨hc, rfl⟩ := ofB_ok hz
    simp only [cMul, Bool.or_eq_true, Bool.and_eq_true, decide_eq_true_eq] at hc
    exact op_mul pins s σ H _ _ v u Q I rx ry ⟨_, _, rfl, rfl, hc, q H _ .refl S (.int _)⟩
  · cases rd; cases re
    obtain ⟨hc, rfl⟩ := ofB_ok hz
    exact op_mod pins s σ H _ _ v u Q I rx ry ⟨_, _, rfl, rfl, of_decide_eq_true hc, q H _ .refl S (.int _)⟩
  · cases rd; cases re
    obtain ⟨hc, rfl⟩ := ofB_ok hz
    simp only [Bool.and_eq_true, decide_eq_true_eq] at hc
    exact op_fdiv pins s σ H _ _ v u Q I rx ry ⟨_, _, rfl, rfl, hc, q H _ .refl S (.int _)⟩
  · cases rd; cases re
    obtain ⟨hc, rfl⟩ := ofB_ok hz
    simp only [Bool.and_eq_true, decide_eq_true_eq] at hc
    exact op_pow pins s σ H _ _ v u Q I rx ry ⟨_, _, rfl, rfl, ⟨hc.1.1, hc.1.2, hc.2⟩, q H _ .refl S (.int _)⟩
  · cases rd; cases re
    obtain ⟨hc, rfl⟩ := ofB_ok hz
    simp only [Bool.and_eq_true, decide_eq_true_eq] at hc
    exact op_shl pins s σ H _ _ v u Q I rx ry ⟨_, _, rfl, rfl, ⟨hc.1.1, hc.1.2, hc.2⟩, q H _ .refl S (.int _)⟩
  · rename_i a b
    obtain ⟨hc, rfl⟩ := ofB_ok hz
    have hz : a.length + b.length ≤ sizeLine := of_decide_eq_true hc
    obtain ⟨rfl, _, _⟩ := rd.signs
    obtain ⟨rfl, _, _⟩ := re.signs
    exact op_add_str pins s σ H _ _ v u Q I rx ry ⟨_, _, rfl, rfl, by rw [str_len, str_len]; exact hz, q H _ .refl S (rd.app re hz)⟩
  · rename_i a j
    obtain ⟨hc, rfl⟩ := ofB_ok hz
    simp only [Bool.and_eq_true, decide_eq_true_eq] at hc
    obtain ⟨⟨hj, hj2⟩, hz⟩ := hc
    have hz : a.length * j.toNat ≤ sizeLine := of_decide_eq_true hz
    obtain ⟨rfl, oa, za⟩ := rd.signs
    cases re
    obtain ⟨t, rfl⟩ := rx
    obtain ⟨t', rfl⟩ := ry
    exact mulS hj hj2 hz fun t tk => ⟨.str _, H, I.tok t, ⟨tk, rfl⟩, q H _ .refl S (.strOf (fun c hc => by
      obtain ⟨l, hl, hc⟩ := List.mem_flatten.mp hc
      rw [(List.mem_replicate.mp hl).2] at hc
      exact oa c hc) (by simpa [Nat.mul_comm] using hz))⟩
  · rename_i a j
    obtain ⟨hc, rfl⟩ := ofB_ok hz
    simp only [Bool.and_eq_true, decide_eq_true_eq, Bool.not_eq_true'] at hc
    obtain ⟨⟨⟨hne, hj⟩, hj2⟩, hl⟩ := hc
    obtain ⟨p1, v1, rfl, e1, r1⟩ := rd.seqT
    cases re
    refine op_repB pins s σ H _ _ v u Q I rx ry ⟨p1, j, v1, rfl, rfl, e1, fun z => ?_, hj, hj2, by rw [r1.length]; exact hl, fun p hp => fin_tup S (r1.rep _) q hp⟩
    subst z
    cases r1
    cases hne
  · rename_i a b
    obtain ⟨hc, rfl⟩ := ofB_ok hz
    have hz : a.length + b.length ≤ sizeLine := of_decide_eq_true hc
    obtain ⟨p1, v1, rfl, e1, _, _, r1⟩ := rd.seqL
    obtain ⟨p2, v2, rfl, e2, _, _, r2⟩ := re.seqL
    refine op_cat pins s σ H _ _ v u Q I rx ry ⟨p1, p2, v1, v2, rfl, rfl, e1, e2, by rw [r1.length, r2.length]; exact hz, fun p hp => ?_⟩
    exact fin_list (pins := pins) (σ := σ) (s := s) S (r1.append r2) q hp
  · rename_i a b
    obtain ⟨hc, rfl⟩ := ofB_ok hz
    have hz : a.length + b.length ≤ sizeLine := of_decide_eq_true hc
    obtain ⟨p1, v1, rfl, e1, r1⟩ := rd.seqT
    obtain ⟨p2, v2, rfl, e2, r2⟩ := re.seqT
    refine op_catA pins s σ H _ _ v u Q I rx ry ⟨p1, p2, v1, v2, rfl, rfl, e1, e2, by rw [r1.length, r2.length]; exact hz, fun z => ?_, fun _ z => ?_, fun _ _ p hp => fin_tup S (r1.append r2) q hp⟩
    · subst z
      cases r1
      exact q H _ .refl S re
    · subst z
      cases r2
      rw [List.append_nil] at q
      exact q H _ .refl S rd
  · cases hz

/-! ### == -/
mutual
def toP : D → PyData
  | .non => .none
  | .bl b => .bool b
  | .int i => .int i
  | .str s => .str ⟨s.toArray⟩
  | .tup xs => .tuple (toPs xs)
  | .lst xs => .list (toPs xs)
  | _ => .none
def toPs : List D → List PyData
  | [] => []
  | x :: xs => toP x :: toPs xs
end
theorem int_beq (a b : Int) : (a == b) = decide (a = b) := by rw [Bool.eq_iff_iff]; simp
theorem str_beq (a b : List Nat) : ((⟨a.toArray⟩ : Str) == ⟨b.toArray⟩) = decide (a = b) := by rw [Bool.eq_iff_iff]; simp
mutual
theorem eqv_toP : ∀ (d e : D) (n m : Nat), depD d = some n → depD e = some m → PyData.eqv (toP d) (toP e) = eqD d e
  | .non, e, n, m, hd, he => by cases e <;> simp_all [toP, eqD, depD, PyData.eqv]
  | .bl b, e, n, m, hd, he => by cases e <;> simp_all [toP, eqD, depD, PyData.eqv, int_beq]
  | .int b, e, n, m, hd, he => by cases e <;> simp_all [toP, eqD, depD, PyData.eqv, int_beq]
  | .str b, e, n, m, hd, he => by cases e <;> simp_all [toP, eqD, depD, PyData.eqv, str_beq]
  | .tup b, e, n, m, hd, he => by
    cases e with
    | tup c =>
      simp only [toP, eqD, PyData.eqv]
      simp only [depD, Option.map_eq_some_iff] at hd he
      obtain ⟨n1, hd, _⟩ := hd
      obtain ⟨m1, he, _⟩ := he
      exact eqv_toPs b c n1 m1 hd he
    | _ => simp_all [toP, eqD, depD, PyData.eqv]
  | .lst b, e, n, m, hd, he => by
    cases e with
    | lst c =>
      simp only [toP, eqD, PyData.eqv]
      simp only [depD, Option.map_eq_some_iff] at hd he
      obtain ⟨n1, hd, _⟩ := hd
      obtain ⟨m1, he, _⟩ := he
      exact eqv_toPs b c n1 m1 hd he
    | _ => simp_all [toP, eqD, depD, PyData.eqv]
  | .ref _, _, _, _, hd, _ => by simp [depD] at hd
  | .scr _, _, _, _, hd, _ => by simp [depD] at hd
  | .ins _ _ _, _, _, _, hd, _ => by simp [depD] at hd
  | .exc _ _ _, _, _, _, hd, _ => by simp [depD] at hd
  | .dic _ _, _, _, _, hd, _ => by simp [depD] at hd
theorem eqv_toPs : ∀ (d e : List D) (n m : Nat), depDs d = some n → depDs e = some m → PyData.eqvAll (toPs d) (toPs e) = eqDs d e
  | [], [], _, _, _, _ => by simp [toPs, eqDs, PyData.eqvAll]
  | [], _ :: _, _, _, _, _ => by simp [toPs, eqDs, PyData.eqvAll]
  | _ :: _, [], _, _, _, _ => by simp [toPs, eqDs, PyData.eqvAll]
  | a :: as, b :: bs, n, m, hd, he => by
    simp only [depDs] at hd he
    split at hd
    · rename_i x y h1 h2
      split at he
      · rename_i x' y' h3 h4
        simp only [toPs, eqDs, PyData.eqvAll, eqv_toP a b _ _ h1 h3, eqv_toPs as bs _ _ h2 h4]
      · cases he
    · cases hd
end
mutual
theorem dep_shape : ∀ (d : D) (n : Nat), depD d = some n → (toP d).depth ≤ n
  | .non, n, h => by simp_all [depD, toP, PyData.depth]
  | .bl _, n, h => by simp_all [depD, toP, PyData.depth]
  | .int _, n, h => by simp_all [depD, toP, PyData.depth]
  | .str _, n, h => by simp_all [depD, toP, PyData.depth]
  | .tup b, n, h => by
    simp only [depD, Option.map_eq_some_iff] at h
    obtain ⟨m, h, rfl⟩ := h
    have := dep_shapes b m h
    simp only [toP, PyData.depth]
    omega
  | .lst b, n, h => by
    simp only [depD, Option.map_eq_some_iff] at h
    obtain ⟨m, h, rfl⟩ := h
    have := dep_shapes b m h
    simp only [toP, PyData.depth]
    omega
  | .ref _, _, h => by simp [depD] at h
  | .scr _, _, h => by simp [depD] at h
  | .ins _ _ _, _, h => by simp [depD] at h
  | .exc _ _ _, _, h => by simp [depD] at h
  | .dic _ _, _, h => by simp [depD] at h
theorem dep_shapes : ∀ (d : List D) (n : Nat), depDs d = some n → PyData.depthAll (toPs d) ≤ n
  | [], n, h => by simp_all [depDs, toPs, PyData.depthAll]
  | a :: as, n, h => by
    simp only [depDs] at h
    split at h
    · rename_i x y h1 h2
      cases h
      have e1 := dep_shape a x h1
      have e2 := dep_shapes as y h2
      simp only [toPs, PyData.depthAll]
      omega
    · cases h
end
section
variable {K : PySem.W.Frag} {L : Addr → Prop} {f : List Addr} {H : Hp}
mutual
theorem rep_dp : ∀ (d : D) (n : Nat) (v : V), depD d = some n → Rep K L f H v d → Dp K H v (toP d) ∧ (toP d).canLay0 = true
  | .non, n, v, h, r => by cases r; exact ⟨.non, rfl⟩
  | .bl _, n, v, h, r => by cases r; exact ⟨.bl _, rfl⟩
  | .int _, n, v, h, r => by cases r; exact ⟨.int _, rfl⟩
  | .str s, n, v, h, r => by
    cases r with
    | str _ o z => exact ⟨.str _, by simpa [toP, PyData.canLay0] using o⟩
  | .tup b, n, v, h, r => by
    simp only [depD, Option.map_eq_some_iff] at h
    obtain ⟨m, h, rfl⟩ := h
    obtain ⟨a, vs, rfl, e, q⟩ := r.seqT
    obtain ⟨x1, x2⟩ := rep_dps b m vs h q
    exact ⟨.tup e x1, by simpa [toP, PyData.canLay0] using x2⟩
  | .lst b, n, v, h, r => by
    simp only [depD, Option.map_eq_some_iff] at h
    obtain ⟨m, h, rfl⟩ := h
    obtain ⟨a, vs, rfl, e, _, _, q⟩ := r.seqL
    obtain ⟨x1, x2⟩ := rep_dps b m vs h q
    exact ⟨.lst (.of e) x1, by simpa [toP, PyData.canLay0] using x2⟩
  | .ref _, _, _, h, _ => by simp [depD] at h
  | .scr _, _, _, h, _ => by simp [depD] at h
  | .ins _ _ _, _, _, h, _ => by simp [depD] at h
  | .exc _ _ _, _, _, h, _ => by simp [depD] at h
  | .dic _ _, _, _, h, _ => by simp [depD] at h
theorem rep_dps : ∀ (d : List D) (n : Nat) (v : List V), depDs d = some n → RepL K L f H v d → DpAll K H v (toPs d) ∧ PyData.canLayAll0 (toPs d) = true
  | [], n, v, h, r => by cases r; exact ⟨.nil, rfl⟩
  | a :: as, n, v, h, r => by
    simp only [depDs] at h
    split at h
    · rename_i x y h1 h2
      cases r with
      | cons r1 r2 =>
        obtain ⟨a1, a2⟩ := rep_dp a x _ h1 r1
        obtain ⟨b1, b2⟩ := rep_dps as y _ h2 r2
        exact ⟨.cons a1 b1, by simp only [toPs, PyData.canLayAll0, a2, b2, Bool.and_self]⟩
    · cases h
end
theorem canEq_dep {d : D} (h : canEq d = true) : ∃ n, depD d = some n ∧ n ≤ 60 := by
  unfold canEq at h
  split at h
  · rename_i n e
    exact ⟨n, e, of_decide_eq_true h⟩
  · cases h
theorem eq_data {d : D} {v : V} (h : canEq d = true) (r : Rep K L f H v d) : Dp K H v (toP d) ∧ SeqAt.shaped (toP d) = true := by
  obtain ⟨n, e, hn⟩ := canEq_dep h
  obtain ⟨a, b⟩ := rep_dp d n v e r
  refine ⟨a, ?_⟩
  have := dep_shape d n e
  show ((toP d).canLay0 && decide ((toP d).depth ≤ 64)) = true
  rw [b, decide_eq_true (by omega)]
  rfl
end
theorem any_eqv (x : D) (nx : Nat) (hx : depD x = some nx) : ∀ (ys : List D) (n : Nat), depDs ys = some n → ((toPs ys).any fun z => PyData.eqv z (toP x)) = hasD x ys
  | [], _, _ => rfl
  | y :: ys, n, h => by
    simp only [depDs] at h
    split at h
    · rename_i a b h1 h2
      simp only [toPs, hasD, List.any_cons, eqv_toP y x _ _ h1 hx]
      rw [any_eqv x nx hx ys b h2]
      rfl
    · cases h
end
end Z9

set_option Elab.async false
set_option linter.all false
set_option maxRecDepth 100000
set_option maxHeartbeats 1000000
/-! E3: comparisons, places, calls of built-in functions by values. -/
namespace Z9
open PySem PySem.Spec PyProof.Rows L2

section
variable {K : PySem.W.Frag} {L : Addr → Prop} {f : List Addr} {h : Hh} {H : Hp}
theorem ints_rep : ∀ {vs : List V} {ds : List D} {is : List Int}, RepL K L f H vs ds → ints? ds = some is → vs = is.map V.int
  | _, [], is, .nil, e => by cases e; rfl
  | _, d :: ds, is, .cons r t, e => by
    cases d <;> simp only [ints?, Option.map_eq_some_iff] at e <;> try cases e
    rename_i i js hj
    obtain ⟨h1, rfl⟩ := hj
    rw [r.intE, ints_rep t h1]
    rfl
end
theorem kS_nodup {ks : List (List Nat)} (h : ks.Nodup) : (ks.map kS).Nodup := by
  induction ks with
  | nil => exact List.nodup_nil
  | cons s ks ih =>
    rw [List.nodup_cons] at h
    rw [List.map_cons, List.nodup_cons]
    refine ⟨fun m => ?_, ih h.2⟩
    obtain ⟨t, mt, e⟩ := List.mem_map.mp m
    unfold kS at e
    injection e with e
    injection e with e
    have : t = s := by
      have := congrArg Array.toList e
      simpa using this
    exact h.1 (this ▸ mt)
section
variable {X : Cx}
theorem op_cmpD (hu : X.A.units + 65 < cLine) (o : CmpOp) : OpR X (compareOp o) (rD X.K fun x y _ => cmpD o x y) := by
  intro pins s σ H x y v u Q I rx ry hh
  obtain ⟨L, f, h, d, e, S, rd, re, q0⟩ := hh
  obtain ⟨z, hz, q⟩ := rD_ok q0
  replace hz : cmpD o d e = .ok z := hz
  unfold cmpD at hz
  split at hz
  · cases rd; cases re; cases hz
    exact op_lt pins s σ H _ _ v u Q I rx ry ⟨_, _, rfl, rfl, q H _ .refl S (.bl _)⟩
  · cases rd; cases re; cases hz
    exact op_le pins s σ H _ _ v u Q I rx ry ⟨_, _, rfl, rfl, q H _ .refl S (.bl _)⟩
  · cases rd; cases re; cases hz
    exact op_gt pins s σ H _ _ v u Q I rx ry ⟨_, _, rfl, rfl, q H _ .refl S (.bl _)⟩
  · cases rd; cases re; cases hz
    exact op_ge pins s σ H _ _ v u Q I rx ry ⟨_, _, rfl, rfl, q H _ .refl S (.bl _)⟩
  · split at hz
    · rename_i is js ei ej
      obtain ⟨hc, rfl⟩ := ofB_ok hz
      simp only [Bool.and_eq_true, decide_eq_true_eq] at hc
      obtain ⟨⟨rfl, rfl⟩, nd⟩ := hc
      cases rd with
      | dic e1 l1 _ _ r1 =>
        cases re with
        | dic e2 l2 _ _ r2 =>
          have v1 := ints_rep r1 ei
          have v2 := ints_rep r2 ej
          subst v1 v2
          refine op_eq_dict (by omega) pins s σ H _ _ v u Q I rx ry ⟨_, _, _, rfl, rfl, e1, e2, ?_, fun p m => ?_, q H _ .refl S (.bl _)⟩
          · rw [List.map_fst_zip (by rw [List.length_map, l1]; exact Nat.le_refl _)]
            exact kS_nodup nd
          · have := (List.of_mem_zip m).2
            obtain ⟨i, _, ei⟩ := List.mem_map.mp this
            rw [← ei]
            rfl
    · cases hz
  · split at hz
    · rename_i hc
      cases hz
      rw [Bool.and_eq_true] at hc
      obtain ⟨a1, a2⟩ := eq_data hc.1 rd
      obtain ⟨b1, b2⟩ := eq_data hc.2 re
      obtain ⟨n, en, _⟩ := canEq_dep hc.1
      obtain ⟨m, em, _⟩ := canEq_dep hc.2
      exact op_eqD (by omega) pins s σ H _ _ v u Q I rx ry ⟨_, _, a1, b1, a2, b2, by rw [eqv_toP _ _ _ _ en em]; exact q H _ .refl S (.bl _)⟩
    · unfold eqT at hz
      split at hz
      · rename_i a as b _ _
        obtain ⟨hc, rfl⟩ := ofB_ok hz
        rw [Bool.and_eq_true] at hc
        obtain ⟨p1, v1, rfl, e1, r1⟩ := rd.seqT
        obtain ⟨p2, v2, rfl, e2, r2⟩ := re.seqT
        cases r1 with
        | @cons w1 ws1 _ _ r1 rs1 =>
          cases r2 with
          | @cons w2 ws2 _ _ r2 rs2 =>
            cases rs2
            obtain ⟨a1, a2⟩ := eq_data hc.1 r1
            obtain ⟨b1, b2⟩ := eq_data hc.2 r2
            obtain ⟨n, en, _⟩ := canEq_dep hc.1
            obtain ⟨m, em, _⟩ := canEq_dep hc.2
            have ee : ws1.isEmpty = as.isEmpty := by
              cases rs1 <;> rfl
            exact op_eq1 hu pins s σ H _ _ v u Q I rx ry ⟨p1, p2, w1, ws1, w2, _, _, rfl, rfl, e1, e2, a1, b1, a2, b2, by rw [eqv_toP _ _ _ _ en em, ee]; exact q H _ .refl S (.bl _)⟩
      · cases hz
  · obtain ⟨hc, rfl⟩ := ofB_ok hz
    rw [Bool.and_eq_true] at hc
    obtain ⟨a1, a2⟩ := eq_data hc.1 rd
    obtain ⟨b1, b2⟩ := eq_data hc.2 re
    obtain ⟨n, en, _⟩ := canEq_dep hc.1
    obtain ⟨m, em, _⟩ := canEq_dep hc.2
    exact op_neD (by omega) pins s σ H _ _ v u Q I rx ry ⟨_, _, a1, b1, a2, b2, by rw [eqv_toP _ _ _ _ en em]; exact q H _ .refl S (.bl _)⟩
  · split at hz
    · cases hz
      obtain ⟨rfl, _, _⟩ := rd.signs
      obtain ⟨rfl, _, _⟩ := re.signs
      exact op_in_sign pins s σ H _ _ v u Q I rx ry ⟨_, _, rfl, rfl, by simpa using q H _ .refl S (.bl _)⟩
    · cases hz
  · split at hz
    · cases hz
      obtain ⟨rfl, _, _⟩ := rd.signs
      obtain ⟨rfl, _, _⟩ := re.signs
      exact op_notIn_sign pins s σ H _ _ v u Q I rx ry ⟨_, _, rfl, rfl, by simpa using q H _ .refl S (.bl _)⟩
    · cases hz
  all_goals
    try
      obtain ⟨hc, rfl⟩ := ofB_ok hz
      rw [Bool.and_eq_true] at hc
      obtain ⟨a1, a2⟩ := eq_data hc.1 rd
      obtain ⟨b1, b2⟩ := eq_data hc.2 re
      obtain ⟨n, en, _⟩ := canEq_dep hc.1
      obtain ⟨m, em, _⟩ := canEq_dep hc.2
      simp only [depD, Option.map_eq_some_iff] at em
      obtain ⟨m', em, _⟩ := em
      obtain ⟨as, r1⟩ := Dp.reads I _ x v a1 rx
      obtain ⟨bs, r2⟩ := Dp.reads I _ y u b1 ry
      have fin := q H _ .refl S (.bl _)
      rw [← any_eqv _ n en _ m' em] at fin
  · exact SeqAt.in_list_reads r2 r1 (SeqAt.canLay_of_shaped b2) (SeqAt.canLay_of_shaped a2) (room_in_shaped a2 hu) ⟨.bl _, H, I, rfl, fin⟩
  · exact SeqAt.notIn_list_reads r2 r1 (SeqAt.canLay_of_shaped b2) (SeqAt.canLay_of_shaped a2) (room_in_shaped a2 hu) ⟨.bl _, H, I, rfl, fin⟩
  · exact SeqAt.in_tuple_reads r2 r1 (SeqAt.canLay_of_shaped b2) (SeqAt.canLay_of_shaped a2) (room_in_shaped a2 hu) ⟨.bl _, H, I, rfl, fin⟩
  · exact SeqAt.notIn_tuple_reads r2 r1 (SeqAt.canLay_of_shaped b2) (SeqAt.canLay_of_shaped a2) (room_in_shaped a2 hu) ⟨.bl _, H, I, rfl, fin⟩
  · cases rd; cases re; cases hz
    exact op_is_bl pins s σ H _ _ v u Q I rx ry ⟨_, _, rfl, rfl, q H _ .refl S (.bl _)⟩
  · cases rd; cases re; cases hz
    exact op_isnot_bl pins s σ H _ _ v u Q I rx ry ⟨_, _, rfl, rfl, q H _ .refl S (.bl _)⟩
  · cases hz

/-! ### a list or a tuple that is read, wherever it stands -/
theorem SRel.look {K : PySem.W.Frag} {L : Addr → Prop} {f : List Addr} {h : Hh} {H : Hp} (S : SRel K L f h H) {v : V} {d : D} (r : Rep K L f H v d) (ne : ∀ i, lookD h d ≠ .ref i) (ni : ∀ c ns ds, lookD h d ≠ .ins c ns ds) :
    (Rep K L f H v d ∧ lookD h d = d ∧ ∀ i, d ≠ .ref i) ∨ ∃ i a ds vs, d = .ref i ∧ v = .ref a ∧ lookD h d = .lst ds ∧ H a = some (.lst vs) ∧ RepL K L f H vs ds := by
  cases d with
  | ref i =>
    cases e : h[i]? with
    | none => exact absurd (by simp [lookD, e]) (ne i)
    | some d' =>
      obtain ⟨a, ds, vs, o, e1, ed, e3, rr⟩ := S.obj i d' e
      cases r with
      | ref e2 =>
        rw [e1] at e2
        cases e2
        rcases ed with ⟨rfl, rfl⟩ | ⟨_, _, c, ns, _, _, _, rfl⟩
        · exact .inr ⟨i, _, ds, vs, rfl, rfl, by simp [lookD, e], e3, rr⟩
        · exact absurd (show lookD h (.ref i) = .ins c ns ds by simp [lookD, e]) (ni c ns ds)
  | _ => exact .inl ⟨r, rfl, fun _ z => nomatch z⟩
theorem ixN_eq (n : Nat) (i : Int) : ixN n i = L2.ixN n i := rfl
theorem atD_of {K : PySem.W.Frag} {L : Addr → Prop} {f : List Addr} {H : Hp} {vs : List V} {ds : List D} {i : Int} {d : D} (r : RepL K L f H vs ds) (e : atD ds i = some d) : ∃ v, L2.atI vs i = some v ∧ Rep K L f H v d := by
  unfold atD at e
  cases k : ixN ds.length i with
  | none => rw [k] at e; cases e
  | some j =>
    rw [k] at e
    obtain ⟨v, h1, h2⟩ := r.get (show ds[j]? = some d from e)
    exact ⟨v, by unfold L2.atI; rw [r.length, ← ixN_eq, k]; exact h1, h2⟩
theorem ix_D : IxR X (rD X.K fun x y h => ixD h x y) := by
  intro value slice pins s σ H x y v u Q I rx ry hh hs
  obtain ⟨L, f, h, d, e, S, rd, re, q0⟩ := hh
  obtain ⟨z, hz, q⟩ := rD_ok q0
  replace hz : ixD h d e = .ok z := hz
  unfold ixD at hz
  have key : ∀ {vs : List V} {ds : List D} {i : Int}, RepL X.K L f H vs ds → ofO (atD ds i) = .ok z → ∃ w, L2.atI vs i = some w ∧ Q w H := by
    intro vs ds i r hz
    cases k : atD ds i with
    | none => rw [k] at hz; cases hz
    | some d' =>
      rw [k] at hz
      cases hz
      obtain ⟨w, h1, h2⟩ := atD_of r k
      exact ⟨w, h1, q H _ .refl S h2⟩
  split at hz
  · rename_i xs i el
    rcases S.look rd (by rw [el]; exact fun _ z => nomatch z) (by rw [el]; exact fun _ _ _ z => nomatch z) with ⟨rd', e1, _⟩ | ⟨j, a, ds, vs, rfl, rfl, e1, e2, r⟩
    · rw [e1] at el
      subst el
      obtain ⟨a, vs, rfl, ea, _, _, r⟩ := rd.seqL
      obtain ⟨w, h1, h2⟩ := key r hz
      cases re
      exact ix_list value slice pins s σ H _ _ v u Q I rx ry ⟨a, vs, i, w, rfl, rfl, .of ea, h1, h2⟩ hs
    · rw [e1] at el
      cases el
      obtain ⟨w, h1, h2⟩ := key r hz
      cases re
      exact ix_list value slice pins s σ H _ _ v u Q I rx ry ⟨a, vs, i, w, rfl, rfl, .of e2, h1, h2⟩ hs
  · rename_i xs i el
    rcases S.look rd (by rw [el]; exact fun _ z => nomatch z) (by rw [el]; exact fun _ _ _ z => nomatch z) with ⟨rd', e1, _⟩ | ⟨j, a, ds, vs, rfl, rfl, e1, e2, r⟩
    · rw [e1] at el
      subst el
      obtain ⟨a, vs, rfl, ea, r⟩ := rd.seqT
      obtain ⟨w, h1, h2⟩ := key r hz
      cases re
      exact ix_tup value slice pins s σ H _ _ v u Q I rx ry ⟨a, vs, i, w, rfl, rfl, ea, h1, h2⟩ hs
    · rw [e1] at el
      cases el
  · rename_i xs i el
    rcases S.look rd (by rw [el]; exact fun _ z => nomatch z) (by rw [el]; exact fun _ _ _ z => nomatch z) with ⟨rd', e1, _⟩ | ⟨j, a, ds, vs, rfl, rfl, e1, e2, r⟩
    · rw [e1] at el
      subst el
      obtain ⟨rfl, o, zz⟩ := rd.signs
      cases k : atD xs i with
      | none => rw [k] at hz; cases hz
      | some c =>
        rw [k] at hz
        cases hz
        cases re
        have hm : c ∈ xs := by
          unfold atD at k
          cases k2 : ixN xs.length i with
          | none => rw [k2] at k; cases k
          | some j => rw [k2] at k; exact List.mem_of_getElem? k
        refine ix_str value slice pins s σ H _ _ v u Q I rx ry ⟨_, i, c, rfl, rfl, by rw [str_len]; exact zz, k, ?_⟩ hs
        exact q H _ .refl S (.strOf (x := [c]) (fun c' hc' => by rw [List.mem_singleton.mp hc']; exact o c hm) (by show 1 ≤ sizeLine; decide))
    · rw [e1] at el
      cases el
  · cases hz

/-! ### slices -/
def rSlD (K : PySem.W.Frag) : V → Option Int → Option Int → Hp → VK → Prop := fun x lo hi H Q => ∃ (L : Addr → Prop) (f : List Addr) (h : Hh) (d : D), SRel K L f h H ∧ Rep K L f H x d ∧
  match slD h d lo hi with
  | .ok z => ∀ (H' : Hp) (v : V), Le f H f H' → SRel K L f h H' → Rep K L f H' v z → Q v H'
  | _ => False
theorem clamp_eq (n d : Nat) (o : Option Int) : clampD n d o = HT.sIx n d o := by cases o <;> rfl
theorem cut_eq (vs : List V) (lo hi : Option Int) : cutD vs lo hi = cutV vs lo hi := by simp only [cutD, cutV, clamp_eq]
theorem RepL.cut {K : PySem.W.Frag} {L : Addr → Prop} {f : List Addr} {H : Hp} {vs : List V} {ds : List D} (lo hi : Option Int) (r : RepL K L f H vs ds) : RepL K L f H (cutV vs lo hi) (cutD ds lo hi) := by
  rw [← cut_eq]
  unfold cutD
  rw [r.length]
  exact RepL.take _ (RepL.drop _ r)
theorem cut_mem {α : Type} {xs : List α} {lo hi : Option Int} {c : α} (h : c ∈ cutD xs lo hi) : c ∈ xs := List.mem_of_mem_drop (List.mem_of_mem_take h)
theorem cut_len {α : Type} (xs : List α) (lo hi : Option Int) : (cutD xs lo hi).length ≤ xs.length := by
  unfold cutD
  rw [List.length_take, List.length_drop]
  omega
theorem sl_D : SlR X (rSlD X.K) := by
  intro pins s σ H x v vl vu lo hi sl Q I rx hs pl pu hh
  obtain ⟨L, f, h, d, S, rd, q0⟩ := hh
  obtain ⟨z, hz, q⟩ := rD_ok q0
  unfold slD at hz
  split at hz
  · rename_i xs el
    cases hz
    rcases S.look rd (by rw [el]; exact fun _ z => nomatch z) (by rw [el]; exact fun _ _ _ z => nomatch z) with ⟨rd', e1, _⟩ | ⟨j, a, ds, vs, rfl, rfl, e1, e2, r⟩
    · rw [e1] at el
      subst el
      obtain ⟨a, vs, rfl, ea, _, _, r⟩ := rd.seqL
      exact sl_list pins s σ H _ v vl vu lo hi sl Q I rx hs pl pu ⟨a, vs, rfl, .of ea, fun p hp => fin_list (pins := pins) (σ := σ) (s := s) S (r.cut lo hi) q hp⟩
    · rw [e1] at el
      cases el
      exact sl_list pins s σ H _ v vl vu lo hi sl Q I rx hs pl pu ⟨a, vs, rfl, .of e2, fun p hp => fin_list (pins := pins) (σ := σ) (s := s) S (r.cut lo hi) q hp⟩
  · rename_i xs el
    cases hz
    rcases S.look rd (by rw [el]; exact fun _ z => nomatch z) (by rw [el]; exact fun _ _ _ z => nomatch z) with ⟨rd', e1, _⟩ | ⟨j, a, ds, vs, rfl, rfl, e1, e2, r⟩
    · rw [e1] at el
      subst el
      obtain ⟨a, vs, rfl, ea, r⟩ := rd.seqT
      refine sl_tupA pins s σ H _ v vl vu lo hi sl Q I rx hs pl pu ⟨a, vs, rfl, ea, fun hw => ?_, fun _ p hp => fin_tup S (r.cut lo hi) q hp⟩
      refine q H _ .refl S ?_
      have e : cutD xs lo hi = xs := by
        unfold cutD
        rw [clamp_eq, clamp_eq, ← r.length, hw.1, hw.2]
        simp [r.length]
      rw [e]
      exact rd
    · rw [e1] at el
      cases el
  · rename_i xs el
    cases hz
    rcases S.look rd (by rw [el]; exact fun _ z => nomatch z) (by rw [el]; exact fun _ _ _ z => nomatch z) with ⟨rd', e1, _⟩ | ⟨j, a, ds, vs, rfl, rfl, e1, e2, r⟩
    · rw [e1] at el
      subst el
      obtain ⟨rfl, o, zz⟩ := rd.signs
      refine sl_str pins s σ H _ v vl vu lo hi sl Q I rx hs pl pu ⟨_, rfl, by rw [str_len]; exact zz, ?_⟩
      have e : cutS (⟨xs.toArray⟩ : Str) lo hi = ⟨(cutD xs lo hi).toArray⟩ := by
        unfold cutS cutD
        rw [str_len, clamp_eq, clamp_eq]
      rw [e]
      exact q H _ .refl S (.strOf (fun c hc => o c (cut_mem hc)) (Nat.le_trans (cut_len _ _ _) zz))
    · rw [e1] at el
      cases el
  · rename_i xs el
    cases hz
    rcases S.look rd (by rw [el]; exact fun _ z => nomatch z) (by rw [el]; exact fun _ _ _ z => nomatch z) with ⟨rd', e1, _⟩ | ⟨j, a, ds, vs, rfl, rfl, e1, e2, r⟩
    · rw [e1] at el
      subst el
      cases rd with
      | scr hq =>
        refine sl_list pins s σ H _ v vl vu lo hi sl Q I rx hs pl pu ⟨_, _, rfl, hq.sq, fun p hp => ?_⟩
        refine fin_list (pins := pins) (σ := σ) (s := s) S ?_ q hp
        have e : cutV (xs.map V.int) lo hi = (cutD xs lo hi).map V.int := by
          rw [← cut_eq]
          unfold cutD
          rw [List.map_take, List.map_drop, List.length_map]
        rw [e]
        exact RepL.ints _
    · rw [e1] at el
      cases el
  · cases hz
end
end Z9

set_option Elab.async false
set_option linter.all false
set_option maxRecDepth 100000
set_option maxHeartbeats 1000000
/-! E4: calls of built-in functions and methods by values. -/
namespace Z9
open PySem PySem.Spec PyProof.Rows L2

section
variable {K : PySem.W.Frag} {L : Addr → Prop} {f : List Addr} {h : Hh} {H : Hp}
/-- a changing list is changed -/
theorem SRel.changeG (S : SRel K L f h H) {i : Nat} {a : Addr} {vs : List V} {ds : List D} {o : HO} {d0 : D} (hd : DOf K o vs d0 ds) (hi : i < h.length) (ea : f[i]? = some a) (r : RepL K L f H vs ds) :
    Le f H f (upd H a o) ∧ SRel K L f (h.set i d0) (upd H a o) := by
  have ha : a ∈ f := List.mem_of_getElem? ea
  have l : Le f H f (upd H a o) := ⟨⟨[], by simp, by simp⟩, fun b u e hb => by
    rw [upd_ne (fun z => hb (by rw [z]; exact ha))]
    exact e⟩
  refine ⟨l, by rw [List.length_set]; exact S.len, S.nd, fun b x => ?_, S.dis, fun j d e => ?_⟩
  · by_cases z : b = a
    · subst z
      rw [upd_same]
      exact fun y => nomatch y
    · rw [upd_ne z]
      exact S.out b x
  · by_cases hj : j = i
    · subst hj
      rw [List.getElem?_set_self hi] at e
      cases e
      exact ⟨a, ds, vs, _, ea, hd, upd_same, RepL.mono S l r⟩
    · rw [List.getElem?_set_ne (Ne.symm hj)] at e
      obtain ⟨b, ds', vs', o', e1, e2, e3, r'⟩ := S.obj j d e
      refine ⟨b, ds', vs', o', e1, e2, ?_, RepL.mono S l r'⟩
      rw [upd_ne fun z => hj ?_]
      · exact e3
      · subst z
        obtain ⟨h1, q1⟩ := List.getElem?_eq_some_iff.mp e1
        obtain ⟨h2, q2⟩ := List.getElem?_eq_some_iff.mp ea
        exact (List.getElem_inj S.nd).mp (q1.trans q2.symm)
/-- a new changing list -/
theorem SRel.pushG {p : Addr} {vs : List V} {ds : List D} {o : HO} {d0 : D} (hd : DOf K o vs d0 ds) (S : SRel K L f h H) (hp : H p = none) (r : RepL K L f H vs ds) :
    Le f H (f ++ [p]) (upd H p o) ∧ SRel K L (f ++ [p]) (h ++ [d0]) (upd H p o) := by
  obtain ⟨l0, S0, n1, n2⟩ := S.alloc (o := o) hp
  have l : Le f H (f ++ [p]) (upd H p o) := ⟨⟨[p], rfl, fun a ha => by rw [List.mem_singleton.mp ha]; exact hp⟩, l0.keep⟩
  refine ⟨l, by simp [S.len], ?_, S0.out, fun a ha => ?_, fun j d e => ?_⟩
  · rw [List.nodup_append]
    refine ⟨S.nd, by simp, fun a ha b hb => ?_⟩
    rw [List.mem_singleton.mp hb]
    rintro rfl
    exact n2 ha
  · rcases List.mem_append.mp ha with k | k
    · exact S.dis a k
    · rw [List.mem_singleton.mp k]
      exact n1
  · by_cases hj : j < h.length
    · rw [List.getElem?_append_left hj] at e
      obtain ⟨b, ds', vs', o', e1, e2, e3, r'⟩ := S.obj j d e
      refine ⟨b, ds', vs', o', ?_, e2, ?_, RepL.mono S l r'⟩
      · rw [List.getElem?_append_left (by rw [S.len]; exact hj)]
        exact e1
      · rw [upd_ne (fun z => by rw [z, hp] at e3; cases e3)]
        exact e3
    · have hj' : j = h.length := by
        have := (List.getElem?_eq_some_iff.mp e).1
        simp at this
        omega
      subst hj'
      simp at e
      subst e
      refine ⟨p, ds, vs, _, ?_, hd, upd_same, RepL.mono S l r⟩
      rw [← S.len]
      simp
theorem SRel.change (S : SRel K L f h H) {i : Nat} {a : Addr} {vs : List V} {ds : List D} (hi : i < h.length) (ea : f[i]? = some a) (r : RepL K L f H vs ds) :
    Le f H f (upd H a (.lst vs)) ∧ SRel K L f (h.set i (.lst ds)) (upd H a (.lst vs)) := S.changeG (.inl ⟨rfl, rfl⟩) hi ea r
theorem SRel.push {p : Addr} {vs : List V} {ds : List D} (S : SRel K L f h H) (hp : H p = none) (r : RepL K L f H vs ds) :
    Le f H (f ++ [p]) (upd H p (.lst vs)) ∧ SRel K L (f ++ [p]) (h ++ [.lst ds]) (upd H p (.lst vs)) := S.pushG (.inl ⟨rfl, rfl⟩) hp r
/-- a new instance -/
theorem SRel.pushI {p dx C : Addr} {c : Str} (S : SRel K L f h H) (hp : H p = none) (hd : H dx = none) (ne : dx ≠ p) (cn : clsNm K C = some c) :
    Le f H (f ++ [p]) (upd (upd H dx (.own p)) p (.ins C dx [])) ∧ SRel K L (f ++ [p]) (h ++ [.ins c [] []]) (upd (upd H dx (.own p)) p (.ins C dx [])) := by
  obtain ⟨l1, S1, n1, n2⟩ := S.alloc (o := .own p) hd
  obtain ⟨l2, S2⟩ := S1.pushG (p := p) (vs := []) (ds := []) (o := .ins C dx []) (.inr ⟨C, dx, c, [], rfl, rfl, cn, rfl⟩) (by rw [upd_ne (Ne.symm ne)]; exact hp) .nil
  exact ⟨Le.trans S S1 l1 l2, S2⟩
theorem bools_rep : ∀ {vs : List V} {ds : List D} {is : List Bool}, RepL K L f H vs ds → bools? ds = some is → vs = is.map V.bl
  | _, [], is, .nil, e => by cases e; rfl
  | _, d :: ds, is, .cons r t, e => by
    cases d <;> simp only [bools?, Option.map_eq_some_iff] at e <;> try cases e
    rename_i i js hj
    obtain ⟨h1, rfl⟩ := hj
    rw [r.blE, bools_rep t h1]
    rfl
theorem strs_rep : ∀ {vs : List V} {ds : List D} {is : List (List Nat)}, RepL K L f H vs ds → strs? ds = some is → vs = (is.map fun s => (⟨s.toArray⟩ : Str)).map V.str ∧ ∀ s ∈ is, ∀ c ∈ s, c < 0x110000
  | _, [], is, .nil, e => by cases e; exact ⟨rfl, by simp⟩
  | _, d :: ds, is, .cons r t, e => by
    cases d <;> simp only [strs?, Option.map_eq_some_iff] at e <;> try cases e
    rename_i i js hj
    obtain ⟨h1, rfl⟩ := hj
    obtain ⟨e1, o, _⟩ := r.signs
    obtain ⟨e2, o2⟩ := strs_rep t h1
    refine ⟨by rw [e1, e2]; rfl, fun s hs => ?_⟩
    rcases List.mem_cons.mp hs with rfl | hs
    · exact o
    · exact o2 s hs
end

/-- what a call by values asks -/
def rB (K : PySem.W.Frag) (g : List D → Hh → Res D) : List V → Hp → VK → Prop := fun vs H Q => ∃ (L : Addr → Prop) (f : List Addr) (h : Hh) (ds : List D), SRel K L f h H ∧ RepL K L f H vs ds ∧
  match g ds h with
  | .ok z => ∀ (H' : Hp) (v : V), Le f H f H' → SRel K L f h H' → Rep K L f H' v z → Q v H'
  | _ => False
def rM (K : PySem.W.Frag) (g : D → List D → Hh → Res (D × Hh)) : V → List V → Hp → VK → Prop := fun x vs H Q => ∃ (L : Addr → Prop) (f : List Addr) (h : Hh) (d : D) (ds : List D), SRel K L f h H ∧ Rep K L f H x d ∧ RepL K L f H vs ds ∧
  match g d ds h with
  | .ok z => ∀ (f' : List Addr) (H' : Hp) (v : V), Le f H f' H' → SRel K L f' z.2 H' → Rep K L f' H' v z.1 → Q v H'
  | _ => False
theorem rM_ok {g : Res (D × Hh)} {P : D × Hh → Prop} (h : match g with | .ok z => P z | _ => False) : ∃ z, g = .ok z ∧ P z := by
  cases g with
  | ok z => exact ⟨z, rfl, h⟩
  | exc c xs h' => exact h.elim
  | no => exact h.elim
section
variable {X : Cx}
theorem c_len : CallR X (.builtin "len") (rB X.K (bcallD .len)) := by
  intro pins s σ H vs us Q I rs hh
  obtain ⟨L, f, h, ds, S, r, q0⟩ := hh
  obtain ⟨z, hz, q⟩ := rD_ok q0
  cases r with
  | nil => cases hz
  | @cons v vs d ds r t =>
    cases t with
    | cons _ _ => cases hz
    | nil =>
      replace hz : bLen [d] h = .ok z := hz
      unfold bLen at hz
      simp only at hz
      split at hz
      · rename_i xs el
        cases hz
        rcases S.look r (by rw [el]; exact fun _ z => nomatch z) (by rw [el]; exact fun _ _ _ z => nomatch z) with ⟨rd', e1, _⟩ | ⟨j, a, ds, vs, rfl, rfl, e1, e2, rr⟩
        · rw [e1] at el
          subst el
          obtain ⟨a, ws, rfl, ea, _, _, rr⟩ := r.seqL
          exact call_len_seq pins s σ H _ us Q I rs ⟨a, ws, rfl, .inl (.of ea), by rw [rr.length]; exact q H _ .refl S (.int _)⟩
        · rw [e1] at el
          cases el
          exact call_len_seq pins s σ H _ us Q I rs ⟨a, _, rfl, .inl (.of e2), by rw [rr.length]; exact q H _ .refl S (.int _)⟩
      · rename_i xs el
        cases hz
        rcases S.look r (by rw [el]; exact fun _ z => nomatch z) (by rw [el]; exact fun _ _ _ z => nomatch z) with ⟨rd', e1, _⟩ | ⟨j, a, ds, vs, rfl, rfl, e1, e2, rr⟩
        · rw [e1] at el
          subst el
          obtain ⟨a, ws, rfl, ea, rr⟩ := r.seqT
          exact call_len_seq pins s σ H _ us Q I rs ⟨a, ws, rfl, .inr ea, by rw [rr.length]; exact q H _ .refl S (.int _)⟩
        · rw [e1] at el
          cases el
      · rename_i xs el
        cases hz
        rcases S.look r (by rw [el]; exact fun _ z => nomatch z) (by rw [el]; exact fun _ _ _ z => nomatch z) with ⟨rd', e1, _⟩ | ⟨j, a, ds, vs, rfl, rfl, e1, e2, rr⟩
        · rw [e1] at el
          subst el
          obtain ⟨rfl, o, zz⟩ := r.signs
          exact call_len_str pins s σ H _ us Q I rs ⟨_, rfl, by rw [str_len]; exact zz, by rw [str_len]; exact q H _ .refl S (.int _)⟩
        · rw [e1] at el
          cases el
      · cases hz
theorem c_abs : CallR X (.builtin "abs") (rB X.K (bcallD .abs)) := by
  intro pins s σ H vs us Q I rs hh
  obtain ⟨L, f, h, ds, S, r, q0⟩ := hh
  obtain ⟨z, hz, q⟩ := rD_ok q0
  replace hz : bAbs ds = .ok z := hz
  unfold bAbs at hz
  split at hz <;> try cases hz
  · cases r with
    | cons r t =>
      cases t
      cases r
      rename_i i
      refine call_abs pins s σ H _ us Q I rs ⟨i, rfl, ?_⟩
      have e : (if i < 0 then -i else i) = (i.natAbs : Int) := by split <;> omega
      rw [e]
      exact q H _ .refl S (.int _)
theorem c_int : CallR X (.type "int") (rB X.K (bcallD .int)) := by
  intro pins s σ H vs us Q I rs hh
  obtain ⟨L, f, h, ds, S, r, q0⟩ := hh
  obtain ⟨z, hz, q⟩ := rD_ok q0
  replace hz : bInt ds = .ok z := hz
  unfold bInt at hz
  split at hz <;> try cases hz
  · cases r with
    | cons r t =>
      cases t
      cases r
      exact call_int1 pins s σ H _ us Q I rs (.inl ⟨_, rfl, q H _ .refl S (.int _)⟩)
theorem bind_ok {α β : Type} {x : Res α} {g : α → Res β} {z : β} (h : x.bind g = .ok z) : ∃ a, x = .ok a ∧ g a = .ok z := by
  cases x with
  | ok a => exact ⟨a, rfl, h⟩
  | exc c xs h' => cases h
  | no => cases h
theorem ofO_ok {α : Type} {o : Option α} {a : α} (h : ofO o = .ok a) : o = some a := by
  cases o with
  | none => cases h
  | some b => cases h; rfl
theorem c_sum (hc : X.calm = true) : CallR X (.builtin "sum") (rB X.K (bcallD .sum)) := by
  intro pins s σ H vs us Q I rs hh
  obtain ⟨L, f, h, ds, S, r, q0⟩ := hh
  obtain ⟨z, hz, q⟩ := rD_ok q0
  replace hz : bSum ds = .ok z := hz
  unfold bSum at hz
  split at hz <;> try cases hz
  · obtain ⟨is, e1, e2⟩ := bind_ok hz
    cases e2
    cases r with
    | cons r t =>
      cases t
      obtain ⟨a, ws, rfl, ea, _, _, rr⟩ := r.seqL
      have := ints_rep rr (ofO_ok e1)
      subst this
      exact cr_sum hc pins s σ H _ us Q I rs ⟨a, is, rfl, .of ea, q H _ .refl S (.int _)⟩
theorem c_all (hc : X.calm = true) : CallR X (.builtin "all") (rB X.K (bcallD .all)) := by
  intro pins s σ H vs us Q I rs hh
  obtain ⟨L, f, h, ds, S, r, q0⟩ := hh
  obtain ⟨z, hz, q⟩ := rD_ok q0
  replace hz : bAll ds = .ok z := hz
  unfold bAll at hz
  split at hz <;> try cases hz
  · obtain ⟨is, e1, e2⟩ := bind_ok hz
    cases e2
    cases r with
    | cons r t =>
      cases t
      obtain ⟨a, ws, rfl, ea, _, _, rr⟩ := r.seqL
      have := bools_rep rr (ofO_ok e1)
      subst this
      exact cr_all hc pins s σ H _ us Q I rs ⟨a, is, rfl, .of ea, q H _ .refl S (.bl _)⟩
theorem c_any (hc : X.calm = true) : CallR X (.builtin "any") (rB X.K (bcallD .any)) := by
  intro pins s σ H vs us Q I rs hh
  obtain ⟨L, f, h, ds, S, r, q0⟩ := hh
  obtain ⟨z, hz, q⟩ := rD_ok q0
  replace hz : bAny ds = .ok z := hz
  unfold bAny at hz
  split at hz <;> try cases hz
  · obtain ⟨is, e1, e2⟩ := bind_ok hz
    cases e2
    cases r with
    | cons r t =>
      cases t
      obtain ⟨a, ws, rfl, ea, _, _, rr⟩ := r.seqL
      have := bools_rep rr (ofO_ok e1)
      subst this
      exact cr_any hc pins s σ H _ us Q I rs ⟨a, is, rfl, .of ea, q H _ .refl S (.bl _)⟩

/-- a list or a tuple that is read: its values -/
theorem look_seq {K : PySem.W.Frag} {L : Addr → Prop} {f : List Addr} {h : Hh} {H : Hp} (S : SRel K L f h H) {v : V} {d : D} {xs : List D} (r : Rep K L f H v d) (e : lookD h d = .lst xs ∨ lookD h d = .tup xs) : ∃ a ws, v = .ref a ∧ RepL K L f H ws xs ∧ ((lookD h d = .lst xs ∧ SqL K H a ws) ∨ (lookD h d = .tup xs ∧ d = .tup xs ∧ SqT K H a ws)) := by
  have n1 : ∀ i, lookD h d ≠ .ref i := fun i z => by rcases e with e | e <;> (rw [e] at z; cases z)
  have n2 : ∀ c ns ds, lookD h d ≠ .ins c ns ds := fun c ns ds z => by rcases e with e | e <;> (rw [e] at z; cases z)
  rcases S.look r n1 n2 with ⟨rd', e1, _⟩ | ⟨j, a, ds, vs, rfl, rfl, e1, e2, rr⟩
  · rcases e with e | e
    · rw [e1] at e
      subst e
      obtain ⟨a, ws, rfl, ea, _, _, rr⟩ := r.seqL
      exact ⟨a, ws, rfl, rr, .inl ⟨e1, .of ea⟩⟩
    · rw [e1] at e
      subst e
      obtain ⟨a, ws, rfl, ea, rr⟩ := r.seqT
      exact ⟨a, ws, rfl, rr, .inr ⟨e1, rfl, ea⟩⟩
  · rcases e with e | e
    · rw [e1] at e
      cases e
      exact ⟨a, vs, rfl, rr, .inl ⟨e1, .of e2⟩⟩
    · rw [e1] at e
      cases e
theorem c_list : CallR X (.type "list") (rB X.K (bcallD .list)) := by
  intro pins s σ H vs us Q I rs hh
  obtain ⟨L, f, h, ds, S, r, q0⟩ := hh
  obtain ⟨z, hz, q⟩ := rD_ok q0
  replace hz : bList ds h = .ok z := hz
  cases r with
  | nil => cases hz
  | @cons v vs d ds r t =>
    cases t with
    | cons _ _ => cases hz
    | nil =>
      have go : ∀ xs, (lookD h d = .lst xs ∨ lookD h d = .tup xs) → z = .lst xs → wpAny (model X.prog X.w) X.A (call (.type "list") us) (EP X pins σ Q) X.xe s := fun xs e hz => by
        subst hz
        obtain ⟨a, ws, rfl, rr, hs⟩ := look_seq S r e
        refine call_list_of pins s σ H _ us Q I rs ⟨a, ws, rfl, hs.imp (fun x => x.2) (fun x => x.2.2), fun p hp => ?_⟩
        obtain ⟨l, S', m1, m2⟩ := S.alloc (o := .lst ws) hp
        exact q _ _ l S' (.lst upd_same m1 m2 (RepL.mono S l rr))
      unfold bList at hz
      simp only at hz
      split at hz
      · rename_i xs el
        cases hz
        exact go xs (.inl el) rfl
      · rename_i xs el
        cases hz
        exact go xs (.inr el) rfl
      · cases hz
theorem c_tuple : CallR X (.type "tuple") (rB X.K (bcallD .tuple)) := by
  intro pins s σ H vs us Q I rs hh
  obtain ⟨L, f, h, ds, S, r, q0⟩ := hh
  obtain ⟨z, hz, q⟩ := rD_ok q0
  replace hz : bTup ds h = .ok z := hz
  cases r with
  | nil => cases hz
  | @cons v vs d ds r t =>
    cases t with
    | cons _ _ => cases hz
    | nil =>
      have go : ∀ xs, (lookD h d = .lst xs ∨ lookD h d = .tup xs) → z = .tup xs → wpAny (model X.prog X.w) X.A (call (.type "tuple") us) (EP X pins σ Q) X.xe s := fun xs e hz => by
        subst hz
        obtain ⟨a, ws, rfl, rr, hs⟩ := look_seq S r e
        refine call_tuple_of pins s σ H _ us Q I rs ⟨a, ws, rfl, ?_⟩
        rcases hs with ⟨_, hs⟩ | ⟨_, rfl, hs⟩
        · exact .inl ⟨hs, fun p hp => fin_tup S rr q hp⟩
        · exact .inr ⟨hs, q H _ .refl S r⟩
      unfold bTup at hz
      simp only at hz
      split at hz
      · rename_i xs el
        cases hz
        exact go xs (.inl el) rfl
      · rename_i xs el
        cases hz
        exact go xs (.inr el) rfl
      · cases hz
theorem maxI_mem : ∀ (x : Int) (xs : List Int), maxI (x :: xs) ∈ x :: xs ∧ ∀ y ∈ x :: xs, y ≤ maxI (x :: xs)
  | x, [] => ⟨by simp [maxI], by simp [maxI]⟩
  | x, y :: r => by
    obtain ⟨h1, h2⟩ := maxI_mem y r
    have e : maxI (x :: y :: r) = if x ≤ maxI (y :: r) then maxI (y :: r) else x := rfl
    rw [e]
    split
    · rename_i hx
      exact ⟨List.mem_cons_of_mem _ h1, fun z hz => (List.mem_cons.mp hz).elim (fun q => by rw [q]; exact hx) (h2 z)⟩
    · rename_i hx
      refine ⟨List.mem_cons_self, fun z hz => (List.mem_cons.mp hz).elim (fun q => by rw [q]; exact Int.le_refl _) fun q => ?_⟩
      have := h2 z q
      omega
theorem maxI_uniq {ns : List Int} {m k : Int} (h1 : m ∈ ns) (h2 : ∀ y ∈ ns, y ≤ m) (h3 : k ∈ ns) (h4 : ∀ y ∈ ns, y ≤ k) : m = k := by
  have := h2 k h3
  have := h4 m h1
  omega
theorem c_max (hc : X.calm = true) (hu : X.A.units + 65 < cLine) : CallR X (.builtin "max") (rB X.K (bcallD .max)) := by
  intro pins s σ H vs us Q I rs hh
  obtain ⟨L, f, h, ds, S, r, q0⟩ := hh
  obtain ⟨z, hz, q⟩ := rD_ok q0
  replace hz : bMax ds h = .ok z := hz
  cases r with
  | nil => cases hz
  | @cons v vs d ds r t =>
    cases t with
    | cons _ _ => cases hz
    | nil =>
      have go : ∀ xs, (lookD h d = .lst xs ∨ lookD h d = .tup xs) → maxO (ints? xs) = .ok z → wpAny (model X.prog X.w) X.A (call (.builtin "max") us) (EP X pins σ Q) X.xe s := fun xs e hz => by
        unfold maxO at hz
        split at hz
        · rename_i i is ei
          cases hz
          obtain ⟨a, ws, rfl, rr, hs⟩ := look_seq S r e
          have := ints_rep rr ei
          subst this
          obtain ⟨m1, m2⟩ := maxI_mem i is
          exact cr_mx hc hu pins s σ H _ us Q I rs ⟨a, i :: is, rfl, hs.imp (fun x => x.2) (fun x => x.2.2), by simp, fun m h1 h2 => by rw [maxI_uniq h1 h2 m1 m2]; exact q H _ .refl S (.int _)⟩
        · cases hz
      unfold bMax at hz
      simp only at hz
      split at hz
      · rename_i xs el
        exact go xs (.inl el) hz
      · rename_i xs el
        exact go xs (.inr el) hz
      · cases hz
/-! ### sorted(set(x)) -/
theorem mem_insU {i k : Int} : ∀ {l : List Int}, k ∈ insU i l ↔ k = i ∨ k ∈ l
  | [] => by simp [insU]
  | j :: r => by
    unfold insU
    split
    · simp
    · split
      · rename_i h
        subst h
        simp
      · simp only [List.mem_cons, mem_insU (l := r)]
        constructor
        · rintro (h | h | h)
          · exact .inr (.inl h)
          · exact .inl h
          · exact .inr (.inr h)
        · rintro (h | h | h)
          · exact .inr (.inl h)
          · exact .inl h
          · exact .inr (.inr h)
theorem insU_lt {i : Int} : ∀ {l : List Int}, l.Pairwise (· < ·) → (insU i l).Pairwise (· < ·)
  | [], _ => by simp [insU]
  | j :: r, h => by
    rw [List.pairwise_cons] at h
    unfold insU
    split
    · rename_i hi
      refine List.pairwise_cons.mpr ⟨fun y hy => ?_, List.pairwise_cons.mpr h⟩
      rcases List.mem_cons.mp hy with rfl | hy
      · exact hi
      · have := h.1 y hy
        omega
    · split
      · exact List.pairwise_cons.mpr h
      · refine List.pairwise_cons.mpr ⟨fun y hy => ?_, insU_lt h.2⟩
        rcases mem_insU.mp hy with rfl | hy
        · omega
        · exact h.1 y hy
theorem sortU_lt : ∀ l : List Int, (sortU l).Pairwise (· < ·)
  | [] => .nil
  | _ :: r => insU_lt (sortU_lt r)
theorem mem_sortU {k : Int} : ∀ {l : List Int}, k ∈ sortU l ↔ k ∈ l
  | [] => Iff.rfl
  | i :: r => by rw [sortU, mem_insU, mem_sortU (l := r), List.mem_cons]
theorem sorted_uniq : ∀ {l m : List Int}, l.Pairwise (· < ·) → m.Pairwise (· < ·) → (∀ k, k ∈ l ↔ k ∈ m) → l = m
  | [], [], _, _, _ => rfl
  | [], b :: m, _, _, h => by have := (h b).mpr List.mem_cons_self; cases this
  | a :: l, [], _, _, h => by have := (h a).mp List.mem_cons_self; cases this
  | a :: l, b :: m, hl, hm, h => by
    rw [List.pairwise_cons] at hl hm
    have e : a = b := by
      rcases List.mem_cons.mp ((h a).mp List.mem_cons_self) with e | e
      · exact e
      · rcases List.mem_cons.mp ((h b).mpr List.mem_cons_self) with e2 | e2
        · exact e2.symm
        · have := hl.1 b e2
          have := hm.1 a e
          omega
    subst e
    rw [sorted_uniq hl.2 hm.2 fun k => ?_]
    constructor
    · intro hk
      rcases List.mem_cons.mp ((h k).mp (List.mem_cons_of_mem _ hk)) with e | e
      · have := hl.1 k hk
        omega
      · exact e
    · intro hk
      rcases List.mem_cons.mp ((h k).mpr (List.mem_cons_of_mem _ hk)) with e | e
      · have := hm.1 k hk
        omega
      · exact e

/-! ### isinstance(x, T) -/
def Ty.name : Ty → String
  | .int => "int" | .bool => "bool" | .str => "str" | .list => "list" | .tuple => "tuple" | .dict => "dict"
def Tk.name : Tk → String
  | .non => "NoneType" | .bl => "bool" | .int => "int" | .str => "str" | .tup => "tuple" | .lst => "list" | .dic => "dict"
theorem kit_tk (k : Tk) (t : Ty) : kitB k.name t.name = some (subT k t) := by cases k <;> cases t <;> decide +kernel
theorem c_isi (t : Ty) : CallR X (.builtin "isinstance") (fun vs H Q => ∃ v, vs = [v, .ty t.name] ∧ rB X.K (fun ds h => match ds with | [d] => isiD h d t | _ => .no) [v] H Q) := by
  intro pins s σ H vs us Q I rs hh
  obtain ⟨v, rfl, L, f, h, ds, S, r, q0⟩ := hh
  obtain ⟨z, hz, q⟩ := rD_ok q0
  cases r with
  | @cons v vs d ds r t' =>
    cases t'
    replace hz : isiD h d t = .ok z := hz
    obtain ⟨k, e1, e2⟩ := bind_ok hz
    cases e2
    have ek := ofO_ok e1
    have ty : TyX X.K H v (.type k.name) := by
      rcases S.look r (fun i z => by rw [z] at ek; cases ek) (fun _ _ _ z => by rw [z] at ek; cases ek) with ⟨rd', e1, _⟩ | ⟨j, a, ds, vs, rfl, rfl, e1, e2, rr⟩
      · rw [e1] at ek
        cases rd' with
        | non => cases ek; exact .base .non
        | bl b => cases ek; exact .base (.bl _)
        | int i => cases ek; exact .base (.int _)
        | str => cases ek; exact .base (.str _)
        | tup ea =>
          cases ek
          rcases ea with (ea | ⟨o, ea⟩) | ⟨o, its, n, k1, k2, _⟩
          · exact .base (.tup ea)
          · exact .fTuple ea
          · exact .kTuple k1 k2
        | lst ea => cases ek; exact .base (.lst ea)
        | dic e => cases ek; exact .base (.dK e)
        | exc => cases ek
        | ins => cases ek
        | ref => cases ek
        | scr => cases ek
      · rw [e1] at ek
        cases ek
        exact .base (.lst e2)
    exact call_isi pins s σ H _ us Q I rs ⟨v, .ty t.name, .type k.name, .type t.name, subT k t, rfl, .ty _, ty, kit_ty (kit_tk k t), q H _ .refl S (.bl _)⟩

/-! ### methods -/
theorem joinS_eq (sep : List Nat) : ∀ ss : List (List Nat), joinS sep ss = TL.joinL sep ss
  | [] => rfl
  | [_] => rfl
  | x :: y :: r => by
    show x ++ (sep ++ joinS sep (y :: r)) = x ++ (sep ++ TL.joinL sep (y :: r))
    rw [joinS_eq sep (y :: r)]
theorem joinS_mem (sep : List Nat) {P : Nat → Prop} (hs : ∀ c ∈ sep, P c) : ∀ ss : List (List Nat), (∀ s ∈ ss, ∀ c ∈ s, P c) → ∀ c ∈ joinS sep ss, P c
  | [], _, c, hc => by simp [joinS] at hc
  | [x], h, c, hc => h x List.mem_cons_self c hc
  | x :: y :: r, h, c, hc => by
    rcases List.mem_append.mp hc with k | k
    · exact h x List.mem_cons_self c k
    · rcases List.mem_append.mp k with k | k
      · exact hs c k
      · exact joinS_mem sep hs (y :: r) (fun s h' => h s (List.mem_cons_of_mem _ h')) c k
theorem joinS_len (sep : List Nat) : ∀ ss : List (List Nat), (joinS sep ss).length ≤ (ss.map List.length).sum + ss.length * sep.length
  | [] => by simp [joinS]
  | [x] => by simp [joinS]
  | x :: y :: r => by
    have := joinS_len sep (y :: r)
    simp only [joinS, List.length_append, List.map_cons, List.sum_cons, List.length_cons] at this ⊢
    simp only [Nat.add_mul, Nat.one_mul] at this ⊢
    omega
theorem m_join : MtR X "str.join" (rM X.K (bmethD .join)) := by
  intro pins s σ H x vs v us Q I rx rs hh
  obtain ⟨L, f, h, d, ds, S, rd, r, q0⟩ := hh
  obtain ⟨z, hz, q⟩ := rM_ok q0
  replace hz : mJoin d ds h = .ok z := hz
  unfold mJoin at hz
  split at hz <;> try cases hz
  · rename_i sep ys
    obtain ⟨ss, e1, e2⟩ := bind_ok hz
    obtain ⟨hc, rfl⟩ := ofB_ok e2
    cases r with
    | cons r t =>
      cases t
      obtain ⟨rfl, o, _⟩ := rd.signs
      obtain ⟨a, ws, rfl, ea, _, _, rr⟩ := r.seqL
      obtain ⟨e3, o2⟩ := strs_rep rr (ofO_ok e1)
      have hz : (ss.map List.length).sum + ss.length * sep.length ≤ 16777216 := of_decide_eq_true hc
      rw [e3] at ea
      refine mt_join pins s σ H _ _ v us Q I rx rs ⟨_, a, _, rfl, rfl, .inl (.of ea), ?_, ?_⟩
      · rw [List.map_map, List.length_map, str_len]
        have e : ((fun x : Str => x.length) ∘ fun s : List Nat => (⟨s.toArray⟩ : Str)) = List.length := by
          funext z
          exact str_len z
        rw [e]
        exact hz
      · have e : Txt.join (⟨sep.toArray⟩ : Str) (ss.map fun s => (⟨s.toArray⟩ : Str)) = ⟨(joinS sep ss).toArray⟩ := by
          rw [TL.join_eq]
          have t := TL.tl_join (⟨sep.toArray⟩ : Str) (ss.map fun s => (⟨s.toArray⟩ : Str))
          have e5 : (ss.map fun s => (⟨s.toArray⟩ : Str)).map TL.tl = ss := by
            rw [List.map_map]
            have : (TL.tl ∘ fun s : List Nat => (⟨s.toArray⟩ : Str)) = id := by
              funext z
              simp [TL.tl]
            rw [this, List.map_id]
          rw [e5] at t
          rw [joinS_eq]
          have t2 : (Str.join (⟨sep.toArray⟩ : Str) (ss.map fun s => (⟨s.toArray⟩ : Str))).cps.toList = TL.joinL sep ss := by simpa [TL.tl] using t
          show Str.join _ _ = _
          rw [← t2]
        rw [e]
        exact q f H _ .refl S (.strOf (joinS_mem sep o ss o2) (by have := joinS_len sep ss; have := sizeLine_eq; omega))
theorem m_append : MtR X "list.append" (rM X.K (bmethD .append)) := by
  intro pins s σ H x vs v us Q I rx rs hh
  obtain ⟨L, f, h, d, ds, S, rd, r, q0⟩ := hh
  obtain ⟨z, hz, q⟩ := rM_ok q0
  replace hz : mAppend d ds h = .ok z := hz
  unfold mAppend at hz
  split at hz <;> try cases hz
  · rename_i i y
    split at hz <;> try cases hz
    rename_i ys ei
    obtain ⟨hc, rfl⟩ := ofB_ok hz
    obtain ⟨a, ws, e1, e3, rr⟩ := S.objL ei
    cases rd with
    | ref e4 =>
      rw [e1] at e4
      cases e4
      cases r with
      | cons r t =>
        cases t
        have hi : i < h.length := (List.getElem?_eq_some_iff.mp ei).1
        obtain ⟨l, S'⟩ := S.change hi e1 (rr.append (.cons r .nil))
        have hl : ys.length + 1 ≤ sizeLine := of_decide_eq_true hc
        exact mt_append pins s σ H _ _ v us Q I rx rs ⟨a, ws, _, rfl, rfl, e3, by rw [rr.length]; omega, q _ _ _ l S' .non⟩
theorem _root_.Z9.RepL.eraseIdx {K : PySem.W.Frag} {L : Addr → Prop} {f : List Addr} {H : Hp} : ∀ {vs : List V} {ds : List D} (n : Nat), RepL K L f H vs ds → RepL K L f H (vs.eraseIdx n) (ds.eraseIdx n)
  | _, _, _, .nil => by simpa using .nil
  | _, _, 0, .cons r t => by simpa using t
  | _, _, n + 1, .cons r t => by
    rw [List.eraseIdx_cons_succ, List.eraseIdx_cons_succ]
    exact .cons r (RepL.eraseIdx n t)
theorem m_pop : MtR X "list.pop" (rM X.K (bmethD .pop)) := by
  intro pins s σ H x vs v us Q I rx rs hh
  obtain ⟨L, f, h, d, ds, S, rd, r, q0⟩ := hh
  obtain ⟨z, hz, q⟩ := rM_ok q0
  replace hz : mPop d ds h = .ok z := hz
  unfold mPop at hz
  split at hz <;> try cases hz
  · rename_i i j
    split at hz <;> try cases hz
    rename_i ys ei
    split at hz <;> try cases hz
    rename_i hj
    split at hz <;> try cases hz
    rename_i y ey
    obtain ⟨a, ws, e1, e3, rr⟩ := S.objL ei
    cases rd with
    | ref e4 =>
      rw [e1] at e4
      cases e4
      cases r with
      | cons r t =>
        cases t
        cases r
        have hi : i < h.length := (List.getElem?_eq_some_iff.mp ei).1
        obtain ⟨l, S'⟩ := S.change hi e1 (rr.eraseIdx j.toNat)
        obtain ⟨w0, h1, h2⟩ := rr.get ey
        obtain ⟨_, _, _, hz⟩ := I.list (.of e3)
        rw [sizeLine_eq] at hz
        have hjl : j.toNat < ws.length := (List.getElem?_eq_some_iff.mp h1).1
        refine mt_popAt pins s σ H _ _ v us Q I rx rs ⟨a, _, j, j.toNat, _, rfl, rfl, e3, by omega, by omega, ?_, h1, q _ _ _ l S' (Rep.mono S l h2)⟩
        show seqIndex? j _ = some j.toNat
        unfold seqIndex?
        have hjl' : j < ws.length := by omega
        have hjn : ¬ j < 0 := by omega
        simp [hjn, hjl', hj]
  · rename_i i
    split at hz <;> try cases hz
    rename_i ys ei
    split at hz <;> try cases hz
    rename_i y ey
    obtain ⟨a, ws, e1, e3, rr⟩ := S.objL ei
    cases rd with
    | ref e4 =>
      rw [e1] at e4
      cases e4
      cases r
      have hi : i < h.length := (List.getElem?_eq_some_iff.mp ei).1
      have hd : RepL X.K L f H ws.dropLast ys.dropLast := by
        rw [List.dropLast_eq_take, List.dropLast_eq_take, rr.length]
        exact rr.take _
      obtain ⟨l, S'⟩ := S.change hi e1 hd
      rw [List.getLast?_eq_getElem?] at ey
      obtain ⟨w, h1, h2⟩ := rr.get ey
      exact mt_pop pins s σ H _ _ v us Q I rx rs ⟨a, ws, w, rfl, rfl, e3, by rw [rr.length]; exact h1, q _ _ _ l S' (Rep.mono S l h2)⟩
end
end Z9

set_option Elab.async false
set_option linter.all false
set_option maxRecDepth 100000
set_option maxHeartbeats 1000000
/-! E5: forms against the text, and what a form's evaluation asks. -/
namespace Z9
open PySem PySem.Spec PyProof.Rows L2

/-! ### a form stands for a text -/
/-- N: the def's names by place; nm: the names of the module by number -/
structure Mc where
  N : List Str
  nm : List Str
def isLoc (sc : Scope) (x : Str) : Bool := match sc.names.lookup x with
  | some .local => true
  | some .cell => true
  | some .free => true
  | _ => false
def isGl (sc : Scope) (x : Str) : Bool := match sc.names.lookup x with
  | some .globalImplicit => true
  | _ => false
/-- a name that is stored to; k: a captured one too -/
def isSt (k : Bool) (sc : Scope) (x : Str) : Bool := match sc.names.lookup x with
  | some .local => true
  | some .cell => k
  | _ => false
def okNm (x : Str) : Bool := !(x == ("__debug__" : Str)) && !(x == ("__classdict__" : Str)) && !(x == ("__name__" : Str))
def okC (d : D) (c : Const) : Bool := match d, c with
  | .non, .none => true
  | .bl a, .bool b => a == b
  | .int a, .int b => a == b
  | .str s, .str x => x == ⟨s.toArray⟩ && PySem.PyData.strOk x && decide (s.length ≤ 1000)
  | _, _ => false
def BF.nm : BF → Str
  | .len => "len" | .abs => "abs" | .int => "int" | .sum => "sum" | .all => "all" | .any => "any" | .list => "list" | .tuple => "tuple" | .max => "max"
def BM.nm : BM → Str
  | .join => "join" | .pop => "pop" | .append => "append"
def Ty.nm (t : Ty) : Str := t.name
def noSlice : Expr → Bool
  | .Slice .. => false
  | _ => true
def noSuper : Expr → Bool
  | .Call (.Name x _) [] [] _ => !(x == ("super" : Str))
  | _ => true
def glName (sc : Scope) (x y : Str) : Bool := x == y && isGl sc x && okNm x
mutual
/-- the places that a target stores to are among these -/
def tgIn : Tg → List Nat → Bool
  | .var i, vs => decide (i ∈ vs)
  | .tup ts, vs => tgsIn ts vs
def tgsIn : Tgs → List Nat → Bool
  | .nil, _ => true
  | .cons t ts, vs => tgIn t vs && tgsIn ts vs
end
mutual
def mE (C : Mc) (sc : Scope) : Ex → Expr → Bool
  | .var i, .Name x _ => decide (C.N[i]? = some x) && isLoc sc x && okNm x
  | .con d, .Constant c _ _ => okC d c
  | .glob k, .Name x _ => decide (C.nm[k]? = some x) && isGl sc x && okNm x
  | .dic0, .Dict [] [] _ => true
  | .dicc s i, .Dict [some (.Constant c _ _)] [.Constant d _ _] _ => okC (.str s) c && okC (.int i) d
  | .fld a n, .Attribute x m _ => noSuper x && decide (n = m) && mE C sc a x
  | .isc a k, .Call (.Name f _) [x, .Name y _] [] _ => glName sc f "isinstance" && decide (C.nm[k]? = some y) && isGl sc y && okNm y && mE C sc a x
  | .new k es, .Call (.Name x _) xs [] _ => decide (C.nm[k]? = some x) && isGl sc x && okNm x && mEs C sc es xs
  | .meth a m es, .Call (.Attribute o n p) xs [] q => noSuper o && decide (n = m) && p.endLine == q.line && mE C sc a o && mEs C sc es xs && decide (xs.length < 7)
  | .mkx k es, .Call (.Name x _) xs [] _ => decide (C.nm[k]? = some x) && isGl sc x && okNm x && mEs C sc es xs
  | .tup es, .Tuple xs _ _ => mEs C sc es xs
  | .lst es, .List xs _ => mEs C sc es xs
  | .newl es, .List xs _ => mEs C sc es xs
  | .bin o a b, .BinOp x o' y _ => decide (o = o') && mE C sc a x && mE C sc b y
  | .neg a, .UnaryOp .USub x _ => mE C sc a x
  | .cmp o a b, .Compare x [o'] [y] _ => decide (o = o') && !behindInMarks o' y && mE C sc a x && mE C sc b y
  | .cmp2 o p a b c, .Compare x [o', p'] [y, z] _ => decide (o = o') && decide (p = p') && !lastMarks [o', p'] [y, z] && mE C sc a x && mE C sc b y && mE C sc c z
  | .isn a, .Compare x [.Is] [.Constant .none _ _] _ => mE C sc a x
  | .notn a, .Compare x [.IsNot] [.Constant .none _ _] _ => mE C sc a x
  | .and es, .BoolOp .And xs _ => mEs C sc es xs
  | .or es, .BoolOp .Or xs _ => mEs C sc es xs
  | .not a, .UnaryOp .Not x _ => mE C sc a x
  | .ife c a b, .IfExp x y z _ => mE C sc c x && mE C sc a y && mE C sc b z
  | .ix a i, .Subscript x y _ => noSlice y && mE C sc a x && mE C sc i y
  | .sl a lo hi, .Subscript x (.Slice l u none _) _ => mE C sc a x && mO C sc lo l && mO C sc hi u
  | .isi a t, .Call (.Name f _) [x, .Name y _] [] _ => glName sc f "isinstance" && glName sc y t.nm && mE C sc a x
  | .bcall f es, .Call (.Name x _) (y :: ys) [] _ => glName sc x f.nm && mEs C sc es (y :: ys)
  | .bmeth m a es, .Call (.Attribute o n p) xs [] q => noSuper o && decide (n = m.nm) && p.endLine == q.line && mE C sc a o && mEs C sc es xs && decide (xs.length < 5)
  | .call k es, .Call (.Name x _) xs [] _ => decide (C.nm[k]? = some x) && isGl sc x && okNm x && mEs C sc es xs
  | .lof e, .Call (.Name x _) [y] [] _ => glName sc x "list" && mE C sc e y
  | .lor _ e, .Call (.Name x _) [.Call (.Name r _) [y] [] _] [] _ => glName sc x "list" && glName sc r "range" && mE C sc e y
  | .sset e, .Call (.Name x _) [.Call (.Name r _) [y] [] _] [] _ => glName sc x "sorted" && glName sc r "set" && mE C sc e y
  | .inr neg a b, .Compare x [o'] [y] _ => decide (o' = if neg then .NotIn else .In) && !behindInMarks o' y && mE C sc a x && mE C sc b y
  | .lcv _ elt t it ifs own, .ListComp e [⟨tg, iter, fs, 0⟩] scope _ => tgIn t own && blkC C.N sc scope (own.map fun i => (C.N.getD i Str.empty, i)) && own.all (fun i => decide (i < C.N.length)) && mE C sc it iter && mT C false (relS scope sc) t tg && decide (fs.length ≤ 1) && mEs C (relS scope sc) ifs fs && mE C (relS scope sc) elt e
  | .lc _ elt t it ifs own, .ListComp e [⟨tg, iter, fs, 0⟩] scope _ => tgIn t own && blkC C.N sc scope (own.map fun i => (C.N.getD i Str.empty, i)) && own.all (fun i => decide (i < C.N.length)) && mI C sc it iter && mT C false (relS scope sc) t tg && decide (fs.length ≤ 1) && mEs C (relS scope sc) ifs fs && mE C (relS scope sc) elt e
  | _, _ => false
def mEs (C : Mc) (sc : Scope) : Exs → List Expr → Bool
  | .nil, [] => true
  | .cons e es, x :: xs => mE C sc e x && mEs C sc es xs
  | _, _ => false
def mO (C : Mc) (sc : Scope) : Ox → Option Expr → Bool
  | .none, none => true
  | .some e, some x => mE C sc e x
  | _, _ => false
def mI (C : Mc) (sc : Scope) : It → Expr → Bool
  | .seq e, x => mE C sc e x
  | .range e, .Call (.Name x _) [y] [] _ => glName sc x "range" && mE C sc e y
  | .range2 a b, .Call (.Name x _) [y, z] [] _ => glName sc x "range" && mE C sc a y && mE C sc b z
  | _, _ => false
def mT (C : Mc) (k : Bool) (sc : Scope) : Tg → Expr → Bool
  | .var i, .Name x _ => decide (C.N[i]? = some x) && okNm x && isSt k sc x
  | .tup ts, .Tuple xs _ _ => mTs C k sc ts xs
  | _, _ => false
def mTs (C : Mc) (k : Bool) (sc : Scope) : Tgs → List Expr → Bool
  | .nil, [] => true
  | .cons t ts, x :: xs => mT C k sc t x && mTs C k sc ts xs
  | _, _ => false
end

/-- never a starred one, a set's display, a slice -/
theorem mE_plain {C : Mc} {sc : Scope} : ∀ {e : Ex} {x : Expr}, mE C sc e x = true → (∀ a p, x ≠ .Starred a p) ∧ (∀ a k p, x ≠ .Set a k p) ∧ ∀ a b c p, x ≠ .Slice a b c p := by
  intro e x h
  refine ⟨?_, ?_, ?_⟩ <;> (intros; rintro rfl; cases e <;> simp [mE] at h)
theorem star_cons {x : Expr} {xs : List Expr} {env : PySem.Env} (h : ∀ a p, x ≠ .Starred a p) : starEach (x :: xs) env = (false, eval x env) :: starEach xs env := by
  cases x <;> first
    | rfl
    | exact absurd rfl (h _ _)
theorem mEs_star {C : Mc} {sc : Scope} {env : PySem.Env} : ∀ {es : Exs} {xs : List Expr}, mEs C sc es xs = true → ∀ pos, (backTo pos (starEach xs env)).any (·.1) = false
  | .nil, [], _, _ => rfl
  | .nil, _ :: _, h, _ => by simp [mEs] at h
  | .cons _ _, [], h, _ => by simp [mEs] at h
  | .cons e es, x :: xs, h, pos => by
    simp only [mEs, Bool.and_eq_true] at h
    rw [star_cons (mE_plain h.1).1]
    exact mEs_star (es := es) h.2 pos

/-! ### what an evaluation asks -/
/-- what an error carries -/
def XD (K : PySem.W.Frag) (L : Addr → Prop) (f : List Addr) (H : Hp) (cv : Value) (xs : List D) (dd : Option Addr) : Prop := match xs with
  | [.exc c ns ds] => ∃ (C : Addr) (vs : List V), cv = .ref C ∧ clsNm K C = some c ∧ ExD L f H dd (ns.zip vs) ∧ ns.length = vs.length ∧ RepL K L f H vs ds
  | _ => True
/-- what has become, and R of it -/
def PostR (K : PySem.W.Frag) (L : Addr → Prop) (f : List Addr) (H : Hp) (ca : Nat → Value) (WE : Value → Option Addr → Hp → Prop) {α : Type} (res : Res (α × Hh)) (R : α → List Addr → Hh → Hp → Prop) : Prop :=
  match res with
  | .ok p => ∀ (f' : List Addr) (H' : Hp), Le f H f' H' → SRel K L f' p.2 H' → R p.1 f' p.2 H'
  | .exc c xs h' => ∀ (f' : List Addr) (H' : Hp) (dd : Option Addr), Le f H f' H' → SRel K L f' h' H' → XD K L f' H' (ca c) xs dd → WE (ca c) dd H'
  | .no => False
section
variable {K : PySem.W.Frag} {L : Addr → Prop} {f : List Addr} {h : Hh} {H : Hp} {ca : Nat → Value} {WE : Value → Option Addr → Hp → Prop} {α β : Type} {res : Res (α × Hh)} {R R' : α → List Addr → Hh → Hp → Prop}
theorem PostR.mono (p : PostR K L f H ca WE res R) (hm : ∀ a f' h' H', Le f H f' H' → SRel K L f' h' H' → R a f' h' H' → R' a f' h' H') : PostR K L f H ca WE res R' := by
  cases res with
  | ok q => exact fun f' H' l S => hm _ _ _ _ l S (p f' H' l S)
  | exc c xs h' => exact p
  | no => exact p
theorem PostR.bind {g : α × Hh → Res (β × Hh)} {R : β → List Addr → Hh → Hp → Prop} (S : SRel K L f h H) (p : PostR K L f H ca WE (res.bind g) R) :
    PostR K L f H ca WE res fun a f1 h1 H1 => PostR K L f1 H1 ca WE (g (a, h1)) R := by
  cases res with
  | ok q =>
    intro f1 H1 l1 S1
    show PostR K L f1 H1 ca WE (g (q.1, q.2)) R
    have p' : PostR K L f H ca WE (g (q.1, q.2)) R := p
    revert p'
    cases g (q.1, q.2) with
    | ok z => exact fun p' f2 H2 l2 S2 => p' f2 H2 (Le.trans S S1 l1 l2) S2
    | exc c xs h' => exact fun p' f2 H2 dd l2 S2 => p' f2 H2 dd (Le.trans S S1 l1 l2) S2
    | no => exact fun p' => p'
  | exc c xs h' => exact p
  | no => exact p
/-- from further on -/
theorem PostR.later {f' : List Addr} {h' : Hh} {H' : Hp} (S : SRel K L f h H) (S' : SRel K L f' h' H') (l : Le f H f' H') (p : PostR K L f H ca WE res R) : PostR K L f' H' ca WE res R := by
  cases res with
  | ok q => exact fun f2 H2 l2 S2 => p f2 H2 (Le.trans S S' l l2) S2
  | exc c xs h' => exact fun f2 H2 dd l2 S2 => p f2 H2 dd (Le.trans S S' l l2) S2
  | no => exact p
/-- here and now -/
theorem PostR.here {a : α} (S : SRel K L f h H) (p : PostR K L f H ca WE (.ok (a, h)) R) : R a f h H := p f H .refl S
/-- a step that is no state -/
theorem PostR.pureBind {γ : Type} {m : Res γ} {g : γ → Res (α × Hh)} (p : PostR K L f H ca WE (m.bind g) R) (hm : ∀ c xs h', m ≠ .exc c xs h') : ∃ z, m = .ok z ∧ PostR K L f H ca WE (g z) R := by
  cases m with
  | ok z => exact ⟨z, rfl, p⟩
  | exc c xs h' => exact absurd rfl (hm _ _ _)
  | no => exact p.elim
end

/-- the places -/
structure SlR (K : PySem.W.Frag) (L : Addr → Prop) (f : List Addr) (H : Hp) (r : Z9.Env) (σ : L2.St) : Prop where
  len : r.length = σ.length
  at_ : ∀ (i : Nat) (d : D), r[i]? = some (some d) → ∃ v, σ[i]? = some (some v) ∧ Rep K L f H v d
theorem SlR.mono {K : PySem.W.Frag} {L L0 : Addr → Prop} {f f' : List Addr} {h : Hh} {H H' : Hp} {r : Z9.Env} {σ : L2.St} (S : SRel K L0 f h H) (l : Le f H f' H') (s : SlR K L f H r σ) : SlR K L f' H' r σ :=
  ⟨s.len, fun i d e => let ⟨v, a, b⟩ := s.at_ i d e; ⟨v, a, b.mono S l⟩⟩

section
variable (K : PySem.W.Frag) (ca : Nat → Value) (W : WX) (G : Gam)
/-- the reading of a form -/
def tE (e : Ex) : TE := fun σ H Q => ∃ (L : Addr → Prop) (f : List Addr) (r : Z9.Env) (h : Hh), SRel K L f h H ∧ SlR K L f H r σ ∧
  PostR K L f H ca (fun c d H' => W c d σ H') (evE G e r h) fun d f' _ H' => ∀ v, Rep K L f' H' v d → Q v H'
def tT (e : Ex) : TT := fun σ H Q => ∃ (L : Addr → Prop) (f : List Addr) (r : Z9.Env) (h : Hh), SRel K L f h H ∧ SlR K L f H r σ ∧
  PostR K L f H ca (fun c d H' => W c d σ H') ((evE G e r h).bind fun p => (boolD p.1).bind fun t => .ok (t, p.2)) fun b _ _ H' => Q b H'
def tEs (es : Exs) : TA := fun σ H Q => ∃ (L : Addr → Prop) (f : List Addr) (r : Z9.Env) (h : Hh), SRel K L f h H ∧ SlR K L f H r σ ∧
  PostR K L f H ca (fun c d H' => W c d σ H') (evEs G es r h) fun ds f' _ H' => ∀ vs, RepL K L f' H' vs ds → Q vs H'
def tTs (es : Exs) : TT := fun σ H Q => ∃ (L : Addr → Prop) (f : List Addr) (r : Z9.Env) (h : Hh), SRel K L f h H ∧ SlR K L f H r σ ∧
  PostR K L f H ca (fun c d H' => W c d σ H') (evTs G es r h) fun b _ _ H' => Q b H'
def tO (e : Ox) : TO := fun σ H Q => ∃ (L : Addr → Prop) (f : List Addr) (r : Z9.Env) (h : Hh), SRel K L f h H ∧ SlR K L f H r σ ∧
  PostR K L f H ca (fun c d H' => W c d σ H') (evO G e r h) fun o _ _ H' => Q o H'
/-- an iterator goes through data -/
def WalkD (L : Addr → Prop) (f0 : List Addr) (H0 : Hp) (xs : List D) (J : L2.It) : Prop := ∃ (Gd : Hp → Prop) (Y : Nat → Hp → V → Hp → Prop), Walk J xs.length Gd Y ∧
  (∀ L1 f h H, Lw L H0 L1 → Le f0 H0 f H → SRel K L1 f h H → Gd H) ∧
  ∀ L1 i f h H x H', i < xs.length → Lw L H0 L1 → Le f0 H0 f H → SRel K L1 f h H → Y i H x H' → ∃ d, xs[i]? = some d ∧ Le f H f H' ∧ SRel K L1 f h H' ∧ Rep K L1 f H' x d
def tI (it : Z9.It) : TI := fun σ H R => ∃ (L : Addr → Prop) (f : List Addr) (r : Z9.Env) (h : Hh), SRel K L f h H ∧ SlR K L f H r σ ∧
  PostR K L f H ca (fun c d H' => W c d σ H') (evI G it r h) fun xs f' _ H' => ∀ J, WalkD K L f' H' xs J → R J H'
/-- what a def promises: n arguments, g -/
def spG (n : Nat) (g : List D → Hh → Res (D × Hh)) : Sp := fun vs H Q E => vs.length = n ∧ ∃ (L : Addr → Prop) (f : List Addr) (h : Hh) (ds : List D), SRel K L f h H ∧ RepL K L f H vs ds ∧
  PostR K L f H ca E (g ds h) fun d f' _ H' => ∀ v, Rep K L f' H' v d → Q v H'
end

/-- the names of built-in things that the module leaves -/
def bnames : List Str := ["len", "abs", "int", "sum", "all", "any", "list", "tuple", "min", "max", "sorted", "str", "range", "enumerate", "zip", "isinstance", "bool", "dict", "set"]
/-- a class of errors that is made -/
def MkcAt (P : Program) (w : World) (K : PySem.W.Frag) (mg : Str → Option Value) (base : Heap) (lv : Nat) (cv : Value) (x : Str) (c : Str) : Option Str → Prop
  | none => ∃ (C : Addr) (bmB : List Value) (B newId initId : String), ExcBaseFacts B newId initId bmB ∧ PySem.W.excIn K C bmB newId = true ∧ mg x = some (.ref C) ∧ PySem.W.keepIn K (.ref C) = true ∧ PySem.W.subIn K (.ref C) (.type "BaseException") = some true ∧ PySem.W.typeIn K (.ref C) = some (.type "type") ∧ clsNm K C = some c ∧ cv = .ref C
  | some f => 2 ≤ lv ∧ ∃ (C fI : Addr) (fd : FuncData) (ps : List Str), OexC K C ∧ PySem.W.findIn K (.ref C) "__init__" = some (some (.ref fI)) ∧ PySem.W.typeIn K (.ref fI) = some (.type "function") ∧ FnOk P w K mg base (L2.CX P w) 1 fI fd ps (spI C f) ∧ Binds K fd ps [] ∧ mg x = some (.ref C) ∧ clsNm K C = some c ∧ cv = .ref C
/-- what is known of the named things -/
structure GOk (nm : List Str) (ca : Nat → Value) (G : Gam) (lv : Nat) (P : Program) (w : World) (K : PySem.W.Frag) (mg : Str → Option Value) (base : Heap) : Prop where
  fn : ∀ k n g x, G.fn k = some (n, g) → nm[k]? = some x → ∃ (fa : Addr) (fd : FuncData) (ps : List Str), mg x = some (.ref fa) ∧ PySem.W.keepIn K (.ref fa) = true ∧ Binds K fd ps [] ∧ ps.length = n ∧ FnOk P w K mg base (L2.CX P w) lv fa fd ps (spG K ca n g)
  con : ∀ k d x, G.con k = some d → nm[k]? = some x → ∃ v u, mg x = some u ∧ RelV v u ∧ ∀ L f H, Rep K L f H v d
  blt : ∀ x ∈ bnames, mg x = none
  mkc : ∀ k x c o, G.mkc k = some (c, o) → nm[k]? = some x → MkcAt P w K mg base lv (ca k) x c o
  esub : ∀ k x, (∃ c b, G.esub c k = some b) → nm[k]? = some x → ∃ v cv, ClsV v cv ∧ RelV v cv ∧ (mg x = some cv ∨ (mg x = none ∧ bootBuiltins x = some cv)) ∧ ∀ c b C, G.esub c k = some b → clsNm K C = some c → EcK K C ∧ PySem.W.kitOne K (.ref C) cv = some b
  ini : ∀ k n c g x, G.ini k = some (n, c, g) → nm[k]? = some x → ∃ (j : Nat) (C f : Addr) (fd : FuncData) (ps : List Str), j + 1 ≤ lv ∧ Mk K C f ∧ mg x = some (.ref C) ∧ clsNm K C = some c ∧ Binds K fd ps [] ∧ ps.length = n + 1 ∧ FnOk P w K mg base (L2.CX P w) j f fd ps (spG K ca (n + 1) g)
  mth : ∀ c m n g C, G.mth c m = some (n, g) → clsNm K C = some c → ∃ (f : Addr) (fd : FuncData) (ps : List Str), Cls K C ∧ Meth K C m f ∧ Binds K fd ps [] ∧ ps.length = n + 1 ∧ FnOk P w K mg base (L2.CX P w) lv f fd ps (spG K ca (n + 1) g)
  ifl : ∀ c n C, G.ifl c n = true → clsNm K C = some c → Cls K C ∧ NoAttr K C n
  efl : ∀ c n C, G.efl c n = true → clsNm K C = some c → XfC K C ∧ PySem.W.findIn K (.ref C) n = some none
/-- where a form is read -/
structure COk (nm : List Str) (ca : Nat → Value) (G : Gam) (lv : Nat) (N : List Str) (sc : Scope) (X : Cx) : Prop where
  N : X.N = N
  nd : X.N.Nodup
  sc : X.env.scope = sc
  calm : X.calm = true
  room : Room lv X.A
  gam : GOk nm ca G lv X.prog X.w X.K X.mg X.base
theorem COk.hu {nm : List Str} {ca : Nat → Value} {G : Gam} {lv : Nat} {N : List Str} {sc : Scope} {X : Cx} (c : COk nm ca G lv N sc X) : X.A.units + 65 < cLine := by
  have := c.room.un
  omega
end Z9

set_option Elab.async false
set_option linter.all false
set_option maxRecDepth 100000
set_option maxHeartbeats 4000000
/-! E6: a form's evaluation is the text's. -/
namespace Z9
open PySem PySem.Spec PyProof.Rows L2

theorem PEm {X : Cx} {e : Expr} {t t' : TE} (h : PE X e t) (k : ∀ σ H Q, t' σ H Q → t σ H Q) : PE X e t' := ⟨fun pins s σ H Q I q => h.run pins s σ H Q I (k σ H Q q)⟩
theorem PTm {X : Cx} {e : Expr} {t t' : TT} (h : PT X e t) (k : ∀ σ H Q, t' σ H Q → t σ H Q) : PT X e t' := ⟨fun pins s σ H Q I q => h.run pins s σ H Q I (k σ H Q q)⟩
theorem PAm {X : Cx} {e : List Expr} {t t' : TA} (h : PA X e t) (k : ∀ σ H Q, t' σ H Q → t σ H Q) : PA X e t' := ⟨fun pos pins s σ H Q I q => h.run pos pins s σ H Q I (k σ H Q q)⟩

section
variable {nm : List Str} {ca : Nat → Value} {G : Gam} {lv : Nat} {N : List Str} {sc : Scope} {X : Cx} {W : WX}
theorem isLoc_vis {x : Str} (h : isLoc sc x = true) : Vis sc x := by
  unfold isLoc at h
  unfold Vis
  split at h
  · rename_i e; exact .inl e
  · rename_i e; exact .inr (.inl e)
  · rename_i e; exact .inr (.inr e)
  · cases h
theorem isGl_gl (c : COk nm ca G lv N sc X) {x : Str} (h : isGl sc x = true) : Gl X x := by
  unfold isGl at h
  split at h
  · rename_i e
    show X.env.kindOf x = _
    unfold PySem.Env.kindOf
    rw [c.sc]
    exact e
  · cases h
theorem okNm_of {x : Str} (h : okNm x = true) : (x == ("__debug__" : Str)) = false ∧ (x == ("__classdict__" : Str)) = false ∧ x ≠ ("__name__" : Str) := by
  unfold okNm at h
  simp only [Bool.and_eq_true, Bool.not_eq_true'] at h
  exact ⟨h.1.1, h.1.2, by intro e; rw [e] at h; exact absurd h.2 (by simp)⟩
/-- the state of a reading that is asked again -/
theorem tE_of {e : Ex} {σ : L2.St} {H : Hp} {Q : VK} {L : Addr → Prop} {f : List Addr} {r : Z9.Env} {h : Hh} (S : SRel X.K L f h H) (sl : SlR X.K L f H r σ)
    (p : PostR X.K L f H ca (fun c d H' => W c d σ H') (evE G e r h) fun d f' _ H' => ∀ v, Rep X.K L f' H' v d → Q v H') : tE X.K ca W G e σ H Q := ⟨L, f, r, h, S, sl, p⟩

theorem boolD_ok {d : D} {b : Bool} (h : boolD d = .ok b) : d = .bl b := by
  cases d <;> simp [boolD] at h
  rw [h]
theorem boolD_exc {d : D} : ∀ c xs h', boolD d ≠ .exc c xs h' := by intro c xs h'; cases d <;> simp [boolD]
theorem ofO_exc {α : Type} {o : Option α} : ∀ c xs h', ofO o ≠ .exc c xs h' := by intro c xs h'; cases o <;> simp [ofO]
theorem ofB_exc {α : Type} {b : Bool} {a : α} : ∀ c xs h', ofB b a ≠ .exc c xs h' := by intro c xs h'; cases b <;> simp [ofB]
theorem getV_exc {r : Z9.Env} {i : Nat} : ∀ c xs h', getV r i ≠ .exc c xs h' := by
  intro c xs h'
  unfold getV
  split <;> simp
theorem getV_ok {r : Z9.Env} {i : Nat} {d : D} (h : getV r i = .ok d) : r[i]? = some (some d) := by
  unfold getV at h
  split at h
  · rename_i e; cases h; exact e
  · cases h

/-- an operation by values, behind two readings -/
theorem bin_go {a b : Ex} {g : D → D → Hh → Res D} (hg : ∀ d e h c xs h', g d e h ≠ .exc c xs h') {σ : L2.St} {H : Hp} {Q : VK} {L : Addr → Prop} {f : List Addr} {r : Z9.Env} {h : Hh} (S : SRel X.K L f h H) (sl : SlR X.K L f H r σ)
    (p : PostR X.K L f H ca (fun c d H' => W c d σ H') ((evE G a r h).bind fun p => (evE G b r p.2).bind fun q => (g p.1 q.1 q.2).bind fun d => .ok (d, q.2)) fun d f' _ H' => ∀ v, Rep X.K L f' H' v d → Q v H') :
    tOp (rD X.K g) (tE X.K ca W G a) (tE X.K ca W G b) σ H Q := by
  refine tE_of S sl ((p.bind S).mono fun d f1 h1 H1 l1 S1 p1 v rv => ?_)
  refine tE_of S1 (sl.mono S l1) ((p1.bind S1).mono fun e f2 h2 H2 l2 S2 p2 w rw => ?_)
  obtain ⟨z, ez, p3⟩ := p2.pureBind (hg _ _ _)
  refine ⟨L, f2, h2, d, e, S2, rv.mono S1 l2, rw, ?_⟩
  have ez : g d e h2 = .ok z := ez
  rw [ez]
  exact fun H' v l S' rv => p3 f2 H' l S' v rv
theorem binD_exc (o : Operator) (d e : D) (h : Hh) : ∀ c xs h', (fun x y (_ : Hh) => binD o x y) d e h ≠ .exc c xs h' := by
  intro c xs h'
  show binD o d e ≠ _
  unfold binD
  split <;> first | exact ofB_exc _ _ _ | simp
theorem eqT_exc (d e : D) : ∀ c xs h', eqT d e ≠ .exc c xs h' := by
  intro c xs h'
  unfold eqT
  split
  · exact ofB_exc _ _ _
  · simp
theorem cmpD_exc (o : CmpOp) (d e : D) (h : Hh) : ∀ c xs h', (fun x y (_ : Hh) => cmpD o x y) d e h ≠ .exc c xs h' := by
  intro c xs h'
  show cmpD o d e ≠ _
  unfold cmpD
  split <;> first
    | exact ofB_exc _ _ _
    | (split <;> first | exact ofB_exc _ _ _ | exact eqT_exc _ _ _ _ _ | (simp; done))
    | simp
theorem map_exc {α : Type} {o : Option α} : ∀ c xs h', ofO o ≠ .exc c xs h' := ofO_exc
theorem fldD_exc (G : Gam) (h : Hh) (x : D) (n : Str) : ∀ c xs h', fldD G h x n ≠ .exc c xs h' := by
  intro c xs h'
  unfold fldD
  split
  · split
    · exact ofO_exc _ _ _
    · simp
  · split
    · split
      · exact ofO_exc _ _ _
      · simp
    · simp
theorem setfD_exc (G : Gam) (h : Hh) (x : D) (n : Str) (v : D) : ∀ c xs h', setfD G h x n v ≠ .exc c xs h' := by
  intro c xs h'
  unfold setfD
  split
  · split
    · split <;> simp
    · simp
  · simp
theorem putN_rep {K : PySem.W.Frag} {L : Addr → Prop} {f : List Addr} {H : Hp} {n : Str} {v : V} {d : D} (rv : Rep K L f H v d) : ∀ {ns : List Str} {vs : List V} {ds : List D}, ns.length = vs.length → RepL K L f H vs ds → ∃ ws, putF n v (ns.zip vs) = (putN n d ns ds).1.zip ws ∧ (putN n d ns ds).1.length = ws.length ∧ RepL K L f H ws (putN n d ns ds).2
  | [], vs, ds, l, r => by
    cases vs with
    | cons _ _ => simp at l
    | nil =>
      cases r
      exact ⟨[v], rfl, rfl, .cons rv .nil⟩
  | m :: ns, [], _, l, _ => by simp at l
  | m :: ns, v0 :: vs, d0 :: ds, l, .cons r t => by
    have e : putF n v ((m, v0) :: ns.zip vs) = if m = n then (m, v) :: ns.zip vs else (m, v0) :: putF n v (ns.zip vs) := rfl
    rw [List.zip_cons_cons, e]
    unfold putN
    by_cases z : m = n
    · rw [if_pos z, if_pos z]
      exact ⟨v :: vs, rfl, by simpa using l, .cons rv t⟩
    · rw [if_neg z, if_neg z]
      obtain ⟨ws, e1, e2, e3⟩ := putN_rep (n := n) rv (by simpa using l) t
      exact ⟨v0 :: ws, by rw [e1]; rfl, by simpa using e2, .cons r e3⟩
theorem iscD_exc (G : Gam) (x : D) (k : Nat) : ∀ c xs h', iscD G x k ≠ .exc c xs h' := by
  intro c xs h'
  unfold iscD
  split
  · cases G.esub _ k <;> simp [ofO]
  · simp
theorem mkxD_exc (m : Str × Option Str) (xs : List D) : ∀ c ys h', mkxD m xs ≠ .exc c ys h' := by
  intro c ys h'
  unfold mkxD
  split <;> simp
theorem zip_look {K : PySem.W.Frag} {L : Addr → Prop} {f : List Addr} {H : Hp} {n : Str} {y : D} : ∀ {ns : List Str} {vs : List V} {ds : List D}, ns.length = vs.length → RepL K L f H vs ds → (ns.zip ds).lookup n = some y → ∃ v, (ns.zip vs).lookup n = some v ∧ Rep K L f H v y
  | [], _, _, _, _, e => by simp at e
  | _ :: _, [], _, l, _, _ => by simp at l
  | m :: ns, v :: vs, _, l, .cons r t, e => by
    rw [List.zip_cons_cons, List.lookup_cons] at e ⊢
    cases hb : n == m with
    | true =>
      rw [hb] at e
      cases e
      exact ⟨v, rfl, r⟩
    | false =>
      rw [hb] at e
      exact zip_look (by simpa using l) t e
theorem ixD_exc (d e : D) (h : Hh) : ∀ c xs h', (fun x y h => ixD h x y) d e h ≠ .exc c xs h' := by
  intro c xs h'
  show ixD h d e ≠ _
  unfold ixD
  split <;> first
    | exact ofO_exc _ _ _
    | simp
theorem slD_exc (h : Hh) (d : D) (lo hi : Option Int) : ∀ c xs h', slD h d lo hi ≠ .exc c xs h' := by
  intro c xs h'
  unfold slD
  split <;> simp
theorem bindC_exc {α β : Type} {x : Res α} {g : α → Res β} (h1 : ∀ c xs h', x ≠ .exc c xs h') (h2 : ∀ a c xs h', g a ≠ .exc c xs h') : ∀ c xs h', x.bind g ≠ .exc c xs h' := by
  intro c xs h'
  cases x with
  | ok a => exact h2 a c xs h'
  | exc c2 x2 h2 => exact absurd rfl (h1 c2 x2 h2)
  | no => simp
theorem bList_exc (xs : List D) (h : Hh) : ∀ c ys h', bList xs h ≠ .exc c ys h' := by
  intro c ys h'
  unfold bList
  split
  · split <;> simp
  · simp
theorem bTup_exc (xs : List D) (h : Hh) : ∀ c ys h', bTup xs h ≠ .exc c ys h' := by
  intro c ys h'
  unfold bTup
  split
  · split <;> simp
  · simp
theorem maxO_exc (x : Option (List Int)) : ∀ c ys h', maxO x ≠ .exc c ys h' := by
  intro c ys h'
  unfold maxO
  split <;> simp
theorem bMax_exc (xs : List D) (h : Hh) : ∀ c ys h', bMax xs h ≠ .exc c ys h' := by
  intro c ys h'
  unfold bMax
  split
  · split
    · exact maxO_exc _ _ _ _
    · exact maxO_exc _ _ _ _
    · simp
  · simp
theorem ssetD_exc (x : D) : ∀ c ys h', ssetD x ≠ .exc c ys h' := by
  intro c ys h'
  unfold ssetD
  split
  · exact bindC_exc ofO_exc (fun _ => ofB_exc) _ _ _
  · simp
theorem bcallD_exc (f : BF) (xs : List D) (h : Hh) : ∀ c ys h', bcallD f xs h ≠ .exc c ys h' := by
  intro c ys h'
  cases f <;> simp only [bcallD, bLen, bAbs, bInt, bSum, bAll, bAny] <;> first
    | exact bList_exc _ _ _ _ _
    | exact bTup_exc _ _ _ _ _
    | exact bMax_exc _ _ _ _ _
    | (split <;> first
        | (split <;> simp)
        | exact bindC_exc ofO_exc (by intros; simp) _ _ _
        | simp)
    | simp
theorem mPop_exc (x : D) (xs : List D) (h : Hh) : ∀ c ys h', mPop x xs h ≠ .exc c ys h' := by
  intro c ys h'
  unfold mPop
  split
  · split
    · split
      · split <;> simp
      · simp
    · simp
  · split
    · split <;> simp
    · simp
  · simp
theorem bmethD_exc (m : BM) (x : D) (xs : List D) (h : Hh) : ∀ c ys h', bmethD m x xs h ≠ .exc c ys h' := by
  intro c ys h'
  cases m <;> simp only [bmethD, mJoin, mAppend] <;> first
    | exact mPop_exc _ _ _ _ _ _
    | (split <;> first
        | exact bindC_exc ofO_exc (fun _ => ofB_exc) _ _ _
        | (split <;> first
            | exact ofB_exc _ _ _
            | (split <;> first
                | (split <;> simp)
                | simp)
            | simp)
        | simp)
    | simp
end
end Z9

set_option Elab.async false
set_option linter.all false
set_option maxRecDepth 100000
set_option maxHeartbeats 4000000
/-! E7: targets, what is gone through, comprehensions. -/
namespace Z9
open PySem PySem.Spec PyProof.Rows L2

/-! ### slots that are wiped -/
theorem wipe_set_mem {σ : L2.St} {i : Nat} {x : Option V} : ∀ {vs : List Nat}, i ∈ vs → L2.wipe (σ.set i x) vs = L2.wipe σ vs
  | [], h => by cases h
  | v :: vs, h => by
    show (L2.wipe (σ.set i x) vs).set v none = (L2.wipe σ vs).set v none
    by_cases hi : i ∈ vs
    · rw [wipe_set_mem hi]
    · have e : i = v := by
        rcases List.mem_cons.mp h with e | h
        · exact e
        · exact absurd h hi
      subst e
      have k : ∀ (us : List Nat) (τ : L2.St), i ∉ us → L2.wipe (τ.set i x) us = (L2.wipe τ us).set i x := by
        intro us
        induction us with
        | nil => intro τ _; rfl
        | cons u us ih =>
          intro τ hn
          show (L2.wipe (τ.set i x) us).set u none = ((L2.wipe τ us).set u none).set i x
          rw [ih τ (fun z => hn (List.mem_cons_of_mem _ z))]
          exact List.set_comm _ _ (fun z => hn (by rw [z]; exact List.mem_cons_self))
      rw [k vs σ hi, List.set_set]
theorem wipe_set_out : ∀ {vs : List Nat} {σ : L2.St} {i : Nat}, L2.wipe (σ.set i none) vs = (L2.wipe σ vs).set i none
  | [], _, _ => rfl
  | v :: vs, σ, i => by
    show (L2.wipe (σ.set i none) vs).set v none = ((L2.wipe σ vs).set v none).set i none
    rw [wipe_set_out (vs := vs)]
    by_cases h : i = v
    · subst h; rfl
    · exact List.set_comm _ _ h
theorem wipe_wipe : ∀ {vs : List Nat} {σ : L2.St}, L2.wipe (L2.wipe σ vs) vs = L2.wipe σ vs
  | [], _ => rfl
  | v :: vs, σ => by
    show (L2.wipe ((L2.wipe σ vs).set v none) vs).set v none = (L2.wipe σ vs).set v none
    rw [wipe_set_out, wipe_wipe, List.set_set]
section
variable {K : PySem.W.Frag} {L : Addr → Prop} {f : List Addr} {h : Hh} {H : Hp} {r : Z9.Env} {σ : L2.St}
theorem SlR.set {i : Nat} {d : D} {v : V} (s : SlR K L f H r σ) (q : Rep K L f H v d) : SlR K L f H (r.set i (some d)) (σ.set i (some v)) := by
  refine ⟨by simp [s.len], fun j e hj => ?_⟩
  by_cases hji : j = i
  · subst hji
    have hl : j < r.length := by
      have := (List.getElem?_eq_some_iff.mp hj).1
      simpa using this
    rw [List.getElem?_set_self hl] at hj
    cases hj
    exact ⟨v, by rw [List.getElem?_set_self (by rw [← s.len]; exact hl)], q⟩
  · rw [List.getElem?_set_ne (Ne.symm hji)] at hj
    obtain ⟨w, h1, h2⟩ := s.at_ j e hj
    exact ⟨w, by rw [List.getElem?_set_ne (Ne.symm hji)]; exact h1, h2⟩
theorem SlR.setN {i : Nat} (s : SlR K L f H r σ) : SlR K L f H (r.set i none) (σ.set i none) := by
  refine ⟨by simp [s.len], fun j e hj => ?_⟩
  by_cases hji : j = i
  · subst hji
    have hl : j < r.length := by
      have := (List.getElem?_eq_some_iff.mp hj).1
      simpa using this
    rw [List.getElem?_set_self hl] at hj
    cases hj
  · rw [List.getElem?_set_ne (Ne.symm hji)] at hj
    obtain ⟨w, h1, h2⟩ := s.at_ j e hj
    exact ⟨w, by rw [List.getElem?_set_ne (Ne.symm hji)]; exact h1, h2⟩
theorem SlR.wipe (s : SlR K L f H r σ) : ∀ vs : List Nat, SlR K L f H (wipeE r vs) (L2.wipe σ vs)
  | [] => s
  | _ :: vs => (SlR.wipe s vs).setN
theorem SlR.wide {L1 : Addr → Prop} (w : Lw L H L1) (s : SlR K L f H r σ) : SlR K L1 f H r σ :=
  ⟨s.len, fun i d e => let ⟨v, a, b⟩ := s.at_ i d e; ⟨v, a, b.wide w⟩⟩
end

/-! ### targets -/
/-- a target's reading -/
def gD (K : PySem.W.Frag) (t : Tg) : TG := fun v σ H Q => ∃ (L : Addr → Prop) (f : List Addr) (h : Hh) (r r' : Z9.Env) (d : D), SRel K L f h H ∧ SlR K L f H r σ ∧ Rep K L f H v d ∧ setT t d r = .ok r' ∧
  ∀ σ', SlR K L f H r' σ' → (∀ vs, tgIn t vs = true → L2.wipe σ' vs = L2.wipe σ vs) → Q σ' H
def gDs (K : PySem.W.Frag) (ts : Tgs) : TGs := fun vs σ H Q => ∃ (L : Addr → Prop) (f : List Addr) (h : Hh) (r r' : Z9.Env) (ds : List D), SRel K L f h H ∧ SlR K L f H r σ ∧ RepL K L f H vs ds ∧ setTs ts ds r = .ok r' ∧
  ∀ σ', SlR K L f H r' σ' → (∀ us, tgsIn ts us = true → L2.wipe σ' us = L2.wipe σ us) → Q σ' H
theorem PGm {X : Cx} {e : Expr} {t t' : TG} (h : PG X e t) (k : ∀ v σ H Q, t' v σ H Q → t v σ H Q) : PG X e t' := ⟨fun pins s σ H v u Q I r q => h.run pins s σ H v u Q I r (k v σ H Q q)⟩
theorem PGsm {X : Cx} {e : List Expr} {t t' : TGs} (h : PGs X e t) (k : ∀ v σ H Q, t' v σ H Q → t v σ H Q) : PGs X e t' := ⟨fun pins s σ H v u Q I r q => h.run pins s σ H v u Q I r (k v σ H Q q)⟩
theorem mT_plain {C : Mc} {k : Bool} {sc : Scope} {t : Tg} {x : Expr} (h : mT C k sc t x = true) : ∀ a p, x ≠ .Starred a p := by
  intro a p e
  subst e
  cases t <;> simp [mT] at h
theorem assign_cons {x : Expr} {xs : List Expr} {env : PySem.Env} (h : ∀ a p, x ≠ .Starred a p) : assignEach (x :: xs) env = (false, assign x env) :: assignEach xs env := by
  cases x <;> first
    | rfl
    | exact absurd rfl (h _ _)
theorem assign_facts {C : Mc} {k : Bool} {sc : Scope} {env : PySem.Env} : ∀ {ts : Tgs} {xs : List Expr}, mTs C k sc ts xs = true → (assignEach xs env).length = xs.length ∧ (assignEach xs env).findIdx? (·.1) = none
  | .nil, [], _ => ⟨rfl, rfl⟩
  | .nil, _ :: _, h => by simp [mTs] at h
  | .cons _ _, [], h => by simp [mTs] at h
  | .cons t ts, x :: xs, h => by
    simp only [mTs, Bool.and_eq_true] at h
    obtain ⟨a, b⟩ := assign_facts (env := env) (ts := ts) h.2
    rw [assign_cons (mT_plain h.1)]
    exact ⟨by simp [a], by rw [List.findIdx?_cons]; simp [b]⟩
theorem mTs_len {C : Mc} {k : Bool} {sc : Scope} : ∀ {ts : Tgs} {xs : List Expr} {r r' : Z9.Env} {ds : List D}, mTs C k sc ts xs = true → setTs ts ds r = .ok r' → ds.length = xs.length
  | .nil, [], _, _, [], _, _ => rfl
  | .nil, [], _, _, _ :: _, _, h => by simp [setTs] at h
  | .nil, _ :: _, _, _, _, h, _ => by simp [mTs] at h
  | .cons _ _, [], _, _, _, h, _ => by simp [mTs] at h
  | .cons t ts, x :: xs, r, r', [], h, h2 => by simp [setTs] at h2
  | .cons t ts, x :: xs, r, r', d :: ds, h, h2 => by
    simp only [mTs, Bool.and_eq_true] at h
    simp only [setTs] at h2
    obtain ⟨r1, _, h3⟩ := bind_ok h2
    simp [mTs_len h.2 h3]
theorem isSt_of {k : Bool} {sc : Scope} {X : Cx} {x : Str} (hs : X.env.scope = sc) (hk : k = true → ∀ x, X.fn x = true) (h : isSt k sc x = true) : Loc X.env.scope x ∧ (X.fn x = true ∨ X.env.scope.names.lookup x = some .local) := by
  unfold isSt at h
  rw [← hs] at h
  split at h
  · rename_i e; exact ⟨.inl e, .inr e⟩
  · rename_i e; exact ⟨.inr e, .inl (hk h x)⟩
  · cases h
mutual
theorem soundTg {C : Mc} {k : Bool} {sc : Scope} {X : Cx} (hN : X.N = C.N) (nd : X.N.Nodup) (hs : X.env.scope = sc) (hc : X.calm = true) (hk : k = true → ∀ x, X.fn x = true) : ∀ (t : Tg) (x : Expr), mT C k sc t x = true → PG X x (gD X.K t)
  | .var i, x, h => by
    cases x <;> simp only [mT, Bool.and_eq_true, Bool.false_eq_true, decide_eq_true_eq] at h
    rename_i id pos
    obtain ⟨⟨h1, h2⟩, h3⟩ := h
    have hl := isSt_of (X := X) hs hk h3
    refine PGm (pg_name (i := i) nd (by rw [hN]; exact h1) hl.1 hl.2) fun v σ H Q q => ?_
    obtain ⟨L, f, h, r, r', d, S, sl, rv, e, q⟩ := q
    simp only [setT] at e
    cases e
    exact q _ (sl.set rv) fun vs hv => wipe_set_mem (by simpa [tgIn] using hv)
  | .tup ts, x, h => by
    cases x <;> simp only [mT, Bool.false_eq_true] at h
    rename_i xs kk pos
    obtain ⟨a1, a2⟩ := assign_facts (env := X.env) h
    have ih := soundTgs (C := C) (k := k) (sc := sc) hN nd hs hc hk ts xs h
    refine ⟨fun pins s σ H v u Q I ru q => ?_⟩
    obtain ⟨L, f, hh, r, r', d, S, sl, rv, e, q⟩ := q
    simp only [setT] at e
    split at e
    · rename_i ds
      obtain ⟨a, vs, rfl, ea, rr⟩ := rv.seqT
      refine (pg_tup (n := xs.length) hc ih a1 a2).run pins s σ H _ u Q I ru ⟨a, vs, rfl, ea, by rw [rr.length]; exact mTs_len h e, ?_⟩
      exact ⟨L, f, hh, r, r', ds, S, sl, rr, e, fun σ' s' w => q σ' s' fun vs hv => w vs (by simpa [tgIn] using hv)⟩
    · rename_i ds
      obtain ⟨a, vs, rfl, ea, _, _, rr⟩ := rv.seqL
      refine (pg_lst (n := xs.length) hc ih a1 a2).run pins s σ H _ u Q I ru ⟨a, vs, rfl, .of ea, by rw [rr.length]; exact mTs_len h e, ?_⟩
      exact ⟨L, f, hh, r, r', ds, S, sl, rr, e, fun σ' s' w => q σ' s' fun vs hv => w vs (by simpa [tgIn] using hv)⟩
    · cases e
theorem soundTgs {C : Mc} {k : Bool} {sc : Scope} {X : Cx} (hN : X.N = C.N) (nd : X.N.Nodup) (hs : X.env.scope = sc) (hc : X.calm = true) (hk : k = true → ∀ x, X.fn x = true) : ∀ (ts : Tgs) (xs : List Expr), mTs C k sc ts xs = true → PGs X xs (gDs X.K ts)
  | .nil, [], _ => PGsm pgs_nil fun vs σ H Q q => by
    obtain ⟨L, f, h, r, r', ds, S, sl, rv, e, q⟩ := q
    cases ds with
    | nil =>
      cases rv
      simp only [setTs] at e
      cases e
      exact ⟨rfl, q σ sl fun _ _ => rfl⟩
    | cons _ _ => simp [setTs] at e
  | .nil, _ :: _, h => by simp [mTs] at h
  | .cons _ _, [], h => by simp [mTs] at h
  | .cons t ts, x :: xs, h => by
    simp only [mTs, Bool.and_eq_true] at h
    refine PGsm (pgs_cons (soundTg hN nd hs hc hk t x h.1) (soundTgs hN nd hs hc hk ts xs h.2) (by rw [assign_cons (mT_plain h.1)]; rfl)) fun vs σ H Q q => ?_
    obtain ⟨L, f, hh, r, r', ds, S, sl, rv, e, q⟩ := q
    cases ds with
    | nil => simp [setTs] at e
    | cons d ds =>
      cases rv with
      | @cons v vs _ _ rv rvs =>
        simp only [setTs] at e
        obtain ⟨r1, e1, e2⟩ := bind_ok e
        refine ⟨v, vs, rfl, L, f, hh, r, r1, d, S, sl, rv, e1, fun σ1 s1 w1 => ⟨L, f, hh, r1, r', ds, S, s1, rvs, e2, fun σ2 s2 w2 => q σ2 s2 fun us hu => ?_⟩⟩
        simp only [tgsIn, Bool.and_eq_true] at hu
        rw [w2 us hu.2, w1 us hu.1]
end

/-! ### a comprehension's turns -/
theorem lcD_exc (F : D → Hh → Res (Option D × Hh)) : ∀ (xs acc : List D) (h : Hh) c ys h', lcD F xs acc h ≠ .exc c ys h'
  | [], _, _, _, _, _ => by simp [lcD]
  | x :: xs, acc, h, c, ys, h' => by
    unfold lcD
    split
    · split
      · exact lcD_exc F xs _ _ _ _ _
      · simp
    · exact lcD_exc F xs _ _ _ _ _
    · simp
section
variable {K : PySem.W.Frag} {L : Addr → Prop} {f f' : List Addr} {h h' : Hh} {H H' : Hp}
theorem Lw.trans (S : SRel K L f h H) (S' : SRel K L f' h' H') (l : Le f H f' H') {L1 : Addr → Prop} (w : Lw L H' L1) : Lw L H L1 :=
  ⟨w.sub, fun a x => (w.new a x).imp id fun e => l.none S S' e⟩
/-- a list that a comprehension has filled becomes a changing one -/
theorem SRel.adopt {p : Addr} {vs : List V} {ds : List D} (S : SRel K (fun a => L a ∨ a = p) f h H) (np : ¬ L p) (hp : H p = some (.lst vs)) (r : RepL K (fun a => L a ∨ a = p) f H vs ds) :
    SRel K L (f ++ [p]) (h ++ [.lst ds]) H := by
  have nf : p ∉ f := fun m => S.dis p m (.inr rfl)
  have up : ∀ {vs : List V} {ds : List D}, RepL K (fun a => L a ∨ a = p) f H vs ds → RepL K L (f ++ [p]) H vs ds := fun r => RepL.up np r
  refine ⟨by simp [S.len], ?_, fun a x => S.out a (.inl x), fun a m x => ?_, fun i d e => ?_⟩
  · rw [List.nodup_append]
    refine ⟨S.nd, by simp, fun a ha b hb => ?_⟩
    rw [List.mem_singleton.mp hb]
    rintro rfl
    exact nf ha
  · rcases List.mem_append.mp m with m | m
    · exact S.dis a m (.inl x)
    · rw [List.mem_singleton.mp m] at x
      exact np x
  · by_cases hj : i < h.length
    · rw [List.getElem?_append_left hj] at e
      obtain ⟨b, ds', vs', o, e1, e2, e3, r'⟩ := S.obj i d e
      refine ⟨b, ds', vs', o, ?_, e2, e3, up r'⟩
      rw [List.getElem?_append_left (by rw [S.len]; exact hj)]
      exact e1
    · have hj' : i = h.length := by
        have := (List.getElem?_eq_some_iff.mp e).1
        simp at this
        omega
      subst hj'
      simp at e
      subst e
      refine ⟨p, ds, vs, _, ?_, .inl ⟨rfl, rfl⟩, hp, up r⟩
      rw [← S.len]
      simp
end
end Z9

set_option Elab.async false
set_option linter.all false
set_option maxRecDepth 100000
set_option maxHeartbeats 8000000
/-! E8: every form's evaluation is the text's. -/
namespace Z9
open PySem PySem.Spec PyProof.Rows L2

section
variable {nm : List Str} {ca : Nat → Value} {G : Gam} {lv : Nat} {N : List Str}

theorem glName_of {sc : Scope} {X : Cx} (c : COk nm ca G lv N sc X) {x y : Str} (h : glName sc x y = true) (hb : y ∈ bnames) : x = y ∧ Gl X x ∧ X.mg x = none ∧ (x == ("__debug__" : Str)) = false ∧ x ≠ ("__name__" : Str) := by
  unfold glName at h
  simp only [Bool.and_eq_true, beq_iff_eq] at h
  obtain ⟨⟨rfl, h1⟩, h2⟩ := h
  obtain ⟨a, b, d⟩ := okNm_of h2
  exact ⟨rfl, isGl_gl c h1, c.gam.blt _ hb, a, d⟩
theorem not_set {C : Mc} {sc : Scope} {e : Ex} {x : Expr} {env : PySem.Env} (h : mE C sc e x = true) : ∀ v, foldedSetIterable x env v = pure v := by
  intro v
  have := (mE_plain h).2.1
  cases x <;> first
    | rfl
    | exact absurd rfl (this _ _ _)
theorem plain_ix {x : Expr} (h : noSlice x = true) : PlainIx x := by
  intro o i
  cases x <;> first
    | rfl
    | (simp [noSlice] at h)
theorem base_of {x : Expr} {env : PySem.Env} {n : Str} (hn : noSuper x = true) : attributeBase x n env (eval x env) = eval x env := by
  cases x <;> first
    | rfl
    | skip
  rename_i fn args kws pos
  cases fn <;> first
    | rfl
    | skip
  rename_i id p
  cases args <;> first
    | rfl
    | skip
  cases kws <;> first
    | rfl
    | skip
  unfold attributeBase
  have h : ¬ id = ("super" : Str) := by simpa [noSuper] using hn
  simp [h]
theorem few_of {C : Mc} {sc : Scope} {env : PySem.Env} {pos : Pos} : ∀ {es : Exs} {xs : List Expr}, mEs C sc es xs = true → (backTo pos (starEach xs env)).all (fun x => !x.1) = true
  | .nil, [], _ => rfl
  | .nil, _ :: _, h => by simp [mEs] at h
  | .cons _ _, [], h => by simp [mEs] at h
  | .cons e es, x :: xs, h => by
    simp only [mEs, Bool.and_eq_true] at h
    rw [star_cons (mE_plain h.1).1]
    exact few_of (es := es) h.2
/-! ### lists of readings -/
theorem PTsm {X : Cx} {e : List Expr} {t t' : TT} (h : PTs X e t) (k : ∀ σ H Q, t' σ H Q → t σ H Q) : PTs X e t' := ⟨fun pins s σ H Q I q => h.run pins s σ H Q I (k σ H Q q)⟩
theorem POm {X : Cx} {e : Option Expr} {t t' : TO} (h : PO X e t) (k : ∀ σ H Q, t' σ H Q → t σ H Q) : PO X e t' := ⟨fun pins s σ H Q I q => h.run pins s σ H Q I (k σ H Q q)⟩
theorem PWm {X : Cx} {e : Expr} {t t' : TT} (h : PW X e t) (k : ∀ σ H Q, t' σ H Q → t σ H Q) : PW X e t' := ⟨fun wh pins s σ H Q I q => h.run wh pins s σ H Q I (k σ H Q q)⟩

/-- a value that is a truth, as a test: forms that are no and, or, not, comparison -/
def plainT : Expr → Bool
  | .BoolOp .. => false
  | .UnaryOp .Not .. => false
  | .Compare .. => false
  | .NamedExpr .. => false
  | .IfExp .. => false
  | _ => true
theorem isTrue_of {x : Expr} {env : PySem.Env} (h : plainT x = true) : ∀ whole, isTrue x env whole = (do let v ← whole; standAt x.pos; holding [v] (truthy v)) := by
  intro w
  cases x <;> first
    | rfl
    | (simp [plainT] at h; done)
    | skip
  rename_i op a pos
  cases op <;> first
    | rfl
    | (simp [plainT] at h)
variable {sc : Scope} {X : Cx} {W : WX}
/-- from a reading to a test's -/
theorem tT_tE {e : Ex} {σ : L2.St} {H : Hp} {Q : Bool → Hp → Prop} (q : tT X.K ca W G e σ H Q) : tE X.K ca W G e σ H fun x H1 => ∃ c, x = .bl c ∧ Q c H1 := by
  obtain ⟨L, f, r, h, S, sl, p⟩ := q
  refine tE_of S sl ((p.bind S).mono fun d f1 h1 H1 l1 S1 p1 v rv => ?_)
  obtain ⟨b, eb, p2⟩ := p1.pureBind boolD_exc
  have := boolD_ok eb
  simp only at this
  subst this
  exact ⟨b, rv.blE, p2.here S1⟩
end
end Z9

set_option Elab.async false
set_option linter.all false
set_option maxRecDepth 100000
set_option maxHeartbeats 16000000
/-! E9: the evaluation of every form. -/
namespace Z9
open PySem PySem.Spec PyProof.Rows L2

section
variable {nm : List Str} {ca : Nat → Value} {G : Gam} {lv : Nat} {N : List Str}

theorem blkCOk {sc : Scope} {X : Cx} (c : COk nm ca G lv N sc X) (s : Shared) (H : Hp) (scope : Scope) (C : Addr) (cl : List (Str × Addr)) (fp : List Addr) : COk nm ca G lv N (relS scope sc) (X.blk s H scope (compEnvC scope cl C X.env) fp) :=
  ⟨c.N, c.nd, by show relS scope X.env.scope = _; rw [c.sc], c.calm, c.room, c.gam⟩

/-- the readings of a comprehension's parts give the whole's -/
theorem lc_go {sc : Scope} {X : Cx} {W : WX} (c : COk nm ca G lv N sc X) (new : Bool) (elt : Ex) (t : Tg) (it : Z9.It) (ifs : Exs) (own : List Nat) (ht : tgIn t own = true) {σ : L2.St} {H : Hp} {Q : VK}
    (q : tE X.K ca W G (.lc new elt t it ifs own) σ H Q) : tLc (tI X.K ca W G it) (gD X.K t) (tTs X.K ca (fun _ _ _ _ => False) G ifs) (tE X.K ca (fun _ _ _ _ => False) G elt) own σ H Q := by
  obtain ⟨L, f, r, h, S, sl, p⟩ := q
  refine ⟨L, f, r, h, S, sl, (p.bind S).mono fun xs f1 h1 H1 l1 S1 p1 J wd da hD => ?_⟩
  have sl1 := sl.mono S l1
  obtain ⟨Gd, Y, wk, hG, hY⟩ := wd
  generalize hF : (fun (x : D) (h1 : Hh) => (setT t x (wipeE r own)).bind fun r1 => (evTs G ifs r1 h1).bind fun b => if b.1 then (evE G elt r1 b.2).bind fun y => Res.ok (some y.1, y.2) else Res.ok (none, b.2)) = F at p1
  -- the turns come to an end
  obtain ⟨q, eq⟩ : ∃ q, lcD F xs [] h1 = .ok q := by
    cases e : lcD F xs [] h1 with
    | ok q => exact ⟨q, rfl⟩
    | exc c ys h' => exact absurd e (lcD_exc F xs [] h1 c ys h')
    | no =>
      have p1' : PostR X.K L f1 H1 ca (fun c d H' => W c d σ H') ((lcD F xs [] h1).bind fun q => if new then Res.ok (D.ref q.2.length, q.2 ++ [D.lst q.1]) else Res.ok (D.lst q.1, q.2)) _ := p1
      rw [e] at p1'
      exact p1'.elim
  obtain ⟨lA, SA, hw, nL, nf⟩ := S1.lay (o := .lst []) hD
  refine lc_it (G := Gd) (Y := Y) wk (fun i H2 => ∃ (f2 : List Addr) (h2 : Hh) (acc : List V) (ds : List D), H2 da = some (.lst acc) ∧ Le f1 H1 f2 H2 ∧ SRel X.K (fun a => L a ∨ a = da) f2 h2 H2 ∧ RepL X.K (fun a => L a ∨ a = da) f2 H2 acc ds ∧ lcD F (xs.drop i) ds h2 = .ok q)
    ⟨f1, h1, [], [], upd_same, lA, SA, .nil, by simpa using eq⟩ (fun i H2 _ ⟨f2, h2, _, _, _, l2, S2, _, _⟩ => hG _ f2 h2 H2 hw l2 S2) ?_ ?_
  · rintro i x H2 H3 hi ⟨f2, h2, acc, ds, eD, l2, S2, racc, e⟩ hy
    obtain ⟨d, ed, l3, S3, rd⟩ := hY _ i f2 h2 H2 x H3 hi hw l2 S2 hy
    have l13 := Le.trans S1 S2 l2 l3
    have eD3 : H3 da = some (.lst acc) := l3.keep _ _ eD fun m => S2.dis da m (.inr rfl)
    have racc3 := RepL.mono S2 l3 racc
    rw [List.drop_eq_getElem_cons hi] at e
    have ed' : xs[i] = d := by
      rw [List.getElem?_eq_getElem hi] at ed
      exact Option.some.inj ed
    rw [ed'] at e
    have slw : SlR X.K (fun a => L a ∨ a = da) f2 H3 (wipeE r own) (L2.wipe σ own) := ((sl1.wide hw).mono S1 l13).wipe own
    -- the target
    have eF : F d h2 = (setT t d (wipeE r own)).bind fun r1 => (evTs G ifs r1 h2).bind fun b => if b.1 then (evE G elt r1 b.2).bind fun y => Res.ok (some y.1, y.2) else Res.ok (none, b.2) := by rw [← hF]
    unfold lcD at e
    cases k1 : setT t d (wipeE r own) with
    | no => rw [eF, k1] at e; cases e
    | exc c ys h' => rw [eF, k1] at e; cases e
    | ok r1 =>
      rw [k1] at eF
      simp only [Res.bind_ok] at eF
      refine ⟨_, f2, h2, wipeE r own, r1, d, S3, slw, rd, k1, fun σ2 sl2 hw2 => ⟨by rw [hw2 own ht, wipe_wipe], ?_⟩⟩
      cases k2 : evTs G ifs r1 h2 with
      | no => rw [eF, k2] at e; cases e
      | exc c ys h' => rw [eF, k2] at e; cases e
      | ok b =>
        rw [k2] at eF
        simp only [Res.bind_ok] at eF
        refine ⟨_, f2, r1, h2, S3, sl2, ?_⟩
        rw [k2]
        intro f4 H4 l4 S4
        have l14 := Le.trans S1 S3 l13 l4
        have eD4 : H4 da = some (.lst acc) := l4.keep _ _ eD3 fun m => S3.dis da m (.inr rfl)
        have racc4 := RepL.mono S3 l4 racc3
        cases hb : b.1 with
        | false =>
          rw [hb] at eF
          refine iteF ?_
          rw [eF] at e
          exact ⟨f4, b.2, acc, ds, eD4, l14, S4, racc4, e⟩
        | true =>
          rw [hb] at eF
          refine iteT ?_
          simp only [if_true] at eF
          cases k3 : evE G elt r1 b.2 with
          | no => rw [eF, k3] at e; cases e
          | exc c ys h' => rw [eF, k3] at e; cases e
          | ok y =>
            rw [k3] at eF
            simp only [Res.bind_ok] at eF
            rw [eF] at e
            simp only at e
            refine ⟨_, f4, r1, b.2, S4, sl2.mono S3 l4, ?_⟩
            rw [k3]
            intro f5 H5 l5 S5 w rw'
            have l15 := Le.trans S1 S4 l14 l5
            have eD5 : H5 da = some (.lst acc) := l5.keep _ _ eD4 fun m => S4.dis da m (.inr rfl)
            have racc5 := RepL.mono S4 l5 racc4
            split at e
            · rename_i hlt
              have ha : acc.length < sizeLine := by
                rw [racc5.length, sizeLine_eq]
                exact hlt
              refine ⟨acc, eD5, ha, f5, y.2, acc ++ [w], ds ++ [y.1], upd_same, ⟨l15.pre, fun a o ea na => ?_⟩, S5.poke (.inr rfl) eD5, RepL.poke (.inr rfl) eD5 (racc5.append (.cons rw' .nil)), e⟩
              rw [upd_ne (fun z => by rw [z, hD] at ea; cases ea)]
              exact l15.keep a o ea na
            · cases e
  · rintro H2 ⟨f2, h2, acc, ds, eD, l2, S2, racc, e⟩
    rw [List.drop_length] at e
    simp only [lcD] at e
    cases e
    have p2 : PostR X.K L f1 H1 ca (fun c d H' => W c d σ H') (if new then Res.ok (D.ref h2.length, h2 ++ [D.lst ds]) else Res.ok (D.lst ds, h2)) fun d f' _ H' => ∀ v, Rep X.K L f' H' v d → Q v H' := by
      have p1' : PostR X.K L f1 H1 ca (fun c d H' => W c d σ H') ((lcD F xs [] h1).bind fun q => if new then Res.ok (D.ref q.2.length, q.2 ++ [D.lst q.1]) else Res.ok (D.lst q.1, q.2)) fun d f' _ H' => ∀ v, Rep X.K L f' H' v d → Q v H' := p1
      rw [eq] at p1'
      exact p1'
    have nf2 : da ∉ f2 := fun m => S2.dis da m (.inr rfl)
    cases new with
    | false => exact p2 f2 H2 l2 (S2.narrow fun a x => .inl x) _ (.lst eD nL nf2 (RepL.narrow (fun a x => .inl x) racc))
    | true =>
      refine p2 (f2 ++ [da]) H2 ⟨?_, l2.keep⟩ (S2.adopt nL eD racc) _ (.ref ?_)
      · obtain ⟨g, eg, hg⟩ := l2.pre
        refine ⟨g ++ [da], by rw [eg, List.append_assoc], fun a ha => ?_⟩
        rcases List.mem_append.mp ha with ha | ha
        · exact hg a ha
        · rw [List.mem_singleton.mp ha]
          exact hD
      · rw [← S2.len]
        simp
/-! ### over a changing list -/
theorem refL_ok {h : Hh} {d : D} {i : Nat} {ys : List D} (e : refL h d = some (i, ys)) : d = .ref i ∧ h[i]? = some (.lst ys) := by
  unfold refL at e
  split at e
  · split at e
    · rename_i el
      cases e
      exact ⟨rfl, el⟩
    · cases e
  · cases e
theorem walk_live {K : PySem.W.Frag} {a : Addr} {n : Nat} : Walk (Itl K a) n (fun H => ∃ xs, SqL K H a xs ∧ xs.length = n) (fun i H x H' => H' = H ∧ ∀ xs, SqL K H a xs → xs[i]? = some x) :=
  ⟨fun i H hi ⟨xs, q, hl⟩ => ⟨xs, xs[i]'(by omega), q, by simp [hl, hi]⟩, fun H ⟨xs, q, hl⟩ => ⟨xs, q, by omega⟩, fun _ _ _ _ _ _ y => ⟨y.1, y.2⟩⟩
theorem lcV_exc (F : D → Hh → Res (Option D × Hh)) (i n : Nat) : ∀ (m : Nat) (acc : List D) (h : Hh) c ys h', lcV F i n m acc h ≠ .exc c ys h'
  | 0, acc, h, c, ys, h' => by
    unfold lcV
    split <;> simp
  | m + 1, acc, h, c, ys, h' => by
    unfold lcV
    split
    · split
      · split
        · exact lcV_exc F i n m _ _ _ _ _
        · simp
      · exact lcV_exc F i n m _ _ _ _ _
      · simp
    · simp
theorem lcV_len {F : D → Hh → Res (Option D × Hh)} {i n m : Nat} {acc : List D} {h : Hh} {q : List D × Hh} (e : lcV F i n m acc h = .ok q) : ∃ ys, h[i]? = some (.lst ys) ∧ ys.length = n := by
  cases m with
  | zero =>
    unfold lcV lenV at e
    split at e
    · rename_i ys el
      split at e
      · rename_i hl
        exact ⟨ys, el, of_decide_eq_true hl⟩
      · cases e
    · simp at e
  | succ m =>
    unfold lcV itV at e
    split at e
    · rename_i x hx
      split at hx
      · rename_i ys el
        split at hx
        · rename_i hl
          exact ⟨ys, el, hl⟩
        · cases hx
      · cases hx
    · cases e
theorem itV_at {h : Hh} {i n k : Nat} {ys : List D} (el : h[i]? = some (.lst ys)) (hl : ys.length = n) : itV h i n k = ys[k]? := by
  unfold itV
  rw [el]
  simp only
  rw [if_pos hl]
/-- the readings of a comprehension's parts give the whole's -/
theorem lcv_go {sc : Scope} {X : Cx} {W : WX} (c : COk nm ca G lv N sc X) (new : Bool) (elt : Ex) (t : Tg) (e0 : Ex) (ifs : Exs) (own : List Nat) (ht : tgIn t own = true) {σ : L2.St} {H : Hp} {Q : VK}
    (q : tE X.K ca W G (.lcv new elt t e0 ifs own) σ H Q) : tLc (fun σ H R => tE X.K ca W G e0 σ H fun v H1 => ∃ a, v = .ref a ∧ (∃ vs, SqL X.K H1 a vs) ∧ R (Itl X.K a) H1) (gD X.K t) (tTs X.K ca (fun _ _ _ _ => False) G ifs) (tE X.K ca (fun _ _ _ _ => False) G elt) own σ H Q := by
  obtain ⟨L, f, r, h, S, sl, p⟩ := q
  unfold evE at p
  refine tE_of S sl ((p.bind S).mono fun d f1 h1 H1 l1 S1 p1 v rv => ?_)
  cases er : refL h1 d with
  | none =>
    simp only [er] at p1
    exact p1.elim
  | some iy =>
  obtain ⟨i, ys⟩ := iy
  obtain ⟨rfl, el⟩ := refL_ok er
  simp only [er] at p1
  obtain ⟨a, vs0, ea, eH, rr0⟩ := S1.objL el
  cases rv with
  | ref ea' =>
  rw [ea] at ea'
  cases ea'
  refine ⟨a, rfl, ⟨vs0, .of eH⟩, fun da hD => ?_⟩
  have sl1 := sl.mono S l1
  generalize hn : ys.length = n at p1
  generalize hF : (fun (x : D) (h1 : Hh) => (setT t x (wipeE r own)).bind fun r1 => (evTs G ifs r1 h1).bind fun b => if b.1 then (evE G elt r1 b.2).bind fun y => Res.ok (some y.1, y.2) else Res.ok (none, b.2)) = F at p1
  obtain ⟨q, eq⟩ : ∃ q, lcV F i n n [] h1 = .ok q := by
    cases e : lcV F i n n [] h1 with
    | ok q => exact ⟨q, rfl⟩
    | exc c ys h' => exact absurd e (lcV_exc F i n n [] h1 c ys h')
    | no =>
      have p1' : PostR X.K L f1 H1 ca (fun c d H' => W c d σ H') ((lcV F i n n [] h1).bind fun q => if new then Res.ok (D.ref q.2.length, q.2 ++ [D.lst q.1]) else Res.ok (D.lst q.1, q.2)) _ := p1
      rw [e] at p1'
      exact p1'.elim
  obtain ⟨lA, SA, hw, nL, nf⟩ := S1.lay (o := .lst []) hD
  have live : ∀ {f2 : List Addr} {h2 : Hh} {H2 : Hp} {m : Nat} {ds : List D}, Le f1 H1 f2 H2 → SRel X.K (fun a => L a ∨ a = da) f2 h2 H2 → lcV F i n m ds h2 = .ok q → ∃ ys vs, h2[i]? = some (.lst ys) ∧ ys.length = n ∧ H2 a = some (.lst vs) ∧ RepL X.K (fun a => L a ∨ a = da) f2 H2 vs ys := fun {f2 h2 H2 m ds} l2 S2 e => by
    obtain ⟨ys, e1, e2⟩ := lcV_len e
    obtain ⟨a', vs, e3, e4, rr⟩ := S2.objL e1
    obtain ⟨g, eg, _⟩ := l2.pre
    have hi : i < f1.length := (List.getElem?_eq_some_iff.mp ea).1
    rw [eg, List.getElem?_append_left hi, ea] at e3
    cases e3
    exact ⟨ys, vs, e1, e2, e4, rr⟩
  refine lc_it (walk_live (K := X.K) (a := a) (n := n)) (fun k H2 => ∃ (f2 : List Addr) (h2 : Hh) (acc : List V) (ds : List D), H2 da = some (.lst acc) ∧ Le f1 H1 f2 H2 ∧ SRel X.K (fun a => L a ∨ a = da) f2 h2 H2 ∧ RepL X.K (fun a => L a ∨ a = da) f2 H2 acc ds ∧ lcV F i n (n - k) ds h2 = .ok q)
    ⟨f1, h1, [], [], upd_same, lA, SA, .nil, by simpa using eq⟩ (fun k H2 _ ⟨f2, h2, _, _, _, l2, S2, _, e⟩ => ?_) ?_ ?_
  · obtain ⟨ys, vs, e1, e2, e3, rr⟩ := live l2 S2 e
    exact ⟨vs, .of e3, by rw [rr.length, e2]⟩
  · rintro k x H0 H2 hk ⟨f2, h2, acc, ds, eD, l2, S2, racc, e⟩ ⟨rfl, hy⟩
    obtain ⟨ys2, vs2, e1, e2, e3, rr⟩ := live l2 S2 e
    obtain ⟨d, ed, rd⟩ := rr.getV (hy vs2 (.of e3))
    obtain ⟨m, hm⟩ : ∃ m, n - k = m + 1 := ⟨n - k - 1, by omega⟩
    have hm2 : n - (k + 1) = m := by omega
    rw [hm] at e
    unfold lcV at e
    have hk2 : n - (m + 1) = k := by omega
    rw [hk2, itV_at e1 e2, ed] at e
    simp only at e
    have slw : SlR X.K (fun a => L a ∨ a = da) f2 H2 (wipeE r own) (L2.wipe σ own) := ((sl1.wide hw).mono S1 l2).wipe own
    have eF : F d h2 = (setT t d (wipeE r own)).bind fun r1 => (evTs G ifs r1 h2).bind fun b => if b.1 then (evE G elt r1 b.2).bind fun y => Res.ok (some y.1, y.2) else Res.ok (none, b.2) := by rw [← hF]
    cases k1 : setT t d (wipeE r own) with
    | no => rw [eF, k1] at e; cases e
    | exc c ys h' => rw [eF, k1] at e; cases e
    | ok r1 =>
      rw [k1] at eF
      simp only [Res.bind_ok] at eF
      refine ⟨_, f2, h2, wipeE r own, r1, d, S2, slw, rd, k1, fun σ2 sl2 hw2 => ⟨by rw [hw2 own ht, wipe_wipe], ?_⟩⟩
      cases k2 : evTs G ifs r1 h2 with
      | no => rw [eF, k2] at e; cases e
      | exc c ys h' => rw [eF, k2] at e; cases e
      | ok b =>
        rw [k2] at eF
        simp only [Res.bind_ok] at eF
        refine ⟨_, f2, r1, h2, S2, sl2, ?_⟩
        rw [k2]
        intro f4 H4 l4 S4
        have l14 := Le.trans S1 S2 l2 l4
        have eD4 : H4 da = some (.lst acc) := l4.keep _ _ eD fun m => S2.dis da m (.inr rfl)
        have racc4 := RepL.mono S2 l4 racc
        cases hb : b.1 with
        | false =>
          rw [hb] at eF
          refine iteF ?_
          rw [eF] at e
          exact ⟨f4, b.2, acc, ds, eD4, l14, S4, racc4, by rw [hm2]; exact e⟩
        | true =>
          rw [hb] at eF
          refine iteT ?_
          simp only [if_true] at eF
          cases k3 : evE G elt r1 b.2 with
          | no => rw [eF, k3] at e; cases e
          | exc c ys h' => rw [eF, k3] at e; cases e
          | ok y =>
            rw [k3] at eF
            simp only [Res.bind_ok] at eF
            rw [eF] at e
            simp only at e
            refine ⟨_, f4, r1, b.2, S4, sl2.mono S2 l4, ?_⟩
            rw [k3]
            intro f5 H5 l5 S5 w rw'
            have l15 := Le.trans S1 S4 l14 l5
            have eD5 : H5 da = some (.lst acc) := l5.keep _ _ eD4 fun m => S4.dis da m (.inr rfl)
            have racc5 := RepL.mono S4 l5 racc4
            split at e
            · rename_i hlt
              have ha : acc.length < sizeLine := by
                rw [racc5.length, sizeLine_eq]
                exact hlt
              refine ⟨acc, eD5, ha, f5, y.2, acc ++ [w], ds ++ [y.1], upd_same, ⟨l15.pre, fun a o ea na => ?_⟩, S5.poke (.inr rfl) eD5, RepL.poke (.inr rfl) eD5 (racc5.append (.cons rw' .nil)), by rw [hm2]; exact e⟩
              rw [upd_ne (fun z => by rw [z, hD] at ea; cases ea)]
              exact l15.keep a o ea na
            · cases e
  · rintro H2 ⟨f2, h2, acc, ds, eD, l2, S2, racc, e⟩
    rw [Nat.sub_self] at e
    unfold lcV at e
    split at e
    · cases e
      have p2 : PostR X.K L f1 H1 ca (fun c d H' => W c d σ H') (if new then Res.ok (D.ref h2.length, h2 ++ [D.lst ds]) else Res.ok (D.lst ds, h2)) fun d f' _ H' => ∀ v, Rep X.K L f' H' v d → Q v H' := by
        have p1' : PostR X.K L f1 H1 ca (fun c d H' => W c d σ H') ((lcV F i n n [] h1).bind fun q => if new then Res.ok (D.ref q.2.length, q.2 ++ [D.lst q.1]) else Res.ok (D.lst q.1, q.2)) fun d f' _ H' => ∀ v, Rep X.K L f' H' v d → Q v H' := p1
        rw [eq] at p1'
        exact p1'
      have nf2 : da ∉ f2 := fun m => S2.dis da m (.inr rfl)
      cases new with
      | false => exact p2 f2 H2 l2 (S2.narrow fun a x => .inl x) _ (.lst eD nL nf2 (RepL.narrow (fun a x => .inl x) racc))
      | true =>
        refine p2 (f2 ++ [da]) H2 ⟨?_, l2.keep⟩ (S2.adopt nL eD racc) _ (.ref ?_)
        · obtain ⟨g, eg, hg⟩ := l2.pre
          refine ⟨g ++ [da], by rw [eg, List.append_assoc], fun a ha => ?_⟩
          rcases List.mem_append.mp ha with ha | ha
          · exact hg a ha
          · rw [List.mem_singleton.mp ha]
            exact hD
        · rw [← S2.len]
          simp
    · cases e
end
end Z9

set_option Elab.async false
set_option linter.all false
set_option maxRecDepth 100000
set_option maxHeartbeats 16000000
/-! E10: the evaluation of every form. -/
namespace Z9
open PySem PySem.Spec PyProof.Rows L2

section
variable {K : PySem.W.Frag} {L L0 : Addr → Prop} {f f' : List Addr} {h : Hh} {H H' : Hp}
theorem SqT_mono (S : SRel K L0 f h H) (l : Le f H f' H') {a : Addr} {vs : List V} (hs : SqT K H a vs) : SqT K H' a vs := by
  rcases hs with (e | ⟨o, e⟩) | k
  · refine .inl (.inl (l.keep _ _ e fun hm => ?_))
    obtain ⟨ws, e2, km⟩ := S.at hm
    rw [e] at e2
    cases e2
    exact km.elim
  · refine .inl (.inr ⟨o, l.keep _ _ e fun hm => ?_⟩)
    obtain ⟨ws, e2, km⟩ := S.at hm
    rw [e] at e2
    cases e2
    exact km.elim
  · exact .inr k
theorem walkD_list (S : SRel K L f h H) {a : Addr} {vs : List V} {ds : List D} (ea : H a = some (.lst vs)) (nf : a ∉ f) (r : RepL K L f H vs ds) : WalkD K L f H ds (Itl K a) := by
  refine ⟨fun H2 => SqL K H2 a vs, YAt vs, by rw [← r.length]; exact walk_list, fun L1 f2 h2 H2 w l S2 => .of (l.keep _ _ ea nf), fun L1 i f2 h2 H2 x H3 hi w l S2 y => ?_⟩
  obtain ⟨rfl, ex⟩ := y
  obtain ⟨d, e1, e2⟩ := r.getV ex
  exact ⟨d, e1, .refl, S2, (e2.wide w).mono S l⟩
theorem walkD_tup (S : SRel K L f h H) {a : Addr} {vs : List V} {ds : List D} (ea : SqT K H a vs) (r : RepL K L f H vs ds) : WalkD K L f H ds (Itt K a) := by
  refine ⟨fun H2 => SqT K H2 a vs, YAt vs, by rw [← r.length]; exact walk_tup, fun L1 f2 h2 H2 w l S2 => SqT_mono S l ea, fun L1 i f2 h2 H2 x H3 hi w l S2 y => ?_⟩
  obtain ⟨rfl, ex⟩ := y
  obtain ⟨d, e1, e2⟩ := r.getV ex
  exact ⟨d, e1, .refl, S2, (e2.wide w).mono S l⟩
theorem walkD_str {s : List Nat} (o : ∀ c ∈ s, c < 0x110000) : WalkD K L f H (s.map fun c => D.str [c]) (Its ⟨s.toArray⟩) := by
  refine ⟨fun _ => True, _, by rw [List.length_map]; simpa using walk_str (z := (⟨s.toArray⟩ : Str)), fun _ _ _ _ _ _ _ => trivial, fun L1 i f2 h2 H2 x H3 hi w l S2 y => ?_⟩
  obtain ⟨rfl, c, ec, rfl⟩ := y
  have ec' : s[i]? = some c := by simpa using ec
  refine ⟨.str [c], by rw [List.getElem?_map, ec']; rfl, .refl, S2, ?_⟩
  exact .strOf (x := [c]) (fun c' hc' => by rw [List.mem_singleton.mp hc']; exact o c (List.mem_of_getElem? ec')) (by show 1 ≤ sizeLine; decide)
theorem walkD_range {lo : Int} {n : Nat} : WalkD K L f H ((List.range n).map fun i : Nat => D.int (lo + (i : Int))) (Itr lo n) := by
  refine ⟨fun _ => True, _, by rw [List.length_map, List.length_range]; exact walk_range, fun _ _ _ _ _ _ _ => trivial, fun L1 i f2 h2 H2 x H3 hi w l S2 y => ?_⟩
  obtain ⟨rfl, rfl⟩ := y
  rw [List.length_map, List.length_range] at hi
  exact ⟨.int (lo + i), by simp [hi], .refl, S2, .int _⟩
end

section
variable {C : Mc} {sc : Scope} {x : Expr} {a b w : Ex} {o o2 : CmpOp} {lo hi : Ox} {t : Ty} {es : Exs} {g : BF} {m : BM} {k : Nat} {new : Bool} {elt : Ex} {tg : Tg} {it : Z9.It} {ifs : Exs} {own : List Nat}
theorem inv_cmp2 (h : mE C sc (.cmp2 o o2 a b w) x = true) : ∃ y o' p' z u pos, x = .Compare y [o', p'] [z, u] pos ∧ (decide (o = o') && decide (o2 = p') && !lastMarks [o', p'] [z, u] && mE C sc a y && mE C sc b z && mE C sc w u) = true := by
  unfold mE at h
  split at h
  all_goals first
    | (rename_i hh; cases hh; exact ⟨_, _, _, _, _, _, rfl, h⟩)
    | (rename_i hh; cases hh; done)
    | cases h
theorem inv_isn (h : mE C sc (.isn a) x = true) : ∃ y j p pos, x = .Compare y [.Is] [.Constant .none j p] pos ∧ mE C sc a y = true := by
  unfold mE at h
  split at h
  all_goals first
    | (rename_i hh; cases hh; exact ⟨_, _, _, _, rfl, h⟩)
    | (rename_i hh; cases hh; done)
    | cases h
theorem inv_notn (h : mE C sc (.notn a) x = true) : ∃ y j p pos, x = .Compare y [.IsNot] [.Constant .none j p] pos ∧ mE C sc a y = true := by
  unfold mE at h
  split at h
  all_goals first
    | (rename_i hh; cases hh; exact ⟨_, _, _, _, rfl, h⟩)
    | (rename_i hh; cases hh; done)
    | cases h
theorem inv_sl (h : mE C sc (.sl a lo hi) x = true) : ∃ y l u p pos, x = .Subscript y (.Slice l u none p) pos ∧ (mE C sc a y && mO C sc lo l && mO C sc hi u) = true := by
  unfold mE at h
  split at h
  all_goals first
    | (rename_i hh; cases hh; exact ⟨_, _, _, _, _, rfl, h⟩)
    | (rename_i hh; cases hh; done)
    | cases h
theorem inv_isi (h : mE C sc (.isi a t) x = true) : ∃ f p y z q pos, x = .Call (.Name f p) [y, .Name z q] [] pos ∧ (glName sc f "isinstance" && glName sc z t.nm && mE C sc a y) = true := by
  unfold mE at h
  split at h
  all_goals first
    | (rename_i hh; cases hh; exact ⟨_, _, _, _, _, _, rfl, h⟩)
    | (rename_i hh; cases hh; done)
    | cases h
theorem inv_bcall (h : mE C sc (.bcall g es) x = true) : ∃ f p y ys pos, x = .Call (.Name f p) (y :: ys) [] pos ∧ (glName sc f g.nm && mEs C sc es (y :: ys)) = true := by
  unfold mE at h
  split at h
  all_goals first
    | (rename_i hh; cases hh; exact ⟨_, _, _, _, _, rfl, h⟩)
    | (rename_i hh; cases hh; done)
    | cases h
theorem inv_bmeth (h : mE C sc (.bmeth m a es) x = true) : ∃ y n p xs pos, x = .Call (.Attribute y n p) xs [] pos ∧ (noSuper y && decide (n = m.nm) && p.endLine == pos.line && mE C sc a y && mEs C sc es xs && decide (xs.length < 5)) = true := by
  unfold mE at h
  split at h
  all_goals first
    | (rename_i hh; cases hh; exact ⟨_, _, _, _, _, rfl, h⟩)
    | (rename_i hh; cases hh; done)
    | cases h
theorem inv_call (h : mE C sc (.call k es) x = true) : ∃ y p xs pos, x = .Call (.Name y p) xs [] pos ∧ (decide (C.nm[k]? = some y) && isGl sc y && okNm y && mEs C sc es xs) = true := by
  unfold mE at h
  split at h
  all_goals first
    | (rename_i hh; cases hh; exact ⟨_, _, _, _, rfl, h⟩)
    | (rename_i hh; cases hh; done)
    | cases h
theorem inv_dicc {s0 : List Nat} {i0 : Int} (h : mE C sc (.dicc s0 i0) x = true) : ∃ c1 j1 p1 c2 j2 p2 pos, x = .Dict [some (.Constant c1 j1 p1)] [.Constant c2 j2 p2] pos ∧ (okC (.str s0) c1 && okC (.int i0) c2) = true := by
  unfold mE at h
  split at h
  all_goals first
    | (rename_i hh; cases hh; exact ⟨_, _, _, _, _, _, _, rfl, h⟩)
    | (rename_i hh; cases hh; done)
    | cases h
theorem inv_fld {n : Str} (h : mE C sc (.fld a n) x = true) : ∃ y m pos, x = .Attribute y m pos ∧ (noSuper y && decide (n = m) && mE C sc a y) = true := by
  unfold mE at h
  split at h
  all_goals first
    | (rename_i hh; cases hh; exact ⟨_, _, _, rfl, h⟩)
    | (rename_i hh; cases hh; done)
    | cases h
theorem inv_isc {k : Nat} (h : mE C sc (.isc a k) x = true) : ∃ f p y z q pos, x = .Call (.Name f p) [y, .Name z q] [] pos ∧ (glName sc f "isinstance" && decide (C.nm[k]? = some z) && isGl sc z && okNm z && mE C sc a y) = true := by
  unfold mE at h
  split at h
  all_goals first
    | (rename_i hh; cases hh; exact ⟨_, _, _, _, _, _, rfl, h⟩)
    | (rename_i hh; cases hh; done)
    | cases h
theorem inv_mkx (h : mE C sc (.mkx k es) x = true) : ∃ y p xs pos, x = .Call (.Name y p) xs [] pos ∧ (decide (C.nm[k]? = some y) && isGl sc y && okNm y && mEs C sc es xs) = true := by
  unfold mE at h
  split at h
  all_goals first
    | (rename_i hh; cases hh; exact ⟨_, _, _, _, rfl, h⟩)
    | (rename_i hh; cases hh; done)
    | cases h
theorem inv_new (h : mE C sc (.new k es) x = true) : ∃ y p xs pos, x = .Call (.Name y p) xs [] pos ∧ (decide (C.nm[k]? = some y) && isGl sc y && okNm y && mEs C sc es xs) = true := by
  unfold mE at h
  split at h
  all_goals first
    | (rename_i hh; cases hh; exact ⟨_, _, _, _, rfl, h⟩)
    | (rename_i hh; cases hh; done)
    | cases h
theorem inv_meth {m : Str} (h : mE C sc (.meth a m es) x = true) : ∃ y n p xs pos, x = .Call (.Attribute y n p) xs [] pos ∧ (noSuper y && decide (n = m) && p.endLine == pos.line && mE C sc a y && mEs C sc es xs && decide (xs.length < 7)) = true := by
  unfold mE at h
  split at h
  all_goals first
    | (rename_i hh; cases hh; exact ⟨_, _, _, _, _, rfl, h⟩)
    | (rename_i hh; cases hh; done)
    | cases h
theorem inv_lof (h : mE C sc (.lof a) x = true) : ∃ f p y pos, x = .Call (.Name f p) [y] [] pos ∧ (glName sc f "list" && mE C sc a y) = true := by
  unfold mE at h
  split at h
  all_goals first
    | (rename_i hh; cases hh; exact ⟨_, _, _, _, rfl, h⟩)
    | (rename_i hh; cases hh; done)
    | cases h
theorem inv_lor (h : mE C sc (.lor new a) x = true) : ∃ f p g q y pos2 pos, x = .Call (.Name f p) [.Call (.Name g q) [y] [] pos2] [] pos ∧ (glName sc f "list" && glName sc g "range" && mE C sc a y) = true := by
  unfold mE at h
  split at h
  all_goals first
    | (rename_i hh; cases hh; exact ⟨_, _, _, _, _, _, _, rfl, h⟩)
    | (rename_i hh; cases hh; done)
    | cases h
theorem inv_sset (h : mE C sc (.sset a) x = true) : ∃ f p g q y pos2 pos, x = .Call (.Name f p) [.Call (.Name g q) [y] [] pos2] [] pos ∧ (glName sc f "sorted" && glName sc g "set" && mE C sc a y) = true := by
  unfold mE at h
  split at h
  all_goals first
    | (rename_i hh; cases hh; exact ⟨_, _, _, _, _, _, _, rfl, h⟩)
    | (rename_i hh; cases hh; done)
    | cases h
theorem inv_inr {neg : Bool} (h : mE C sc (.inr neg a b) x = true) : ∃ y o' z pos, x = .Compare y [o'] [z] pos ∧ (decide (o' = if neg then .NotIn else .In) && !behindInMarks o' z && mE C sc a y && mE C sc b z) = true := by
  unfold mE at h
  split at h
  all_goals first
    | (rename_i hh; cases hh; exact ⟨_, _, _, _, rfl, h⟩)
    | (rename_i hh; cases hh; done)
    | cases h
theorem inv_lcv (h : mE C sc (.lcv new elt tg a ifs own) x = true) : ∃ e t2 iter fs scope pos, x = .ListComp e [⟨t2, iter, fs, 0⟩] scope pos ∧
    (tgIn tg own && blkC C.N sc scope (own.map fun i => (C.N.getD i Str.empty, i)) && own.all (fun i => decide (i < C.N.length)) && mE C sc a iter && mT C false (relS scope sc) tg t2 && decide (fs.length ≤ 1) && mEs C (relS scope sc) ifs fs && mE C (relS scope sc) elt e) = true := by
  unfold mE at h
  split at h
  all_goals first
    | (rename_i hh; cases hh; exact ⟨_, _, _, _, _, _, rfl, h⟩)
    | (rename_i hh; cases hh; done)
    | cases h
theorem inv_range (h : mI C sc (.range a) x = true) : ∃ f p y pos, x = .Call (.Name f p) [y] [] pos ∧ (glName sc f "range" && mE C sc a y) = true := by
  unfold mI at h
  split at h
  all_goals first
    | (rename_i hh; cases hh; exact ⟨_, _, _, _, rfl, h⟩)
    | (rename_i hh; cases hh; done)
    | cases h
theorem inv_range2 (h : mI C sc (.range2 a b) x = true) : ∃ f p y z pos, x = .Call (.Name f p) [y, z] [] pos ∧ (glName sc f "range" && mE C sc a y && mE C sc b z) = true := by
  unfold mI at h
  split at h
  all_goals first
    | (rename_i hh; cases hh; exact ⟨_, _, _, _, _, rfl, h⟩)
    | (rename_i hh; cases hh; done)
    | cases h
theorem mI_set {env : PySem.Env} (h : mI C sc it x = true) : ∀ v, foldedSetIterable x env v = pure v := by
  cases it with
  | seq e => exact not_set (by simpa [mI] using h)
  | range e => obtain ⟨f, p, y, pos, rfl, _⟩ := inv_range h; exact fun _ => rfl
  | range2 a b => obtain ⟨f, p, y, z, pos, rfl, _⟩ := inv_range2 h; exact fun _ => rfl
  | enum e => simp [mI] at h
  | zip a b => simp [mI] at h
theorem inv_lc (h : mE C sc (.lc new elt tg it ifs own) x = true) : ∃ e t2 iter fs scope pos, x = .ListComp e [⟨t2, iter, fs, 0⟩] scope pos ∧
    (tgIn tg own && blkC C.N sc scope (own.map fun i => (C.N.getD i Str.empty, i)) && own.all (fun i => decide (i < C.N.length)) && mI C sc it iter && mT C false (relS scope sc) tg t2 && decide (fs.length ≤ 1) && mEs C (relS scope sc) ifs fs && mE C (relS scope sc) elt e) = true := by
  unfold mE at h
  split at h
  all_goals first
    | (rename_i hh; cases hh; exact ⟨_, _, _, _, _, _, rfl, h⟩)
    | (rename_i hh; cases hh; done)
    | cases h
end

section
variable {nm : List Str} {ca : Nat → Value} {G : Gam} {lv : Nat} {N : List Str}

theorem and_go {X : Cx} {W : WX} {k : Bool} {e : Ex} {es : Exs} {e2 : Ex} {es2 : Exs} (he : es = .cons e2 es2) {σ : L2.St} {H : Hp} {Q : VK} {L : Addr → Prop} {f : List Addr} {r : Z9.Env} {h : Hh} (S : SRel X.K L f h H) (sl : SlR X.K L f H r σ)
    (p : PostR X.K L f H ca (fun c d H' => W c d σ H') (evA G k (.cons e es) r h) fun d f' _ H' => ∀ v, Rep X.K L f' H' v d → Q v H') :
    tE X.K ca W G e σ H fun x H1 => ∃ c, x = .bl c ∧ if c = k then (∃ (L : Addr → Prop) (f : List Addr) (r : Z9.Env) (h : Hh), SRel X.K L f h H1 ∧ SlR X.K L f H1 r σ ∧
      PostR X.K L f H1 ca (fun c d H' => W c d σ H') (evA G k es r h) fun d f' _ H' => ∀ v, Rep X.K L f' H' v d → Q v H') else Q (.bl c) H1 := by
  subst he
  unfold evA at p
  refine tE_of S sl ((p.bind S).mono fun d f1 h1 H1 l1 S1 p1 v rv => ?_)
  obtain ⟨b, eb, p2⟩ := p1.pureBind boolD_exc
  have := boolD_ok eb
  simp only at this
  subst this
  refine ⟨b, rv.blE, ?_⟩
  replace p2 : PostR X.K L f1 H1 ca (fun c d H' => W c d σ H') (if b = k then evA G k (.cons e2 es2) r h1 else Res.ok (D.bl b, h1)) fun d f' _ H' => ∀ v, Rep X.K L f' H' v d → Q v H' := p2
  by_cases hb : b = k
  · rw [if_pos hb] at p2 ⊢
    exact ⟨L, f1, r, h1, S1, sl.mono S l1, p2⟩
  · rw [if_neg hb] at p2 ⊢
    exact p2.here S1 _ (.bl _)

theorem mem_of_lookS {β : Type} {n : Str} {y : β} : ∀ {l : List (Str × β)}, l.lookup n = some y → (n, y) ∈ l
  | [], e => by cases e
  | (m, z) :: l, e => by
    rw [List.lookup_cons] at e
    split at e
    · rename_i hb
      cases e
      rw [beq_iff_eq.mp hb]
      exact List.mem_cons_self
    · exact List.mem_cons_of_mem _ (mem_of_lookS e)
def BM.ty : BM → String
  | .join => "str" | .append => "list" | .pop => "list"
theorem recv_ty {K : PySem.W.Frag} {L : Addr → Prop} {f : List Addr} {h : Hh} {H : Hp} {m : BM} {d : D} {v : V} (S : SRel K L f h H) (r : Rep K L f H v d) (hr : recvD h m d = true) : tyV K (BM.ty m) v H := by
  have ref : ∀ i, d = .ref i → isLD h[i]? = true → tyV K "list" v H := by
    rintro i rfl hl
    unfold isLD at hl
    split at hl
    · rename_i ds e
      obtain ⟨a, vs, e1, e2, _⟩ := S.objL e
      cases r with
      | ref e3 =>
        rw [e1] at e3
        cases e3
        exact .inl ⟨rfl, vs, .of e2⟩
    · cases hl
  cases m with
  | join =>
    cases d <;> simp [recvD] at hr
    obtain ⟨rfl, _, _⟩ := r.signs
    exact rfl
  | append =>
    cases d <;> simp [recvD] at hr
    exact ref _ rfl hr
  | pop =>
    cases d <;> simp [recvD] at hr
    exact ref _ rfl hr
theorem pe_callS0 {X : Cx} {CX : CXT} {k : Nat} {f : Addr} {fd : FuncData} {ps : List Str} {sp : Sp} {E : L2.St → XK} {x : Str} {p pos : Pos} (F : FnOk X.prog X.w X.K X.mg X.base CX k f fd ps sp) (hr : Room k X.A) (hg : Gl X x) (hm : X.mg x = some (.ref f)) (hk : PySem.W.keepIn X.K (.ref f) = true) (hb : Binds X.K fd ps []) (hx : ∀ σ, PassesAt CX X σ (E σ))
    (hdb : (x == ("__debug__" : Str)) = false) : PE X (.Call (.Name x p) [] [] pos) (fun σ H Q => sp [] H Q (E σ)) := by
  refine ⟨fun pins s σ H Q I h => ?_⟩
  refine wpAny_Call_Name_kw (ld_glob I hg hm ?_ hdb)
  exact PySem.W.callWith_K0 I.kIn hk (run_fnS (us := []) F hr hb (hx σ) I .nil h)
theorem both {X : Cx} {W : WX} {e : Ex} {x : Expr} (pe : PE X x (tE X.K ca W G e)) (hp : plainT x = true) : PE X x (tE X.K ca W G e) ∧ PT X x (tT X.K ca W G e) :=
  ⟨pe, PTm (pt_val pe (isTrue_of hp)) fun σ H Q q => tT_tE q⟩
/-- what is asked of and, or -/
def tA (K : PySem.W.Frag) (ca : Nat → Value) (W : WX) (G : Gam) (k : Bool) (es : Exs) : TE := fun σ H Q => ∃ (L : Addr → Prop) (f : List Addr) (r : Z9.Env) (h : Hh), SRel K L f h H ∧ SlR K L f H r σ ∧
  PostR K L f H ca (fun c d H' => W c d σ H') (evA G k es r h) fun d f' _ H' => ∀ v, Rep K L f' H' v d → Q v H'
def tAT (K : PySem.W.Frag) (ca : Nat → Value) (W : WX) (G : Gam) (k : Bool) (es : Exs) : TT := fun σ H Q => ∃ (L : Addr → Prop) (f : List Addr) (r : Z9.Env) (h : Hh), SRel K L f h H ∧ SlR K L f H r σ ∧
  PostR K L f H ca (fun c d H' => W c d σ H') ((evA G k es r h).bind fun p => (boolD p.1).bind fun t => .ok (t, p.2)) fun b _ _ H' => Q b H'
theorem pt_ifExp {X : Cx} {c a b : Expr} {tc ta tb : TT} {pos : Pos} (hc : PT X c tc) (ha : PT X a ta) (hb : PT X b tb) : PT X (.IfExp c a b pos) (fun σ H Q => tc σ H fun k H1 => if k = true then ta σ H1 Q else tb σ H1 Q) := by
  refine ⟨fun pins s σ H Q I h => ?_⟩
  refine isTrue_IfExp (thn (hc.run pins s σ H _ I h) fun d s1 ⟨H1, I1, q1⟩ => ?_)
  cases d with
  | true => exact ha.run pins s1 σ H1 Q I1 q1
  | false => exact hb.run pins s1 σ H1 Q I1 q1
theorem bind_assoc' {α β γ : Type} (x : Res α) (g : α → Res β) (k : β → Res γ) : (x.bind g).bind k = x.bind fun a => (g a).bind k := by cases x <;> rfl
theorem isiD_exc (h : Hh) (d : D) (t : Ty) : ∀ c xs h', isiD h d t ≠ .exc c xs h' := by
  intro c xs h'
  unfold isiD
  exact bindC_exc ofO_exc (by intros; simp) _ _ _

theorem op_inR {X : Cx} (hu : X.A.units + 65 < cLine) (neg : Bool) : OpR X (compareOp (if neg then .NotIn else .In)) (rD X.K fun x y h => match refL h y with
    | some (_, ys) => cmpD (if neg then .NotIn else .In) x (.lst ys)
    | none => .no) := by
  intro pins s σ H x y v u Q I rx ry hh
  obtain ⟨L, f, h, d, e, S, rd, re, q0⟩ := hh
  obtain ⟨z, hz, q⟩ := rD_ok q0
  cases er : refL h e with
  | none =>
    simp only [er] at hz
    cases hz
  | some iy =>
    obtain ⟨i, ys⟩ := iy
    simp only [er] at hz
    obtain ⟨rfl, el⟩ := refL_ok er
    obtain ⟨a, vs, e1, e2, rr⟩ := S.objL el
    cases re with
    | ref e3 =>
      rw [e1] at e3
      cases e3
      have hz2 : ofB (canEq d && canEq (.lst ys)) (D.bl (if neg then !hasD d ys else hasD d ys)) = .ok z := by
        rw [← hz]
        cases neg <;> cases d <;> rfl
      obtain ⟨hc, rfl⟩ := ofB_ok hz2
      rw [Bool.and_eq_true] at hc
      obtain ⟨a1, a2⟩ := eq_data hc.1 rd
      obtain ⟨n, en, _⟩ := canEq_dep hc.1
      obtain ⟨m, em, hm⟩ := canEq_dep hc.2
      have em0 := em
      simp only [depD, Option.map_eq_some_iff] at em
      obtain ⟨m', em, rfl⟩ := em
      obtain ⟨b1, b2⟩ := rep_dps ys m' vs em rr
      have b3 : SeqAt.shaped (toP (.lst ys)) = true := by
        have := dep_shape (.lst ys) _ em0
        show ((toP (.lst ys)).canLay0 && decide ((toP (.lst ys)).depth ≤ 64)) = true
        rw [decide_eq_true (by omega), Bool.and_true]
        simpa [toP, PyData.canLay0] using b2
      obtain ⟨as, r1⟩ := Dp.reads I _ x v a1 rx
      obtain ⟨bs, r2⟩ := Dp.reads I (toP (.lst ys)) _ u (.lst (.of e2) b1) ry
      have fin := q H _ .refl S (.bl _)
      cases neg with
      | false =>
        simp only [Bool.false_eq_true, if_false] at fin ⊢
        rw [← any_eqv _ n en _ m' em] at fin
        exact SeqAt.in_list_reads r2 r1 (SeqAt.canLay_of_shaped b3) (SeqAt.canLay_of_shaped a2) (room_in_shaped a2 hu) ⟨.bl _, H, I, rfl, fin⟩
      | true =>
        simp only [if_true] at fin ⊢
        rw [← any_eqv _ n en _ m' em] at fin
        exact SeqAt.notIn_list_reads r2 r1 (SeqAt.canLay_of_shaped b3) (SeqAt.canLay_of_shaped a2) (room_in_shaped a2 hu) ⟨.bl _, H, I, rfl, fin⟩
theorem inR_exc (neg : Bool) (d e : D) (h : Hh) : ∀ c xs h', (fun x y h => match refL h y with
    | some (_, ys) => cmpD (if neg then .NotIn else .In) x (.lst ys)
    | none => .no) d e h ≠ .exc c xs h' := by
  intro c xs h'
  show (match refL h e with
    | some (_, ys) => cmpD (if neg then .NotIn else .In) d (.lst ys)
    | none => .no) ≠ _
  split
  · exact cmpD_exc _ _ _ h _ _ _
  · simp
theorem rg_rep {K : PySem.W.Frag} {L : Addr → Prop} {f : List Addr} {H : Hp} {n : Int} : RepL K L f H (rgV 0 n) ((List.range n.toNat).map fun (i : Nat) => D.int (0 + (i : Int))) := by
  unfold rgV
  rw [Int.sub_zero]
  generalize List.range n.toNat = l
  induction l with
  | nil => exact .nil
  | cons i l ih => exact .cons (.int _) ih
mutual
theorem soundE : ∀ (e : Ex) {x : Expr} {sc : Scope} {X : Cx} {W : WX}, COk nm ca G lv N sc X → Takes X W → mE ⟨N, nm⟩ sc e x = true → PE X x (tE X.K ca W G e) ∧ PT X x (tT X.K ca W G e)
  | .var i, x, sc, X, W, c, tk, h => by
    cases x <;> simp only [mE, Bool.and_eq_true, Bool.false_eq_true, decide_eq_true_eq] at h
    obtain ⟨⟨h1, h2⟩, h3⟩ := h
    obtain ⟨a, b, _⟩ := okNm_of h3
    suffices pe : PE X _ (tE X.K ca W G _) from both pe rfl
    refine PEm (pe_var (i := i) (by rw [c.N]; exact h1) (by rw [c.sc]; exact isLoc_vis h2) a b) fun σ H Q q => ?_
    obtain ⟨L, f, r, hh, S, sl, p⟩ := q
    unfold evE at p
    obtain ⟨d, ed, p2⟩ := p.pureBind getV_exc
    obtain ⟨v, e1, e2⟩ := sl.at_ i d (getV_ok ed)
    exact ⟨v, e1, p2.here S v e2⟩
  | .con d, x, sc, X, W, c, tk, h => by
    cases x <;> try simp only [mE, Bool.false_eq_true] at h
    suffices pe : PE X _ (tE X.K ca W G _) from both pe rfl
    rename_i k j pos
    unfold okC at h
    split at h
    · exact PEm pe_non fun σ H Q ⟨L, f, r, hh, S, sl, p⟩ => p.here S _ .non
    · rename_i a b
      have : a = b := by simpa using h
      subst this
      exact PEm pe_bl fun σ H Q ⟨L, f, r, hh, S, sl, p⟩ => p.here S _ (.bl _)
    · rename_i a b
      have : a = b := by simpa using h
      subst this
      exact PEm pe_int fun σ H Q ⟨L, f, r, hh, S, sl, p⟩ => p.here S _ (.int _)
    · rename_i a b
      simp only [Bool.and_eq_true, beq_iff_eq, decide_eq_true_eq] at h
      obtain ⟨⟨rfl, h2⟩, h3⟩ := h
      exact PEm pe_str fun σ H Q ⟨L, f, r, hh, S, sl, p⟩ => p.here S _ (.str _ h2 (by rw [sizeLine_eq]; omega))
    · cases h
  | .glob k, x, sc, X, W, c, tk, h => by
    cases x <;> simp only [mE, Bool.and_eq_true, Bool.false_eq_true, decide_eq_true_eq] at h
    obtain ⟨⟨h1, h2⟩, h3⟩ := h
    obtain ⟨a, b, _⟩ := okNm_of h3
    suffices pe : PE X _ (tE X.K ca W G _) from both pe rfl
    cases ek : G.con k with
    | none =>
      exact ⟨fun pins s σ H Q I q => by
        obtain ⟨L, f, r, hh, S, sl, p⟩ := q
        unfold evE at p
        rw [ek] at p
        exact p.elim⟩
    | some d =>
      obtain ⟨v, u, e1, e2, e3⟩ := c.gam.con k d _ ek h1
      refine PEm (pe_glob (isGl_gl c h2) e1 e2 a) fun σ H Q ⟨L, f, r, hh, S, sl, p⟩ => ?_
      unfold evE at p
      rw [ek] at p
      exact p.here S v (e3 _ _ _)
  | .dic0, x, sc, X, W, c, tk, h => by
    cases x <;> try simp only [mE, Bool.false_eq_true] at h
    suffices pe : PE X _ (tE X.K ca W G _) from both pe rfl
    rename_i ks vs pos
    cases ks <;> cases vs <;> simp only [mE, Bool.false_eq_true] at h
    refine PEm pe_dnewK fun σ H Q ⟨L, f, r, hh, S, sl, p⟩ => ?_
    intro q hq
    obtain ⟨l, S', n1, n2⟩ := S.alloc (o := .dK []) hq
    exact p f _ l S' _ (.dic (ks := []) (vs := []) upd_same rfl n1 n2 .nil)
  | .dicc s0 i0, x, sc, X, W, c, tk, h => by
    obtain ⟨c1, j1, p1, c2, j2, p2, pos, rfl, hq⟩ := inv_dicc h
    simp only [Bool.and_eq_true] at hq
    obtain ⟨h1, h2⟩ := hq
    suffices pe : PE X _ (tE X.K ca W G _) from both pe rfl
    obtain rfl : c1 = .str ⟨s0.toArray⟩ := by
      cases c1 <;> simp only [okC, Bool.false_eq_true] at h1
      simp only [Bool.and_eq_true, beq_iff_eq] at h1
      rw [h1.1.1]
    obtain rfl : c2 = .int i0 := by
      cases c2 <;> simp only [okC, Bool.false_eq_true] at h2
      simp only [beq_iff_eq] at h2
      rw [h2]
    refine PEm (pe_disp (pps_cons pe_str pe_int pps_nil) rfl rfl (by simp) (by simp)) fun σ H Q ⟨L, f, r, hh, S, sl, p⟩ => ?_
    intro q hq
    obtain ⟨l, S', n1, n2⟩ := S.alloc (o := .dK [(.inr ⟨s0.toArray⟩, .int i0)]) hq
    refine ⟨upd_same, [(.inr ⟨s0.toArray⟩, .int i0)], rfl, by simp, ?_⟩
    have : upd (upd H q (.dK [])) q (.dK (mergeK [] [(.inr ⟨s0.toArray⟩, .int i0)])) = upd H q (.dK [(.inr ⟨s0.toArray⟩, .int i0)]) := upd_upd
    rw [this]
    unfold evE at p
    exact p f _ l S' _ (.dic (ks := [s0]) (vs := [.int i0]) upd_same rfl n1 n2 (.cons (.int _) .nil))
  | .fld a n, x, sc, X, W, c, tk, h => by
    obtain ⟨y, m, pos, rfl, hq⟩ := inv_fld h
    simp only [Bool.and_eq_true, decide_eq_true_eq] at hq
    obtain ⟨⟨h1, rfl⟩, h3⟩ := hq
    suffices pe : PE X _ (tE X.K ca W G _) from both pe rfl
    refine PEm (pe_xwi (soundE a c tk h3).1 (base_of h1)) fun σ H Q ⟨L, f, r, hh, S, sl, p⟩ => ?_
    unfold evE at p
    refine tE_of S sl ((p.bind S).mono fun d f1 h1 H1 l1 S1 p1 v rv => ?_)
    obtain ⟨z, ez, p2⟩ := p1.pureBind (fldD_exc _ _ _ _)
    replace ez : fldD G h1 d n = .ok z := ez
    unfold fldD at ez
    split at ez
    · split at ez
      · rename_i he
        have el := ofO_ok ez
        cases rv with
        | exc e cn nl nf hz x rr =>
          obtain ⟨xf, fi⟩ := c.gam.efl _ _ _ he cn
          obtain ⟨v', lv, rv'⟩ := zip_look hz rr el
          rcases x with ⟨_, hn⟩ | ⟨dd, rfl, ed, _, _⟩
          · rw [hn] at lv
            cases lv
          · exact .inl ⟨_, _, dd, _, v', rfl, e, ed, xf, fi, lv, p2.here S1 v' rv'⟩
      · cases ez
    · split at ez
      · rename_i c1 ns1 ds1 eld
        split at ez
        · rename_i he
          have el := ofO_ok ez
          cases d with
          | ref i =>
            have eh : h1[i]? = some (.ins c1 ns1 ds1) := by
              cases k : h1[i]? with
              | none => simp [lookD, k] at eld
              | some d' => simpa [lookD, k] using eld
            obtain ⟨a', C, dx, vs, e1, e2, e3, e4, rr⟩ := S1.objI eh
            obtain ⟨cl, na⟩ := c.gam.ifl _ _ _ he e4
            obtain ⟨v', lv, rv'⟩ := zip_look e3 rr el
            cases rv with
            | ref e5 =>
              rw [e1] at e5
              cases e5
              exact .inr ⟨_, C, dx, _, v', rfl, e2, cl, na, lv, p2.here S1 v' rv'⟩
          | ins =>
            cases eld
            cases rv with
            | ins e lq cn nl nf rr =>
              obtain ⟨cl, na⟩ := c.gam.ifl _ _ _ he cn
              obtain ⟨v', lv, rv'⟩ := zip_look lq rr el
              exact .inr ⟨_, _, _, _, v', rfl, e, cl, na, lv, p2.here S1 v' rv'⟩
          | _ => cases eld
        · cases ez
      · cases ez
  | .isc a k, x, sc, X, W, c, tk, h => by
    obtain ⟨fn, pp, y, z, qq, pos, rfl, hq⟩ := inv_isc h
    simp only [Bool.and_eq_true, decide_eq_true_eq] at hq
    obtain ⟨⟨⟨⟨h1, h2⟩, h3⟩, h4⟩, h5⟩ := hq
    obtain ⟨rfl, g1, g2, g3, g4⟩ := glName_of c h1 (by decide)
    obtain ⟨a1, a2, a3⟩ := okNm_of h4
    suffices pe : PE X _ (tE X.K ca W G _) from both pe rfl
    have pz : ∃ tz : TE, PE X (.Name z qq) tz ∧ ∀ c0 b C, G.esub c0 k = some b → clsNm X.K C = some c0 → ∃ v cv, tz = tC v ∧ ClsV v cv ∧ EcK X.K C ∧ PySem.W.kitOne X.K (.ref C) cv = some b := by
      by_cases hx : ∃ c0 b, G.esub c0 k = some b
      · obtain ⟨v, cv, q1, q2, q3, q4⟩ := c.gam.esub k z hx h2
        refine ⟨tC v, ?_, fun c0 b C e1 e2 => ⟨v, cv, rfl, q1, q4 c0 b C e1 e2⟩⟩
        rcases q3 with q3 | ⟨q3, q5⟩
        · exact pe_glob (isGl_gl c h3) q3 q2 a1
        · exact pe_bltn (isGl_gl c h3) q3 q5 q2 a3 a1
      · exact ⟨fun _ _ _ => False, ⟨fun _ _ _ _ _ _ z => z.elim⟩, fun c0 b C e1 _ => absurd ⟨c0, b, e1⟩ hx⟩
    obtain ⟨tz, pz, hz⟩ := pz
    refine PEm (pe_callB call_isw g1 g2 (by decide +kernel) (pa_cons (soundE a c tk h5).1 (pa_cons pz pa_nil (by rfl)) (star_cons (mE_plain h5).1)) (by decide) (by decide) (star_cons (mE_plain h5).1) (by rfl)) fun σ H Q ⟨L, f, r, hh, S, sl, p⟩ => ?_
    unfold evE at p
    refine tE_of S sl ((p.bind S).mono fun d f1 h1 H1 l1 S1 p1 v rv => ?_)
    obtain ⟨w, ew, p2⟩ := p1.pureBind (iscD_exc _ _ _)
    replace ew : iscD G d k = .ok w := ew
    unfold iscD at ew
    split at ew
    · rename_i c0 ns ds
      obtain ⟨b, eb, e3⟩ := bind_ok ew
      cases e3
      have eb := ofO_ok eb
      cases rv with
      | exc e cn nl nf hl x rr =>
        obtain ⟨cw, cv, e4, k1, k2, k3⟩ := hz _ _ _ eb cn
        subst e4
        rcases x with ⟨rfl, hn⟩ | ⟨dd, rfl, ed, _, _⟩
        · exact ⟨_, _, none, [], cw, cv, b, rfl, e, rfl, k2, k1, k3, p2.here S1 _ (.bl b)⟩
        · exact ⟨_, _, some dd, _, cw, cv, b, rfl, e, ed, k2, k1, k3, p2.here S1 _ (.bl b)⟩
    · cases ew
  | .new k es, x, sc, X, W, c, tk, h => by
    obtain ⟨y, pp, xs, pos, rfl, hq⟩ := inv_new h
    simp only [Bool.and_eq_true, decide_eq_true_eq] at hq
    obtain ⟨⟨⟨h1, h2⟩, h3⟩, h4⟩ := hq
    obtain ⟨a1, a2, a3⟩ := okNm_of h3
    have ha := soundEs es c tk h4
    suffices pe : PE X _ (tE X.K ca W G _) from both pe rfl
    cases eg : G.ini k with
    | none =>
      exact ⟨fun pins s σ H Q I ⟨L, f, r, hh, S, sl, p⟩ => by
        unfold evE at p
        rw [eg] at p
        exact p.elim⟩
    | some m =>
      obtain ⟨n, cn, g⟩ := m
      obtain ⟨j, C, fI, fd, ps, hj, M, gC, nmc, bi, hps, Fi⟩ := c.gam.ini k n cn g y eg h1
      have hr : Room (j + 1) X.A := c.room.mono hj
      have go : ∀ σ H Q, tE X.K ca W G (.new k es) σ H Q → tMakeS C (spG X.K ca (n + 1) g) (WE W) (tEs X.K ca W G es) σ H Q := fun σ H Q ⟨L, f, r, hh, S, sl, p⟩ => by
        unfold evE at p
        rw [eg] at p
        refine ⟨L, f, r, hh, S, sl, (p.bind S).mono fun ds f1 h1 H1 l1 S1 p1 vs rv => ?_⟩
        intro q dx hq hd hne
        by_cases hn : ds.length = n
        · rw [if_pos hn] at p1
          obtain ⟨l2, S2⟩ := S1.pushI (C := C) hq hd hne nmc
          refine ⟨by rw [List.length_cons, rv.length, hn], L, f1 ++ [q], h1 ++ [.ins cn [] []], .ref h1.length :: ds, S2, .cons (.ref (by rw [← S1.len]; simp)) (rv.mono S1 l2), ?_⟩
          have p2 := PostR.bind S2 (PostR.later S1 S2 l2 p1)
          refine p2.mono fun d f3 h3 H3 l3 S3 p3 v rd => ?_
          unfold madeD at p3
          cases d with
          | non =>
            cases rd
            refine ⟨rfl, p3.here S3 _ (.ref ?_)⟩
            obtain ⟨g2, e2, _⟩ := l3.pre
            rw [e2, List.append_assoc, ← S1.len]
            simp
          | _ => exact p3.elim
        · rw [if_neg hn] at p1
          exact p1.elim
      cases es with
      | nil =>
        cases xs with
        | cons _ _ => simp [mEs] at h4
        | nil =>
          refine PEm (pe_makeS0 M Fi hr (isGl_gl c h2) gC bi (fun σ => passAt tk σ) a1) fun σ H Q q => ?_
          obtain ⟨L, f, r, hh, S, sl, p⟩ := go σ H Q q
          exact p.here S [] .nil
      | cons e es =>
        cases xs with
        | nil => simp [mEs] at h4
        | cons x xs =>
          simp only [mEs, Bool.and_eq_true] at h4
          exact PEm (pe_makeS M Fi hr (isGl_gl c h2) gC bi (fun σ => passAt tk σ) ha a1 (star_cons (mE_plain h4.1).1) (mEs_star h4.2 pos)) go
  | .meth a m es, x, sc, X, W, c, tk, h => by
    obtain ⟨y, n, pp, xs, pos, rfl, hq⟩ := inv_meth h
    simp only [Bool.and_eq_true, decide_eq_true_eq] at hq
    obtain ⟨⟨⟨⟨⟨h1, rfl⟩, h3⟩, h4⟩, h5⟩, h6⟩ := hq
    have pa := (soundE a c tk h4).1
    have ha := soundEs es c tk h5
    suffices pe : PE X _ (tE X.K ca W G _) from both pe rfl
    have hl : (pp.endLine == pos.line) = true := h3
    have go : ∀ t : TA, (∀ σ H Q, tEs X.K ca W G es σ H Q → t σ H Q) → ∀ σ H Q, tE X.K ca W G (.meth a n es) σ H Q → tMethD X lv n (WE W) (tE X.K ca W G a) t σ H Q := fun t ht σ H Q ⟨L, f, r, hh, S, sl, p⟩ => by
      unfold evE at p
      refine tE_of S sl ((p.bind S).mono fun d f1 h1 H1 l1 S1 p1 v rv => ?_)
      have key : ∀ {C dx : Addr} {vs : List V} {cn : Str} {ns : List Str} {ds : List D} {ad : Addr}, v = .ref ad → lookD h1 d = .ins cn ns ds → H1 ad = some (.ins C dx (ns.zip vs)) → ns.length = vs.length → clsNm X.K C = some cn → ∃ (a C dx : Addr) (fs : List (Str × V)) (fa : Addr) (fd : FuncData) (ps : List Str) (sp : Sp), v = .ref a ∧ H1 a = some (.ins C dx fs) ∧ Cls X.K C ∧ Meth X.K C n fa ∧
          FnOk X.prog X.w X.K X.mg X.base (L2.CX X.prog X.w) lv fa fd ps sp ∧ L2.Binds X.K fd ps [] ∧ fs.lookup n = none ∧ t σ H1 fun vs H2 => sp (v :: vs) H2 Q (WE W σ) := by
        intro C dx vs cn ns ds ad hv el e2 e3 e4
        have em : methD G h1 d n = if ns.contains n then none else G.mth cn n := by unfold methD; rw [el]
        replace p1 : PostR X.K L f1 H1 ca (fun c d H' => W c d σ H') (match methD G h1 d n with
          | some g => (evEs G es r h1).bind fun q => if q.1.length = g.1 then g.2 (d :: q.1) q.2 else .no
          | none => .no) fun d f' _ H' => ∀ v, Rep X.K L f' H' v d → Q v H' := p1
        rw [em] at p1
        split at p1
        · rename_i g eg
          split at eg
          · cases eg
          · rename_i nc
            obtain ⟨k, gg⟩ := g
            obtain ⟨fa, fd, ps, cl, hm, bi, hps, Fi⟩ := c.gam.mth cn n k gg C eg e4
            refine ⟨ad, C, dx, _, fa, fd, ps, _, hv, e2, cl, hm, Fi, bi, ?_, ht _ _ _ ⟨L, f1, r, h1, S1, sl.mono S l1, (p1.bind S1).mono fun ds2 f2 h2 H2 l2 S2 p2 ws rw' => ?_⟩⟩
            · cases el2 : (ns.zip vs).lookup n with
              | none => rfl
              | some y =>
                have := mem_of_lookS el2
                have := (List.of_mem_zip this).1
                exact absurd (List.contains_iff_mem.mpr this) nc
            · by_cases hn : ds2.length = k
              · rw [if_pos hn] at p2
                exact ⟨by rw [List.length_cons, rw'.length, hn], L, f2, h2, d :: ds2, S2, .cons (rv.mono S1 l2) rw', p2⟩
              · rw [if_neg hn] at p2
                exact p2.elim
        · exact p1.elim
      cases d with
      | ref i =>
        cases k : h1[i]? with
        | none =>
          have : methD G h1 (.ref i) n = none := by unfold methD; simp [lookD, k]
          simp only [this] at p1
          exact p1.elim
        | some d' =>
          cases d' with
          | ins cn ns ds =>
            obtain ⟨ad, C, dx, vs, e1, e2, e3, e4, rr⟩ := S1.objI k
            cases rv with
            | ref e5 =>
              rw [e1] at e5
              cases e5
              exact key rfl (show lookD h1 (.ref i) = .ins cn ns ds by unfold lookD; simp only [k]) e2 e3 e4
          | _ =>
            have : methD G h1 (.ref i) n = none := by unfold methD; simp [lookD, k]
            simp only [this] at p1
            exact p1.elim
      | ins =>
        cases rv with
        | ins e lq cn nl nf rr => exact key rfl rfl e lq cn
      | _ => exact p1.elim
    clear h
    cases es with
    | nil =>
      cases xs with
      | cons _ _ => simp [mEs] at h5
      | nil =>
        refine PEm (pe_methD0 pa c.room (fun σ => passAt tk σ) (base_of h1) hl rfl) (go _ fun σ H Q ⟨L, f, r, hh, S, sl, p⟩ => ?_)
        exact p.here S [] .nil
    | cons e es =>
      cases xs with
      | nil => simp [mEs] at h5
      | cons x xs =>
        have hall := few_of (env := X.env) (pos := pos) h5
        have hfew : methodCallForm ((x :: xs).length + ([] : List Keyword).length) (backTo pos (starEach (x :: xs) X.env)) (backToKw pos (keywordEach [] X.env)) = true := by
          unfold methodCallForm
          rw [hall]
          simp only [List.length_cons] at h6
          simp [backToKw, keywordEach]
          omega
        simp only [mEs, Bool.and_eq_true] at h5
        exact PEm (pe_methD pa c.room (fun σ => passAt tk σ) ha (star_cons (mE_plain h5.1).1) (mEs_star h5.2 pos) (base_of h1) hl hfew) (go _ fun _ _ _ q => q)
  | .mkx k es, x, sc, X, W, c, tk, h => by
    obtain ⟨y, pp, xs, pos, rfl, hq⟩ := inv_mkx h
    simp only [Bool.and_eq_true, decide_eq_true_eq] at hq
    obtain ⟨⟨⟨h1, h2⟩, h3⟩, h4⟩ := hq
    obtain ⟨a1, a2, a3⟩ := okNm_of h3
    have ha := soundEs es c tk h4
    suffices pe : PE X _ (tE X.K ca W G _) from both pe rfl
    cases eg : G.mkc k with
    | none =>
      exact ⟨fun pins s σ H Q I ⟨L, f, r, hh, S, sl, p⟩ => by
        unfold evE at p
        rw [eg] at p
        exact p.elim⟩
    | some m =>
      obtain ⟨cn, o⟩ := m
      have hm := c.gam.mkc k y cn o eg h1
      cases hs : mkSh o es with
      | false =>
        exact ⟨fun pins s σ H Q I ⟨L, f, r, hh, S, sl, p⟩ => by
          unfold evE at p
          rw [eg] at p
          simp only [hs, Bool.false_eq_true, if_false] at p
          exact p.elim⟩
      | true =>
        cases o with
        | none =>
          cases es with
          | cons _ _ => simp [mkSh] at hs
          | nil =>
            cases xs with
            | cons _ _ => simp [mEs] at h4
            | nil =>
              obtain ⟨C, bmB, B, nw, ii, F, q, gC, kC, b1, t1, nmc, _⟩ := hm
              refine PEm (pe_of_pmk (pmk_own0 F q gC kC (raises_own b1 t1) (isGl_gl c h2) a1)) fun σ H Q ⟨L, f, r, hh, S, sl, p⟩ => ?_
              intro q hq
              obtain ⟨l, S', n1, n2⟩ := S.alloc (o := exw q (.ref C) none) hq
              unfold evE at p
              rw [eg] at p
              simp only [hs, if_true, evEs, Res.bind_ok, mkxD] at p
              exact p f _ l S' _ (.exc upd_same nmc n1 n2 rfl (.inl ⟨rfl, rfl⟩) .nil)
        | some fl =>
          cases es with
          | nil => simp [mkSh] at hs
          | cons e0 es =>
            cases es with
            | cons _ _ => simp [mkSh] at hs
            | nil =>
              cases xs with
              | nil => simp [mEs] at h4
              | cons x0 xs =>
                cases xs with
                | cons _ _ => simp [mEs] at h4
                | nil =>
                  obtain ⟨hlv, C, fI, fd, ps, oex, fi, ti, Fi, bi, gC, nmc, _⟩ := hm
                  have hr : Room 2 X.A := c.room.mono hlv
                  simp only [mEs, Bool.and_eq_true] at h4
                  refine PEm (pe_of_pmk (pmk_oex (CX := L2.CX X.prog X.w) oex fi ti Fi hr bi .nil (fun _ _ _ _ _ _ _ z => by
                    obtain ⟨_, _, _, _, _, _, _, _, _, _, _, _, z⟩ := z
                    exact z.elim) (isGl_gl c h2) gC ha a1 (star_cons (mE_plain h4.1).1) rfl)) fun σ H Q ⟨L, f, r, hh, S, sl, p⟩ => ?_
                  unfold evE at p
                  rw [eg] at p
                  simp only [hs, if_true] at p
                  refine ⟨L, f, r, hh, S, sl, (p.bind S).mono fun ds f1 h1 H1 l1 S1 p1 vs rv => ?_⟩
                  obtain ⟨z, ez, p2⟩ := p1.pureBind (mkxD_exc _ _)
                  obtain ⟨x1, rfl⟩ : ∃ x1, ds = [x1] := by
                    replace ez : mkxD (cn, some fl) ds = .ok z := ez
                    cases ds with
                    | nil => simp [mkxD] at ez
                    | cons x1 ds =>
                      cases ds with
                      | nil => exact ⟨_, rfl⟩
                      | cons _ _ => simp [mkxD] at ez
                  cases ez
                  cases rv with
                  | @cons v vs _ _ rv rvs =>
                    cases rvs
                    refine ⟨by simp, fun a ha => ⟨a, v, rfl, upd_same, fun d hd hne => ⟨rfl, d, [(fl, v)], upd_same, (upd_ne hne).trans upd_same, ?_, fun a2 ha2 => ?_⟩⟩⟩
                    · rw [upd_ne hne] at hd
                      exact hd
                    · have hd' : H1 d = none := by
                        rw [upd_ne hne] at hd
                        exact hd
                      have heq : upd (del (upd (upd (upd H1 a (exo a C none)) d (exd d [(fl, v)])) a (exo a C (some d))) a) d (.xd [(fl, v)]) = upd H1 d (.xd [(fl, v)]) := by
                        funext b
                        by_cases z1 : b = d
                        · rw [z1, upd_same, upd_same]
                        · rw [upd_ne z1, upd_ne z1]
                          by_cases z2 : b = a
                          · rw [z2, del_same, ha]
                          · rw [del_ne z2, upd_ne z2, upd_ne z1, upd_ne z2]
                      rw [heq] at ha2 ⊢
                      obtain ⟨l2, S2, m1, m2⟩ := S1.alloc (o := .xd [(fl, v)]) hd'
                      obtain ⟨l3, S3, n1, n2⟩ := S2.alloc (o := exw a2 (.ref C) (some d)) ha2
                      have hda : d ≠ a2 := fun z => by rw [← z, upd_same] at ha2; cases ha2
                      exact p2 f1 _ (Le.trans S1 S2 l2 l3) S3 _ (.exc upd_same nmc n1 n2 rfl (.inr ⟨d, rfl, (upd_ne hda).trans upd_same, m1, m2⟩) (.cons ((rv.mono S1 l2).mono S2 l3) .nil))
  | .tup es, x, sc, X, W, c, tk, h => by
    cases x <;> try simp only [mE, Bool.false_eq_true] at h
    suffices pe : PE X _ (tE X.K ca W G _) from both pe rfl
    refine PEm (pe_tup (soundEs es c tk h)) fun σ H Q ⟨L, f, r, hh, S, sl, p⟩ => ?_
    unfold evE at p
    refine ⟨L, f, r, hh, S, sl, (p.bind S).mono fun ds f1 h1 H1 l1 S1 p1 vs rv => ?_⟩
    obtain ⟨z, ez, p2⟩ : ∃ z, ofB (okN ds.length) (D.tup ds, h1) = .ok z ∧ PostR X.K L f1 H1 ca (fun c d H' => W c d σ H') (.ok z) fun d f' _ H' => ∀ v, Rep X.K L f' H' v d → Q v H' := by
      have := p1
      cases ez : ofB (okN ds.length) (D.tup ds, h1) with
      | ok z => exact ⟨z, rfl, by simpa only [ez] using this⟩
      | exc c xs h' => exact absurd ez (ofB_exc _ _ _)
      | no => simp only [ez] at this; exact this.elim
    obtain ⟨hc, rfl⟩ := ofB_ok ez
    refine ⟨by rw [rv.length]; exact of_decide_eq_true hc, fun q hq => ?_⟩
    exact fin_tup S1 rv (fun H' v l S' r' => p2 f1 H' l S' v r') hq
  | .lst es, x, sc, X, W, c, tk, h => by
    cases x <;> try simp only [mE, Bool.false_eq_true] at h
    suffices pe : PE X _ (tE X.K ca W G _) from both pe rfl
    refine PEm (pe_lst (soundEs es c tk h)) fun σ H Q ⟨L, f, r, hh, S, sl, p⟩ => ?_
    unfold evE at p
    refine ⟨L, f, r, hh, S, sl, (p.bind S).mono fun ds f1 h1 H1 l1 S1 p1 vs rv => ?_⟩
    obtain ⟨z, ez, p2⟩ : ∃ z, ofB (okN ds.length) (D.lst ds, h1) = .ok z ∧ PostR X.K L f1 H1 ca (fun c d H' => W c d σ H') (.ok z) fun d f' _ H' => ∀ v, Rep X.K L f' H' v d → Q v H' := by
      have := p1
      cases ez : ofB (okN ds.length) (D.lst ds, h1) with
      | ok z => exact ⟨z, rfl, by simpa only [ez] using this⟩
      | exc c xs h' => exact absurd ez (ofB_exc _ _ _)
      | no => simp only [ez] at this; exact this.elim
    obtain ⟨hc, rfl⟩ := ofB_ok ez
    refine ⟨by rw [rv.length]; exact of_decide_eq_true hc, fun q hq => ?_⟩
    obtain ⟨l, S', n1, n2⟩ := S1.alloc (o := .lst vs) hq
    exact p2 f1 _ l S' _ (.lst upd_same n1 n2 (RepL.mono S1 l rv))
  | .newl es, x, sc, X, W, c, tk, h => by
    cases x <;> try simp only [mE, Bool.false_eq_true] at h
    suffices pe : PE X _ (tE X.K ca W G _) from both pe rfl
    refine PEm (pe_lst (soundEs es c tk h)) fun σ H Q ⟨L, f, r, hh, S, sl, p⟩ => ?_
    unfold evE at p
    refine ⟨L, f, r, hh, S, sl, (p.bind S).mono fun ds f1 h1 H1 l1 S1 p1 vs rv => ?_⟩
    obtain ⟨z, ez, p2⟩ : ∃ z, ofB (okN ds.length) (D.ref h1.length, h1 ++ [D.lst ds]) = .ok z ∧ PostR X.K L f1 H1 ca (fun c d H' => W c d σ H') (.ok z) fun d f' _ H' => ∀ v, Rep X.K L f' H' v d → Q v H' := by
      have := p1
      cases ez : ofB (okN ds.length) (D.ref h1.length, h1 ++ [D.lst ds]) with
      | ok z => exact ⟨z, rfl, by simpa only [ez] using this⟩
      | exc c xs h' => exact absurd ez (ofB_exc _ _ _)
      | no => simp only [ez] at this; exact this.elim
    obtain ⟨hc, rfl⟩ := ofB_ok ez
    refine ⟨by rw [rv.length]; exact of_decide_eq_true hc, fun q hq => ?_⟩
    obtain ⟨l, S'⟩ := S1.push hq rv
    refine p2 _ _ l S' _ (.ref ?_)
    rw [← S1.len]
    simp
  | .bin o a b, x, sc, X, W, c, tk, h => by
    cases x <;> simp only [mE, Bool.and_eq_true, Bool.false_eq_true, decide_eq_true_eq] at h
    obtain ⟨⟨rfl, h1⟩, h2⟩ := h
    suffices pe : PE X _ (tE X.K ca W G _) from both pe rfl
    refine PEm (pe_op (op_binD o) (soundE a c tk h1).1 (soundE b c tk h2).1) fun σ H Q ⟨L, f, r, hh, S, sl, p⟩ => ?_
    unfold evE at p
    exact bin_go (binD_exc o) S sl p
  | .neg a, x, sc, X, W, c, tk, h => by
    cases x <;> try simp only [mE, Bool.false_eq_true] at h
    rename_i o y pos
    cases o <;> try simp only [mE, Bool.false_eq_true] at h
    suffices pe : PE X _ (tE X.K ca W G _) from both pe rfl
    refine PEm (pe_un un_neg (soundE a c tk h).1) fun σ H Q ⟨L, f, r, hh, S, sl, p⟩ => ?_
    unfold evE at p
    refine tE_of S sl ((p.bind S).mono fun d f1 h1 H1 l1 S1 p1 v rv => ?_)
    cases d <;> simp only at p1 <;> try exact p1.elim
    exact ⟨_, rv.intE, p1.here S1 _ (.int _)⟩
  | .cmp o a b, x, sc, X, W, c, tk, h => by
    cases x <;> try simp only [mE, Bool.false_eq_true] at h
    rename_i x1 os ys pos
    cases os with
    | nil => simp [mE] at h
    | cons o1 os =>
      cases os with
      | cons _ _ => simp [mE] at h
      | nil =>
        cases ys with
        | nil => simp [mE] at h
        | cons y ys =>
          cases ys with
          | cons _ _ => simp [mE] at h
          | nil =>
            simp only [mE, Bool.and_eq_true, decide_eq_true_eq, Bool.not_eq_true'] at h
            obtain ⟨⟨⟨rfl, h0⟩, h1⟩, h2⟩ := h
            have go : ∀ σ H Q, tE X.K ca W G (.cmp o a b) σ H Q → tOp (rD X.K fun x y _ => cmpD o x y) (tE X.K ca W G a) (tE X.K ca W G b) σ H Q := fun σ H Q ⟨L, f, r, hh, S, sl, p⟩ => by
              unfold evE at p
              exact bin_go (cmpD_exc o) S sl p
            exact ⟨PEm (pe_cmpR (op_cmpD c.hu o) (soundE a c tk h1).1 (soundE b c tk h2).1 h0) go, PTm (pt_cmpR (op_cmpD c.hu o) (soundE a c tk h1).1 (soundE b c tk h2).1 h0) fun σ H Q q => go _ _ _ (tT_tE q)⟩
  | .cmp2 o o2 a b w, x, sc, X, W, c, tk, h => by
    obtain ⟨x1, o1, o3, y1, y2, pos, rfl, hq⟩ := inv_cmp2 h
    simp only [Bool.and_eq_true, decide_eq_true_eq, Bool.not_eq_true'] at hq
    obtain ⟨⟨⟨⟨⟨rfl, rfl⟩, h0⟩, h1⟩, h2⟩, h3⟩ := hq
    have go : ∀ σ H Q, tE X.K ca W G (.cmp2 o o2 a b w) σ H Q → tChain (rD X.K fun x y _ => cmpD o x y) (rD X.K fun x y _ => cmpD o2 x y) (tE X.K ca W G a) (tE X.K ca W G b) (tE X.K ca W G w) σ H Q := fun σ H Q ⟨L, f, r, hh, S, sl, p⟩ => by
      unfold evE at p
      refine tE_of S sl ((p.bind S).mono fun d f1 h1 H1 l1 S1 p1 v rv => ?_)
      refine tE_of S1 (sl.mono S l1) ((p1.bind S1).mono fun e f2 h2 H2 l2 S2 p2 u ru => ?_)
      obtain ⟨z, ez, p3⟩ := p2.pureBind (cmpD_exc o _ _ h2)
      obtain ⟨b, eb, p4⟩ := p3.pureBind boolD_exc
      have ez : cmpD o d e = .ok z := ez
      have := boolD_ok eb
      subst this
      refine ⟨L, f2, h2, d, e, S2, rv.mono S1 l2, ru, ?_⟩
      simp only [ez]
      intro H3 v3 l3 S3 r3
      refine ⟨b, r3.blE, ?_⟩
      cases b with
      | false =>
        refine iteF ?_
        exact p4 f2 H3 l3 S3 _ (.bl _)
      | true =>
        refine iteT ?_
        simp only [if_true] at p4
        have p5 : PostR X.K L f2 H2 ca (fun c d H' => W c d σ H') ((evE G w r h2).bind fun w => (cmpD o2 e w.1).bind fun e => .ok (e, w.2)) fun d f' _ H' => ∀ v, Rep X.K L f' H' v d → Q v H' := p4
        have p6 : PostR X.K L f2 H3 ca (fun c d H' => W c d σ H') ((evE G w r h2).bind fun w => (cmpD o2 e w.1).bind fun e => .ok (e, w.2)) fun d f' _ H' => ∀ v, Rep X.K L f' H' v d → Q v H' := p5.later S2 S3 l3
        refine tE_of S3 (((sl.mono S l1).mono S1 l2).mono S2 l3) ((p6.bind S3).mono fun e4 f4 h4 H4 l4 S4 p7 u4 r4 => ?_)
        obtain ⟨z4, ez4, p8⟩ := p7.pureBind (cmpD_exc o2 _ _ h4)
        have ez4 : cmpD o2 e e4 = .ok z4 := ez4
        refine ⟨L, f4, h4, e, e4, S4, (ru.mono S2 l3).mono S3 l4, r4, ?_⟩
        simp only [ez4]
        exact fun H5 v5 l5 S5 r5 => p8 f4 H5 l5 S5 v5 r5
    exact ⟨PEm (pe_chain (op_cmpD c.hu o) (op_cmpD c.hu o2) (soundE a c tk h1).1 (soundE b c tk h2).1 (soundE w c tk h3).1 h0) go,
      PTm (pt_chain (op_cmpD c.hu o) (op_cmpD c.hu o2) (soundE a c tk h1).1 (soundE b c tk h2).1 (soundE w c tk h3).1 h0) fun σ H Q q => go _ _ _ (tT_tE q)⟩
  | .isn a, x, sc, X, W, c, tk, h => by
    obtain ⟨y, j, pp, pos, rfl, hq⟩ := inv_isn h
    have go : ∀ σ H Q, tE X.K ca W G (.isn a) σ H Q → tIsN (tE X.K ca W G a) σ H Q := fun σ H Q ⟨L, f, r, hh, S, sl, p⟩ => by
      unfold evE at p
      refine tE_of S sl ((p.bind S).mono fun d f1 h1 H1 l1 S1 p1 v rv => ?_)
      cases rv <;> exact p1.here S1 _ (.bl _)
    exact ⟨PEm (pe_cmp (pc_isN (soundE a c tk hq).1)) go, PTm (pt_cmp (pc_isN (soundE a c tk hq).1)) fun σ H Q q => go _ _ _ (tT_tE q)⟩
  | .notn a, x, sc, X, W, c, tk, h => by
    obtain ⟨y, j, pp, pos, rfl, hq⟩ := inv_notn h
    have go : ∀ σ H Q, tE X.K ca W G (.notn a) σ H Q → tNotN (tE X.K ca W G a) σ H Q := fun σ H Q ⟨L, f, r, hh, S, sl, p⟩ => by
      unfold evE at p
      refine tE_of S sl ((p.bind S).mono fun d f1 h1 H1 l1 S1 p1 v rv => ?_)
      cases rv <;> exact p1.here S1 _ (.bl _)
    exact ⟨PEm (pe_cmp (pc_notN (soundE a c tk hq).1)) go, PTm (pt_cmp (pc_notN (soundE a c tk hq).1)) fun σ H Q q => go _ _ _ (tT_tE q)⟩
  | .and es, x, sc, X, W, c, tk, h => by
    cases x <;> try simp only [mE, Bool.false_eq_true] at h
    rename_i o xs pos
    cases o <;> try simp only [mE, Bool.false_eq_true] at h
    have sa := soundA true es c tk h
    refine ⟨PEm (sa.1 pos) fun σ H Q ⟨L, f, r, hh, S, sl, p⟩ => ?_, PTm (sa.2 pos).pt fun σ H Q ⟨L, f, r, hh, S, sl, p⟩ => ?_⟩
    · unfold evE at p
      exact ⟨L, f, r, hh, S, sl, p⟩
    · unfold evE at p
      exact ⟨L, f, r, hh, S, sl, p⟩
  | .or es, x, sc, X, W, c, tk, h => by
    cases x <;> try simp only [mE, Bool.false_eq_true] at h
    rename_i o xs pos
    cases o <;> try simp only [mE, Bool.false_eq_true] at h
    have sa := soundA false es c tk h
    refine ⟨PEm (sa.1 pos) fun σ H Q ⟨L, f, r, hh, S, sl, p⟩ => ?_, PTm (sa.2 pos).pt fun σ H Q ⟨L, f, r, hh, S, sl, p⟩ => ?_⟩
    · unfold evE at p
      exact ⟨L, f, r, hh, S, sl, p⟩
    · unfold evE at p
      exact ⟨L, f, r, hh, S, sl, p⟩
  | .not a, x, sc, X, W, c, tk, h => by
    cases x <;> try simp only [mE, Bool.false_eq_true] at h
    rename_i o y pos
    cases o <;> try simp only [mE, Bool.false_eq_true] at h
    refine ⟨PEm (pe_not (soundE a c tk h).1) fun σ H Q ⟨L, f, r, hh, S, sl, p⟩ => ?_, PTm (pt_not (soundE a c tk h).2) fun σ H Q ⟨L, f, r, hh, S, sl, p⟩ => ?_⟩
    · unfold evE at p
      refine tE_of S sl ((p.bind S).mono fun d f1 h1 H1 l1 S1 p1 v rv => ?_)
      obtain ⟨b, eb, p2⟩ := p1.pureBind boolD_exc
      have := boolD_ok eb
      simp only at this
      subst this
      exact ⟨b, rv.blE, p2.here S1 _ (.bl _)⟩
    · unfold evE at p
      refine ⟨L, f, r, hh, S, sl, ?_⟩
      cases e : evE G a r hh with
      | ok q =>
        rw [e] at p
        simp only [Res.bind_ok] at p ⊢
        cases e2 : boolD q.1 with
        | ok k =>
          rw [e2] at p
          exact p
        | exc c xs h' => exact absurd e2 (boolD_exc _ _ _)
        | no =>
          rw [e2] at p
          exact p.elim
      | exc c xs h' =>
        rw [e] at p
        exact p
      | no =>
        rw [e] at p
        exact p.elim
  | .ife t a b, x, sc, X, W, c, tk, h => by
    cases x <;> try simp only [mE, Bool.and_eq_true, Bool.false_eq_true] at h
    obtain ⟨⟨h1, h2⟩, h3⟩ := h
    have st := (soundE t c tk h1).2
    refine ⟨PEm (pe_ifExp st (soundE a c tk h2).1 (soundE b c tk h3).1) fun σ H Q ⟨L, f, r, hh, S, sl, p⟩ => ?_, PTm (pt_ifExp st (soundE a c tk h2).2 (soundE b c tk h3).2) fun σ H Q ⟨L, f, r, hh, S, sl, p⟩ => ?_⟩
    · unfold evE at p
      refine ⟨L, f, r, hh, S, sl, ?_⟩
      cases e : evE G t r hh with
      | ok q =>
        rw [e] at p
        simp only [Res.bind_ok] at p ⊢
        cases e2 : boolD q.1 with
        | ok k =>
          rw [e2] at p
          intro f1 H1 l1 S1
          cases k with
          | true => exact iteT ⟨L, f1, r, q.2, S1, sl.mono S l1, PostR.later S S1 l1 p⟩
          | false => exact iteF ⟨L, f1, r, q.2, S1, sl.mono S l1, PostR.later S S1 l1 p⟩
        | exc c xs h' => exact absurd e2 (boolD_exc _ _ _)
        | no =>
          rw [e2] at p
          exact p.elim
      | exc c xs h' =>
        rw [e] at p
        exact p
      | no =>
        rw [e] at p
        exact p.elim
    · unfold evE at p
      refine ⟨L, f, r, hh, S, sl, ?_⟩
      cases e : evE G t r hh with
      | ok q =>
        rw [e] at p
        simp only [Res.bind_ok] at p ⊢
        cases e2 : boolD q.1 with
        | ok k =>
          rw [e2] at p
          intro f1 H1 l1 S1
          cases k with
          | true => exact iteT ⟨L, f1, r, q.2, S1, sl.mono S l1, PostR.later S S1 l1 p⟩
          | false => exact iteF ⟨L, f1, r, q.2, S1, sl.mono S l1, PostR.later S S1 l1 p⟩
        | exc c xs h' => exact absurd e2 (boolD_exc _ _ _)
        | no =>
          rw [e2] at p
          exact p.elim
      | exc c xs h' =>
        rw [e] at p
        exact p
      | no =>
        rw [e] at p
        exact p.elim
  | .ix a i, x, sc, X, W, c, tk, h => by
    cases x <;> try simp only [mE, Bool.and_eq_true, Bool.false_eq_true] at h
    obtain ⟨⟨h0, h1⟩, h2⟩ := h
    suffices pe : PE X _ (tE X.K ca W G _) from both pe rfl
    refine PEm (pe_ix ix_D (soundE a c tk h1).1 (soundE i c tk h2).1 (plain_ix h0)) fun σ H Q ⟨L, f, r, hh, S, sl, p⟩ => ?_
    unfold evE at p
    exact bin_go ixD_exc S sl p
  | .sl a lo hi, x, sc, X, W, c, tk, h => by
    obtain ⟨y, l, u, pp, pos, rfl, hq⟩ := inv_sl h
    simp only [Bool.and_eq_true] at hq
    obtain ⟨⟨h1, h2⟩, h3⟩ := hq
    suffices pe : PE X _ (tE X.K ca W G _) from both pe rfl
    refine PEm (pe_slice sl_D (soundE a c tk h1).1 (soundO lo c tk h2) (soundO hi c tk h3)) fun σ H Q ⟨L, f, r, hh, S, sl, p⟩ => ?_
    unfold evE at p
    refine tE_of S sl ((p.bind S).mono fun d f1 h1 H1 l1 S1 p1 v rv => ?_)
    refine ⟨L, f1, r, h1, S1, sl.mono S l1, (p1.bind S1).mono fun o f2 h2 H2 l2 S2 p2 => ?_⟩
    refine ⟨L, f2, r, h2, S2, (sl.mono S l1).mono S1 l2, (p2.bind S2).mono fun o2 f3 h3 H3 l3 S3 p3 => ?_⟩
    obtain ⟨z, ez, p4⟩ := p3.pureBind (slD_exc _ _ _ _)
    refine ⟨L, f3, h3, d, S3, (rv.mono S1 l2).mono S2 l3, ?_⟩
    have ez : slD h3 d o o2 = .ok z := ez
    simp only [ez]
    exact fun H' v l S' rv => p4 f3 H' l S' v rv
  | .isi a t, x, sc, X, W, c, tk, h => by
    obtain ⟨fn, pp, y, z, qq, pos, rfl, hq⟩ := inv_isi h
    simp only [Bool.and_eq_true] at hq
    obtain ⟨⟨h1, h2⟩, h3⟩ := hq
    obtain ⟨rfl, g1, g2, g3, g4⟩ := glName_of c h1 (by decide)
    obtain ⟨rfl, k1, k2, k3, k4⟩ := glName_of c h2 (by cases t <;> decide)
    suffices pe : PE X _ (tE X.K ca W G _) from both pe rfl
    have pt : PE X (.Name t.nm qq) (tC (.ty t.name)) := pe_bltn k1 k2 (by cases t <;> decide +kernel) rfl k4 k3
    refine PEm (pe_callB (c_isi t) g1 g2 (by decide +kernel) (pa_cons (soundE a c tk h3).1 (pa_cons pt pa_nil (by rfl)) (star_cons (mE_plain h3).1)) (by decide) (by decide) (star_cons (mE_plain h3).1) (by rfl)) fun σ H Q ⟨L, f, r, hh, S, sl, p⟩ => ?_
    unfold evE at p
    refine tE_of S sl ((p.bind S).mono fun d f1 h1 H1 l1 S1 p1 v rv => ?_)
    obtain ⟨z, ez, p2⟩ := p1.pureBind (isiD_exc _ _ _)
    refine ⟨v, rfl, L, f1, h1, [d], S1, .cons rv .nil, ?_⟩
    have ez : isiD h1 d t = .ok z := ez
    simp only [ez]
    exact fun H' v l S' rv => p2 f1 H' l S' v rv
  | .bcall g es, x, sc, X, W, c, tk, h => by
    obtain ⟨fn, pp, y, ys, pos, rfl, hq⟩ := inv_bcall h
    simp only [Bool.and_eq_true] at hq
    obtain ⟨h1, h2⟩ := hq
    have ha := soundEs es c tk h2
    obtain ⟨rfl, g1, g2, g3, g4⟩ := glName_of c h1 (by cases g <;> decide)
    suffices pe : PE X _ (tE X.K ca W G _) from both pe rfl
    have hst : starEach (y :: ys) X.env = (false, eval y X.env) :: starEach ys X.env := by
      cases es with
      | nil => simp [mEs] at h2
      | cons e es =>
        simp only [mEs, Bool.and_eq_true] at h2
        exact star_cons (mE_plain h2.1).1
    have hpl : (backTo pos (starEach ys X.env)).any (·.1) = false := by
      cases es with
      | nil => simp [mEs] at h2
      | cons e es =>
        simp only [mEs, Bool.and_eq_true] at h2
        exact mEs_star h2.2 pos
    have go : ∀ σ H Q, tE X.K ca W G (.bcall g es) σ H Q → tCB (rB X.K (bcallD g)) (tEs X.K ca W G es) σ H Q := fun σ H Q ⟨L, f, r, hh, S, sl, p⟩ => by
      unfold evE at p
      refine ⟨L, f, r, hh, S, sl, (p.bind S).mono fun ds f1 h1 H1 l1 S1 p1 vs rv => ?_⟩
      obtain ⟨z, ez, p2⟩ := p1.pureBind (bcallD_exc _ _ _)
      refine ⟨L, f1, h1, ds, S1, rv, ?_⟩
      have ez : bcallD g ds h1 = .ok z := ez
      simp only [ez]
      exact fun H' v l S' rv => p2 f1 H' l S' v rv
    cases g with
    | len => exact PEm (pe_callB c_len g1 g2 (by decide +kernel) ha g4 g3 hst hpl) go
    | abs => exact PEm (pe_callB c_abs g1 g2 (by decide +kernel) ha g4 g3 hst hpl) go
    | int => exact PEm (pe_callTy c_int g1 g2 (by decide +kernel) ha g4 g3 hst hpl) go
    | sum => exact PEm (pe_callB (c_sum c.calm) g1 g2 (by decide +kernel) ha g4 g3 hst hpl) go
    | all => exact PEm (pe_callB (c_all c.calm) g1 g2 (by decide +kernel) ha g4 g3 hst hpl) go
    | any => exact PEm (pe_callB (c_any c.calm) g1 g2 (by decide +kernel) ha g4 g3 hst hpl) go
    | list => exact PEm (pe_callTy c_list g1 g2 (by decide +kernel) ha g4 g3 hst hpl) go
    | tuple => exact PEm (pe_callTy c_tuple g1 g2 (by decide +kernel) ha g4 g3 hst hpl) go
    | max => exact PEm (pe_callB (c_max c.calm c.hu) g1 g2 (by decide +kernel) ha g4 g3 hst hpl) go
  | .lof a, x, sc, X, W, c, tk, h => by
    obtain ⟨fn, pp, y, pos, rfl, hq⟩ := inv_lof h
    simp only [Bool.and_eq_true] at hq
    obtain ⟨rfl, g1, g2, g3, g4⟩ := glName_of c hq.1 (by decide)
    have pa := (soundE a c tk hq.2).1
    suffices pe : PE X _ (tE X.K ca W G _) from both pe rfl
    have hst : starEach [y] X.env = (false, eval y X.env) :: starEach [] X.env := star_cons (mE_plain hq.2).1
    refine PEm (pe_callTy call_list_of g1 g2 (by decide +kernel) (pa_cons pa pa_nil hst) g4 g3 hst rfl) fun σ H Q ⟨L, f, r, hh, S, sl, p⟩ => ?_
    unfold evE at p
    refine tE_of S sl ((p.bind S).mono fun d f1 h1 H1 l1 S1 p1 v rv => ?_)
    have go : ∀ xs, (lookD h1 d = .lst xs ∨ lookD h1 d = .tup xs) → PostR X.K L f1 H1 ca (fun c d H' => W c d σ H') (Res.ok (D.ref h1.length, h1 ++ [D.lst xs])) (fun d f' _ H' => ∀ v, Rep X.K L f' H' v d → Q v H') → ∃ p ys, [v] = [V.ref p] ∧ (SqL X.K H1 p ys ∨ SqT X.K H1 p ys) ∧ ∀ l, H1 l = none → Q (.ref l) (upd H1 l (.lst ys)) := fun xs e p2 => by
      obtain ⟨b, ws, rfl, rr, hs⟩ := look_seq S1 rv e
      refine ⟨b, ws, rfl, hs.imp (fun x => x.2) (fun x => x.2.2), fun q hq => ?_⟩
      obtain ⟨l, S'⟩ := S1.push hq rr
      refine p2 _ _ l S' _ (.ref ?_)
      rw [← S1.len]
      simp
    cases el : lookD h1 d with
    | lst xs =>
      simp only [el] at p1
      exact go xs (.inl el) p1
    | tup xs =>
      simp only [el] at p1
      exact go xs (.inr el) p1
    | _ =>
      simp only [el] at p1
      exact p1.elim
  | .lor new a, x, sc, X, W, c, tk, h => by
    obtain ⟨fn, pp, gn, qq, y, pos2, pos, rfl, hq⟩ := inv_lor h
    simp only [Bool.and_eq_true] at hq
    obtain ⟨⟨hq1, hq2⟩, hq3⟩ := hq
    obtain ⟨rfl, g1, g2, g3, g4⟩ := glName_of c hq1 (by decide)
    obtain ⟨rfl, k1, k2, k3, k4⟩ := glName_of c hq2 (by decide)
    have pa := (soundE a c tk hq3).1
    suffices pe : PE X _ (tE X.K ca W G _) from both pe rfl
    have hst : starEach [y] X.env = (false, eval y X.env) :: starEach [] X.env := star_cons (mE_plain hq3).1
    refine PEm (pe_listRg c.calm g1 g2 (prg_1 k1 k2 pa hst) rfl) fun σ H Q ⟨L, f, r, hh, S, sl, p⟩ => ?_
    unfold evE at p
    refine tE_of S sl ((p.bind S).mono fun d f1 h1 H1 l1 S1 p1 v rv => ?_)
    cases d <;> simp only at p1 <;> try exact p1.elim
    rename_i n
    split at p1
    · rename_i hb
      simp only [Bool.and_eq_true, decide_eq_true_eq] at hb
      refine ⟨n, rv.intE, ⟨by omega, by omega, by omega, by omega, by omega⟩, fun q hq => ?_⟩
      cases new with
      | false =>
        obtain ⟨l, S', n1, n2⟩ := S1.alloc (o := .lst (rgV 0 n)) hq
        exact p1 f1 _ l S' _ (.lst upd_same n1 n2 rg_rep)
      | true =>
        obtain ⟨l, S'⟩ := S1.push hq (rg_rep (n := n))
        refine p1 _ _ l S' _ (.ref ?_)
        rw [← S1.len]
        simp
    · exact p1.elim
  | .sset a, x, sc, X, W, c, tk, h => by
    obtain ⟨fn, pp, gn, qq, y, pos2, pos, rfl, hq⟩ := inv_sset h
    simp only [Bool.and_eq_true] at hq
    obtain ⟨⟨hq1, hq2⟩, hq3⟩ := hq
    obtain ⟨rfl, g1, g2, g3, g4⟩ := glName_of c hq1 (by decide)
    obtain ⟨rfl, k1, k2, k3, k4⟩ := glName_of c hq2 (by decide)
    have pa := (soundE a c tk hq3).1
    suffices pe : PE X _ (tE X.K ca W G _) from both pe rfl
    have hst : starEach [y] X.env = (false, eval y X.env) :: starEach [] X.env := star_cons (mE_plain hq3).1
    refine PEm (pe_callB (cr_sortedSet c.calm) g1 g2 (by decide +kernel) (pa_cons (pe_callTy (cr_setT c.calm) k1 k2 (by decide +kernel) (pa_cons pa pa_nil hst) k4 k3 hst rfl) pa_nil rfl) g4 g3 rfl rfl) fun σ H Q ⟨L, f, r, hh, S, sl, p⟩ => ?_
    unfold evE at p
    refine tE_of S sl ((p.bind S).mono fun d f1 h1 H1 l1 S1 p1 v rv => ?_)
    obtain ⟨z, ez, p2⟩ := p1.pureBind (ssetD_exc _)
    replace ez : ssetD d = .ok z := ez
    unfold ssetD at ez
    split at ez
    · rename_i xs
      obtain ⟨is, e1, e2⟩ := bind_ok ez
      obtain ⟨hc, rfl⟩ := ofB_ok e2
      have hc := of_decide_eq_true hc
      obtain ⟨b, ws, rfl, ea, rr⟩ := rv.seqT
      have := ints_rep rr (ofO_ok e1)
      subst this
      refine ⟨b, is, rfl, ea, by omega, fun p1 c1 hp1 hc1 => ⟨p1, _, c1, rfl, upd_same, by omega, fun ns p3 hs hm _ hp3 => ?_⟩⟩
      obtain ⟨l2, S2, _, _⟩ := S1.alloc (o := SetO X.w p1 (fun j => decide (j ∈ is)) c1) hp1
      obtain ⟨l3, S3, n1, n2⟩ := S2.alloc (o := .lst (ns.map V.int)) hp3
      have en : ns = sortU is := sorted_uniq hs (sortU_lt is) fun k => by rw [hm k, mem_sortU, decide_eq_true_eq]
      subst en
      exact p2 f1 _ (Le.trans S1 S2 l2 l3) S3 _ (.lst upd_same n1 n2 (RepL.ints _))
    · cases ez
  | .inr neg a b, x, sc, X, W, c, tk, h => by
    obtain ⟨y, o', z, pos, rfl, hq⟩ := inv_inr h
    simp only [Bool.and_eq_true, decide_eq_true_eq, Bool.not_eq_true'] at hq
    obtain ⟨⟨⟨rfl, h0⟩, h1⟩, h2⟩ := hq
    have go : ∀ σ H Q, tE X.K ca W G (.inr neg a b) σ H Q → tOp (rD X.K fun x y h => match refL h y with
        | some (_, ys) => cmpD (if neg then .NotIn else .In) x (.lst ys)
        | none => .no) (tE X.K ca W G a) (tE X.K ca W G b) σ H Q := fun σ H Q ⟨L, f, r, hh, S, sl, p⟩ => by
      unfold evE at p
      refine tE_of S sl ((p.bind S).mono fun d f1 h1 H1 l1 S1 p1 v rv => ?_)
      refine tE_of S1 (sl.mono S l1) ((p1.bind S1).mono fun e f2 h2 H2 l2 S2 p2 w rw' => ?_)
      refine ⟨L, f2, h2, d, e, S2, rv.mono S1 l2, rw', ?_⟩
      cases er : refL h2 e with
      | none =>
        simp only [er] at p2
        exact p2.elim
      | some iy =>
        obtain ⟨i, ys⟩ := iy
        simp only [er] at p2 ⊢
        obtain ⟨z, ez, p3⟩ := p2.pureBind (cmpD_exc _ _ _ h2)
        replace ez : cmpD (if neg then .NotIn else .In) d (.lst ys) = .ok z := ez
        simp only [ez]
        exact fun H' v l S' rv => p3 f2 H' l S' v rv
    exact ⟨PEm (pe_cmpR (op_inR c.hu neg) (soundE a c tk h1).1 (soundE b c tk h2).1 h0) go, PTm (pt_cmpR (op_inR c.hu neg) (soundE a c tk h1).1 (soundE b c tk h2).1 h0) fun σ H Q q => go _ _ _ (tT_tE q)⟩
  | .lcv new elt t a ifs own, x, sc, X, W, c, tk, h => by
    obtain ⟨e, t2, iter, fs, scope, pos, rfl, hq⟩ := inv_lcv h
    simp only [Bool.and_eq_true, decide_eq_true_eq] at hq
    obtain ⟨⟨⟨⟨⟨⟨⟨h1, h2⟩, h3⟩, h4⟩, h5⟩, h6⟩, h7⟩, h8⟩ := hq
    suffices pe : PE X _ (tE X.K ca W G _) from both pe rfl
    have ok : BlkOk X.N X.env.scope scope (own.map fun i => (N.getD i Str.empty, i)) := by
      rw [c.N, c.sc]
      exact blkOk_by h2
    refine PEm (pe_lc (own := own.map fun i => (N.getD i Str.empty, i)) (g := gD X.K t) (tt := tTs X.K ca (fun _ _ _ _ => False) G ifs) (te := tE X.K ca (fun _ _ _ _ => False) G elt) c.calm c.nd (pi_list (soundE a c tk h4).1) ok (fun s H C cl fp => soundTg (X := X.blk s H scope (compEnvC scope cl C X.env) fp) (C := ⟨N, nm⟩) (k := false) c.N c.nd (by show relS scope X.env.scope = _; rw [c.sc]) c.calm (fun z => absurd z Bool.false_ne_true) t t2 h5)
      (fun s H C cl fp => soundTs ifs (blkCOk c s H scope C cl fp) takes0 h7 h6) (fun s H C cl fp => (soundE elt (blkCOk c s H scope C cl fp) takes0 h8).1) (not_set h4)) fun σ H Q q => ?_
    have e : (own.map fun i => (N.getD i Str.empty, i)).map (·.2) = own := by rw [List.map_map]; exact List.map_id own
    rw [e]
    exact lcv_go c new elt t a ifs own h1 q
  | .bmeth m a es, x, sc, X, W, c, tk, h => by
    obtain ⟨y, n, pp, xs, pos, rfl, hq⟩ := inv_bmeth h
    simp only [Bool.and_eq_true, decide_eq_true_eq] at hq
    obtain ⟨⟨⟨⟨⟨h1, rfl⟩, h3⟩, h4⟩, h5⟩, h6⟩ := hq
    have pa := (soundE a c tk h4).1
    have ha := soundEs es c tk h5
    suffices pe : PE X _ (tE X.K ca W G _) from both pe rfl
    have go : ∀ σ H Q, tE X.K ca W G (.bmeth m a es) σ H Q → tE X.K ca W G a σ H fun x H1 => tyV X.K (BM.ty m) x H1 ∧ tEs X.K ca W G es σ H1 fun vs H2 => rM X.K (bmethD m) x vs H2 Q := fun σ H Q ⟨L, f, r, hh, S, sl, p⟩ => by
      unfold evE at p
      refine tE_of S sl ((p.bind S).mono fun d f1 h1 H1 l1 S1 p1 v rv => ?_)
      cases hr : recvD h1 m d with
      | false =>
        simp only [hr] at p1
        exact p1.elim
      | true =>
        simp only [hr, if_true] at p1
        refine ⟨recv_ty S1 rv hr, L, f1, r, h1, S1, sl.mono S l1, (p1.bind S1).mono fun ds f2 h2 H2 l2 S2 p2 vs rvs => ⟨L, f2, h2, d, ds, S2, rv.mono S1 l2, rvs, ?_⟩⟩
        have p3 : PostR X.K L f2 H2 ca (fun c d H' => W c d σ H') (bmethD m d ds h2) fun d f' _ H' => ∀ v, Rep X.K L f' H' v d → Q v H' := p2
        cases ez : bmethD m d ds h2 with
        | ok z =>
          rw [ez] at p3
          exact fun f' H' v l S' rv => p3 f' H' l S' v rv
        | exc c xs h' => exact absurd ez (bmethD_exc _ _ _ _ _ _ _)
        | no =>
          rw [ez] at p3
          exact p3.elim
    have hl : (pp.endLine == pos.line) = true := h3
    cases es with
    | nil =>
      cases xs with
      | cons _ _ => simp [mEs] at h5
      | nil =>
        have go0 : ∀ σ H Q, tE X.K ca W G (.bmeth m a .nil) σ H Q → tBM0 X.K (BM.ty m) (rM X.K (bmethD m)) (tE X.K ca W G a) σ H Q := fun σ H Q q => by
          obtain ⟨L, f, r, hh, S, sl, p⟩ := go σ H Q q
          refine tE_of S sl (p.mono fun d f1 h1 H1 l1 S1 k v rv => ?_)
          obtain ⟨k1, L2, f2, r2, h2, S2, sl2, p2⟩ := k v rv
          exact ⟨k1, p2.here S2 [] .nil⟩
        cases m with
        | join => exact PEm (pe_bm0 PySem.F.plainAttrs_str PySem.F.slot_str_join PySem.F.type_str_join m_join pa (base_of h1) hl) go0
        | append => exact PEm (pe_bm0 PySem.F.plainAttrs_list PySem.F.slot_list_append PySem.F.type_list_append m_append pa (base_of h1) hl) go0
        | pop => exact PEm (pe_bm0 PySem.F.plainAttrs_list PySem.F.slot_list_pop PySem.F.type_list_pop m_pop pa (base_of h1) hl) go0
    | cons e es =>
      cases xs with
      | nil => simp [mEs] at h5
      | cons x xs =>
        have hall := few_of (env := X.env) (pos := pos) h5
        have hfew : ((backTo pos (starEach (x :: xs) X.env)).all (fun x => !x.1) && (backToKw pos (keywordEach [] X.env)).all (fun x => x.1.isSome)
            && decide ((x :: xs).length + ([] : List Keyword).length + (if ([] : List Keyword).isEmpty then 0 else 1) < 30)) = true := by
          rw [hall]
          simp only [List.length_cons] at h6
          simp [backToKw, keywordEach]
          omega
        simp only [mEs, Bool.and_eq_true] at h5
        have hs := star_cons (xs := xs) (env := X.env) (mE_plain h5.1).1
        have hp := mEs_star (env := X.env) h5.2 pos
        cases m with
        | join => exact PEm (pe_bm PySem.F.plainAttrs_str PySem.F.slot_str_join PySem.F.type_str_join m_join pa ha (base_of h1) hfew hl hs hp) go
        | append => exact PEm (pe_bm PySem.F.plainAttrs_list PySem.F.slot_list_append PySem.F.type_list_append m_append pa ha (base_of h1) hfew hl hs hp) go
        | pop => exact PEm (pe_bm PySem.F.plainAttrs_list PySem.F.slot_list_pop PySem.F.type_list_pop m_pop pa ha (base_of h1) hfew hl hs hp) go
  | .call k es, x, sc, X, W, c, tk, h => by
    obtain ⟨y, pp, xs, pos, rfl, hq⟩ := inv_call h
    simp only [Bool.and_eq_true, decide_eq_true_eq] at hq
    obtain ⟨⟨⟨h1, h2⟩, h3⟩, h4⟩ := hq
    obtain ⟨a1, a2, a3⟩ := okNm_of h3
    have ha := soundEs es c tk h4
    suffices pe : PE X _ (tE X.K ca W G _) from both pe rfl
    cases eg : G.fn k with
    | none =>
      exact ⟨fun pins s σ H Q I ⟨L, f, r, hh, S, sl, p⟩ => by
        unfold evE at p
        rw [eg] at p
        exact p.elim⟩
    | some ng =>
      obtain ⟨n, g⟩ := ng
      obtain ⟨fa, fd, ps, e1, e2, e3, e5, e4⟩ := c.gam.fn k n g y eg h1
      have go : ∀ σ H Q, tE X.K ca W G (.call k es) σ H Q → tCallS (spG X.K ca n g) (WE W) (tEs X.K ca W G es) σ H Q := fun σ H Q ⟨L, f, r, hh, S, sl, p⟩ => by
        unfold evE at p
        rw [eg] at p
        refine ⟨L, f, r, hh, S, sl, (p.bind S).mono fun ds f1 h1 H1 l1 S1 p1 vs rv => ?_⟩
        by_cases hn : ds.length = n
        · rw [if_pos hn] at p1
          exact ⟨by rw [rv.length]; exact hn, L, f1, h1, ds, S1, rv, p1⟩
        · rw [if_neg hn] at p1
          exact p1.elim
      cases es with
      | nil =>
        cases xs with
        | cons _ _ => simp [mEs] at h4
        | nil =>
          refine PEm (pe_callS0 e4 c.room (isGl_gl c h2) e1 e2 e3 (fun σ => passAt tk σ) a1) fun σ H Q q => ?_
          · have q' := go σ H Q q
            obtain ⟨L, f, r, hh, S, sl, p⟩ := q'
            exact p.here S [] .nil
      | cons e es =>
        cases xs with
        | nil => simp [mEs] at h4
        | cons x xs =>
          simp only [mEs, Bool.and_eq_true] at h4
          exact PEm (pe_callS e4 c.room (isGl_gl c h2) e1 e2 e3 (fun σ => passAt tk σ) ha a1 (star_cons (mE_plain h4.1).1) (mEs_star h4.2 pos)) go
  | .lc new elt t it ifs own, x, sc, X, W, c, tk, h => by
    obtain ⟨e, t2, iter, fs, scope, pos, rfl, hq⟩ := inv_lc h
    simp only [Bool.and_eq_true, decide_eq_true_eq] at hq
    obtain ⟨⟨⟨⟨⟨⟨⟨h1, h2⟩, h3⟩, h4⟩, h5⟩, h6⟩, h7⟩, h8⟩ := hq
    suffices pe : PE X _ (tE X.K ca W G _) from both pe rfl
    have ok : BlkOk X.N X.env.scope scope (own.map fun i => (N.getD i Str.empty, i)) := by
      rw [c.N, c.sc]
      exact blkOk_by h2
    refine PEm (pe_lc (own := own.map fun i => (N.getD i Str.empty, i)) (g := gD X.K t) (tt := tTs X.K ca (fun _ _ _ _ => False) G ifs) (te := tE X.K ca (fun _ _ _ _ => False) G elt) c.calm c.nd (soundI it c tk h4 t2) ok (fun s H C cl fp => soundTg (X := X.blk s H scope (compEnvC scope cl C X.env) fp) (C := ⟨N, nm⟩) (k := false) c.N c.nd (by show relS scope X.env.scope = _; rw [c.sc]) c.calm (fun z => absurd z Bool.false_ne_true) t t2 h5)
      (fun s H C cl fp => soundTs ifs (blkCOk c s H scope C cl fp) takes0 h7 h6) (fun s H C cl fp => (soundE elt (blkCOk c s H scope C cl fp) takes0 h8).1) (mI_set h4)) fun σ H Q q => ?_
    have e : (own.map fun i => (N.getD i Str.empty, i)).map (·.2) = own := by rw [List.map_map]; exact List.map_id own
    rw [e]
    exact lc_go c new elt t it ifs own h1 q
theorem soundEs : ∀ (es : Exs) {xs : List Expr} {sc : Scope} {X : Cx} {W : WX}, COk nm ca G lv N sc X → Takes X W → mEs ⟨N, nm⟩ sc es xs = true → PA X xs (tEs X.K ca W G es)
  | .nil, [], sc, X, W, c, tk, h => PAm pa_nil fun σ H Q ⟨L, f, r, hh, S, sl, p⟩ => p.here S [] .nil
  | .nil, _ :: _, sc, X, W, c, tk, h => by simp [mEs] at h
  | .cons e es, [], sc, X, W, c, tk, h => by simp [mEs] at h
  | .cons e es, x :: xs, sc, X, W, c, tk, h => by
    simp only [mEs, Bool.and_eq_true] at h
    refine PAm (pa_cons (soundE e c tk h.1).1 (soundEs es c tk h.2) (star_cons (mE_plain h.1).1)) fun σ H Q ⟨L, f, r, hh, S, sl, p⟩ => ?_
    unfold evEs at p
    refine tE_of S sl ((p.bind S).mono fun d f1 h1 H1 l1 S1 p1 v rv => ?_)
    refine ⟨L, f1, r, h1, S1, sl.mono S l1, (p1.bind S1).mono fun ds f2 h2 H2 l2 S2 p2 vs rvs => ?_⟩
    exact p2.here S2 _ (.cons (rv.mono S1 l2) rvs)
theorem soundO : ∀ (o : Ox) {x : Option Expr} {sc : Scope} {X : Cx} {W : WX}, COk nm ca G lv N sc X → Takes X W → mO ⟨N, nm⟩ sc o x = true → PO X x (tO X.K ca W G o)
  | .none, none, sc, X, W, c, tk, h => POm po_none fun σ H Q ⟨L, f, r, hh, S, sl, p⟩ => p.here S
  | .none, some _, sc, X, W, c, tk, h => by simp [mO] at h
  | .some _, none, sc, X, W, c, tk, h => by simp [mO] at h
  | .some e, some x, sc, X, W, c, tk, h => by
    simp only [mO] at h
    refine POm (po_some (soundE e c tk h).1) fun σ H Q ⟨L, f, r, hh, S, sl, p⟩ => ?_
    unfold evO at p
    refine tE_of S sl ((p.bind S).mono fun d f1 h1 H1 l1 S1 p1 v rv => ?_)
    cases d <;> simp only at p1 <;> try exact p1.elim
    exact ⟨_, rv.intE, p1.here S1⟩
theorem soundTs : ∀ (es : Exs) {xs : List Expr} {sc : Scope} {X : Cx} {W : WX}, COk nm ca G lv N sc X → Takes X W → mEs ⟨N, nm⟩ sc es xs = true → xs.length ≤ 1 → PTs X xs (tTs X.K ca W G es)
  | .nil, [], sc, X, W, c, tk, h, _ => PTsm pts_nil fun σ H Q ⟨L, f, r, hh, S, sl, p⟩ => p.here S
  | .nil, _ :: _, sc, X, W, c, tk, h, _ => by simp [mEs] at h
  | .cons e es, [], sc, X, W, c, tk, h, _ => by simp [mEs] at h
  | .cons e es, [x], sc, X, W, c, tk, h, _ => by
    simp only [mEs, Bool.and_eq_true] at h
    refine PTsm (pts_one (soundE e c tk h.1).2) fun σ H Q ⟨L, f, r, hh, S, sl, p⟩ => ?_
    cases es with
    | cons _ _ => simp [mEs] at h
    | nil =>
      unfold evTs at p
      refine ⟨L, f, r, hh, S, sl, ?_⟩
      cases e1 : evE G e r hh with
      | ok q =>
        rw [e1] at p
        simp only [Res.bind_ok] at p ⊢
        cases e2 : boolD q.1 with
        | ok k =>
          rw [e2] at p
          cases k <;> exact p
        | exc c xs h' => exact absurd e2 (boolD_exc _ _ _)
        | no =>
          rw [e2] at p
          exact p.elim
      | exc c xs h' =>
        rw [e1] at p
        exact p
      | no =>
        rw [e1] at p
        exact p.elim
  | .cons e es, x :: y :: xs, sc, X, W, c, tk, h, hl => by simp at hl
theorem soundI : ∀ (it : Z9.It) {x : Expr} {sc : Scope} {X : Cx} {W : WX}, COk nm ca G lv N sc X → Takes X W → mI ⟨N, nm⟩ sc it x = true → ∀ tg, PI X tg x (tI X.K ca W G it)
  | .seq e, x, sc, X, W, c, tk, h, tg => by
    simp only [mI] at h
    have pe := (soundE e c tk h).1
    refine ⟨fun pins s σ H R I ⟨L, f, r, hh, S, sl, p⟩ => ?_⟩
    unfold evI at p
    cases e1 : evE G e r hh with
    | no =>
      rw [e1] at p
      exact p.elim
    | exc c xs h' =>
      rw [e1] at p
      exact (pi_list pe).run pins s σ H R I (tE_of S sl (by rw [e1]; exact p))
    | ok q =>
      rw [e1] at p
      simp only [Res.bind_ok] at p
      obtain ⟨d, h1⟩ := q
      cases d <;> simp only at p <;> try exact p.elim
      · rename_i s'
        refine (pi_str pe).run pins s σ H R I (tE_of S sl (by
          rw [e1]
          intro f1 H1 l1 S1 v rv
          obtain ⟨rfl, o, _⟩ := rv.signs
          exact ⟨_, rfl, p f1 H1 l1 S1 _ (walkD_str o)⟩))
      · refine (pi_tup pe).run pins s σ H R I (tE_of S sl (by
          rw [e1]
          intro f1 H1 l1 S1 v rv
          obtain ⟨a, vs, rfl, ea, rr⟩ := rv.seqT
          exact ⟨a, rfl, ⟨vs, ea⟩, p f1 H1 l1 S1 _ (walkD_tup S1 ea rr)⟩))
      · refine (pi_list pe).run pins s σ H R I (tE_of S sl (by
          rw [e1]
          intro f1 H1 l1 S1 v rv
          obtain ⟨a, vs, rfl, ea, _, nf, rr⟩ := rv.seqL
          exact ⟨a, rfl, ⟨vs, .of ea⟩, p f1 H1 l1 S1 _ (walkD_list S1 ea nf rr)⟩))
  | .range e, x, sc, X, W, c, tk, h, tg => by
    obtain ⟨fn, pp, y, pos, rfl, hq⟩ := inv_range h
    simp only [Bool.and_eq_true] at hq
    obtain ⟨rfl, g1, g2, g3, g4⟩ := glName_of c hq.1 (by decide)
    have pe := (soundE e c tk hq.2).1
    have hs : starEach [y] X.env = [(false, eval y X.env)] := star_cons (mE_plain hq.2).1
    refine ⟨fun pins s σ H R I ⟨L, f, r, hh, S, sl, p⟩ => (pi_range1 g1 g2 (pa_cons pe pa_nil hs) hs).run pins s σ H R I ?_⟩
    unfold evI at p
    refine tE_of S sl ((p.bind S).mono fun d f1 h1 H1 l1 S1 p1 v rv => ?_)
    cases d <;> simp only at p1 <;> try exact p1.elim
    rename_i n
    cases hb : (decide (-1099511627776 < n) && decide (n < 1099511627776)) with
    | false =>
      rw [hb] at p1
      exact p1.elim
    | true =>
      rw [hb] at p1
      simp only [Bool.and_eq_true, decide_eq_true_eq] at hb
      refine ⟨n, by rw [rv.intE], by omega, by omega, ?_⟩
      exact (p1.here S1) _ walkD_range
  | .range2 a b, x, sc, X, W, c, tk, h, tg => by
    obtain ⟨fn, pp, y, z, pos, rfl, hq⟩ := inv_range2 h
    simp only [Bool.and_eq_true] at hq
    obtain ⟨rfl, g1, g2, g3, g4⟩ := glName_of c hq.1.1 (by decide)
    have pa := (soundE a c tk hq.1.2).1
    have pb := (soundE b c tk hq.2).1
    have hs2 : starEach [z] X.env = [(false, eval z X.env)] := star_cons (mE_plain hq.2).1
    have hs : starEach [y, z] X.env = [(false, eval y X.env), (false, eval z X.env)] := by rw [star_cons (mE_plain hq.1.2).1, hs2]
    refine ⟨fun pins s σ H R I ⟨L, f, r, hh, S, sl, p⟩ => (pi_range2 g1 g2 (pa_cons pa (pa_cons pb pa_nil hs2) (star_cons (mE_plain hq.1.2).1)) hs hs2).run pins s σ H R I ?_⟩
    unfold evI at p
    refine tE_of S sl ((p.bind S).mono fun d f1 h1 H1 l1 S1 p1 v rv => ?_)
    refine tE_of S1 (sl.mono S l1) ((p1.bind S1).mono fun d2 f2 h2 H2 l2 S2 p2 v2 rv2 => ?_)
    cases d <;> simp only at p2 <;> try exact p2.elim
    cases d2 <;> simp only at p2 <;> try exact p2.elim
    rename_i m n
    cases hb : (decide (-1099511627776 < m) && decide (m < 1099511627776) && decide (-1099511627776 < n) && decide (n < 1099511627776)) with
    | false =>
      rw [hb] at p2
      exact p2.elim
    | true =>
      rw [hb] at p2
      simp only [Bool.and_eq_true, decide_eq_true_eq] at hb
      refine ⟨m, n, by rw [rv.intE, rv2.intE], ⟨by omega, by omega, by omega, by omega⟩, ?_⟩
      exact (p2.here S2) _ walkD_range
  | .enum e, x, sc, X, W, c, tk, h, tg => by simp [mI] at h
  | .zip a b, x, sc, X, W, c, tk, h, tg => by simp [mI] at h
theorem soundA (k : Bool) : ∀ (es : Exs) {xs : List Expr} {sc : Scope} {X : Cx} {W : WX}, COk nm ca G lv N sc X → Takes X W → mEs ⟨N, nm⟩ sc es xs = true → (∀ pos, PE X (.BoolOp (if k then .And else .Or) xs pos) (tA X.K ca W G k es)) ∧ ∀ pos, PW X (.BoolOp (if k then .And else .Or) xs pos) (tAT X.K ca W G k es)
  | .nil, [], sc, X, W, c, tk, h => ⟨fun pos => ⟨fun pins s σ H Q I ⟨L, f, r, hh, S, sl, p⟩ => p.elim⟩, fun pos => ⟨fun wh pins s σ H Q I ⟨L, f, r, hh, S, sl, p⟩ => p.elim⟩⟩
  | .nil, _ :: _, sc, X, W, c, tk, h => by simp [mEs] at h
  | .cons e es, [], sc, X, W, c, tk, h => by simp [mEs] at h
  | .cons e .nil, x :: xs, sc, X, W, c, tk, h => by
    cases xs with
    | cons _ _ => simp [mEs] at h
    | nil =>
      simp only [mEs, Bool.and_eq_true] at h
      have se := soundE e c tk h.1
      have go : ∀ σ H Q, tA X.K ca W G k (.cons e .nil) σ H Q → tE X.K ca W G e σ H Q := fun σ H Q ⟨L, f, r, hh, S, sl, p⟩ => by
        unfold evA at p
        refine tE_of S sl ((p.bind S).mono fun d f1 h1 H1 l1 S1 p1 v rv => ?_)
        obtain ⟨b, eb, p2⟩ := p1.pureBind boolD_exc
        have := boolD_ok eb
        simp only at this
        subst this
        exact p2.here S1 v rv
      have goT : ∀ σ H Q, tAT X.K ca W G k (.cons e .nil) σ H Q → tT X.K ca W G e σ H Q := fun σ H Q ⟨L, f, r, hh, S, sl, p⟩ => by
        unfold evA at p
        refine ⟨L, f, r, hh, S, sl, ?_⟩
        cases e1 : evE G e r hh with
        | ok q =>
          rw [e1] at p
          simp only [Res.bind_ok] at p ⊢
          cases e2 : boolD q.1 with
          | ok k =>
            rw [e2] at p
            exact p
          | exc c xs h' => exact absurd e2 (boolD_exc _ _ _)
          | no =>
            rw [e2] at p
            exact p.elim
        | exc c xs h' =>
          rw [e1] at p
          exact p
        | no =>
          rw [e1] at p
          exact p.elim
      exact ⟨fun pos => PEm (pe_one se.1) go, fun pos => by
        cases k with
        | true => exact PWm (pw_and1 se.2) goT
        | false => exact PWm (pw_or1 se.2) goT⟩
  | .cons e (.cons e2 es), x :: xs, sc, X, W, c, tk, h => by
    cases xs with
    | nil => simp [mEs] at h
    | cons y xs =>
      have h' := h
      simp only [mEs, Bool.and_eq_true] at h
      have se := soundE e c tk h.1
      have sr := soundA k (.cons e2 es) (xs := y :: xs) c tk (by simp only [mEs, Bool.and_eq_true]; exact h.2)
      have goT : ∀ σ H Q, tAT X.K ca W G k (.cons e (.cons e2 es)) σ H Q → tT X.K ca W G e σ H fun b H1 => if b = k then tAT X.K ca W G k (.cons e2 es) σ H1 Q else Q b H1 := fun σ H Q ⟨L, f, r, hh, S, sl, p⟩ => by
        unfold evA at p
        refine ⟨L, f, r, hh, S, sl, ?_⟩
        cases e1 : evE G e r hh with
        | ok q =>
          rw [e1] at p
          simp only [Res.bind_ok] at p ⊢
          cases e3 : boolD q.1 with
          | ok b =>
            rw [e3] at p
            simp only [Res.bind_ok] at p
            intro f1 H1 l1 S1
            by_cases hb : b = k
            · rw [if_pos hb] at p ⊢
              exact ⟨L, f1, r, q.2, S1, sl.mono S l1, PostR.later S S1 l1 p⟩
            · rw [if_neg hb] at p ⊢
              exact p f1 H1 l1 S1
          | exc c xs h' => exact absurd e3 (boolD_exc _ _ _)
          | no =>
            rw [e3] at p
            exact p.elim
        | exc c xs h' =>
          rw [e1] at p
          exact p
        | no =>
          rw [e1] at p
          exact p.elim
      cases k with
      | true =>
        refine ⟨fun pos => PEm (pe_and se.1 (sr.1 pos)) fun σ H Q ⟨L, f, r, hh, S, sl, p⟩ => ?_, fun pos => PWm (pw_and se.2 (sr.2 pos)) fun σ H Q q => ?_⟩
        · obtain ⟨L', f', r', h2, S', sl', p'⟩ := and_go (es2 := es) rfl S sl p
          refine tE_of S' sl' (p'.mono fun d f1 h1 H1 l1 S1 kk v rv => ?_)
          obtain ⟨b, rfl, q2⟩ := kk v rv
          refine ⟨b, rfl, ?_⟩
          cases b <;> exact q2
        · obtain ⟨L', f', r', h2, S', sl', p'⟩ := goT σ H Q q
          refine ⟨L', f', r', h2, S', sl', p'.mono fun b f1 h1 H1 l1 S1 kk => ?_⟩
          cases b <;> exact kk
      | false =>
        refine ⟨fun pos => PEm (pe_or se.1 (sr.1 pos)) fun σ H Q ⟨L, f, r, hh, S, sl, p⟩ => ?_, fun pos => PWm (pw_or se.2 (sr.2 pos)) fun σ H Q q => ?_⟩
        · obtain ⟨L', f', r', h2, S', sl', p'⟩ := and_go (es2 := es) rfl S sl p
          refine tE_of S' sl' (p'.mono fun d f1 h1 H1 l1 S1 kk v rv => ?_)
          obtain ⟨b, rfl, q2⟩ := kk v rv
          refine ⟨b, rfl, ?_⟩
          cases b <;> exact q2
        · obtain ⟨L', f', r', h2, S', sl', p'⟩ := goT σ H Q q
          refine ⟨L', f', r', h2, S', sl', p'.mono fun b f1 h1 H1 l1 S1 kk => ?_⟩
          cases b <;> exact kk
end
end
end Z9

set_option Elab.async false
set_option linter.all false
set_option maxRecDepth 100000
set_option maxHeartbeats 16000000
/-! E11: statements. -/
namespace Z9
open PySem PySem.Spec PyProof.Rows L2

/-! ### statements against the text -/
def isComp : Expr → Bool
  | .ListComp .. => true
  | .SetComp .. => true
  | .DictComp .. => true
  | _ => false
def isTup : Expr → Bool
  | .Tuple .. => true
  | _ => false
/-- a pair on the right that is stored in order -/
def noSwap (ts : List Expr) : Expr → Bool
  | .Tuple vs _ _ => !(ts.length == 2 || ts.length == 3) || vs.all (foldedForSure 8)
  | _ => true
theorem noSwap_of {ts : List Expr} {k p} {v : Expr} {env : PySem.Env} (h : noSwap ts v = true) : swappedStores [.Tuple ts k p] v env = pure none := by
  cases v with
  | Tuple vs k2 p2 =>
    simp only [noSwap, Bool.or_eq_true] at h
    show (if (!(ts.length == 2 || ts.length == 3) || vs.length != ts.length || env.blockKind != .function) = true then (pure none : Sem (Option (List Str))) else _) = _
    split
    · rfl
    · rename_i hn
      have hf : vs.all (foldedForSure 8) = true := by
        rcases h with h | h
        · exact absurd (by rw [h]; rfl) hn
        · exact h
      simp only [pure_bind]
      split
      · rfl
      · split
        · rfl
        · simp only [hf, if_true]
  | _ => rfl
/-- two plain local names of one row, a pair of which something is reckoned -/
def parOk (sc : Scope) (x y : Str) (p q : Pos) (u v : Expr) : Bool := (match sc.kind with | .function => true | _ => false) && decide (sc.names.lookup x = some .local) && decide (sc.names.lookup y = some .local) && q.line == p.line && !(x == y) && !([u, v].all (foldedForSure 8)) && !([u, v].all (constantsAlone 8))
theorem parOk_of {sc : Scope} {x y : Str} {p q : Pos} {k k2 pt pt2} {u v : Expr} {env : PySem.Env} (hsc : env.scope = sc) (h : parOk sc x y p q u v = true) (hu : ∀ a b, u ≠ .Starred a b) (hv : ∀ a b, v ≠ .Starred a b) :
    swappedStores [.Tuple [.Name x p, .Name y q] k pt] (.Tuple [u, v] k2 pt2) env = pure (some [x, y]) := by
  simp only [parOk, Bool.and_eq_true, decide_eq_true_eq, Bool.not_eq_true', beq_iff_eq] at h
  obtain ⟨⟨⟨⟨⟨⟨h1, h2⟩, h3⟩, h4⟩, h5⟩, h6⟩, h7⟩ := h
  have hk : sc.kind = .function := by
    split at h1
    · assumption
    · cases h1
  have bk : env.blockKind = .function := by
    unfold Env.blockKind
    rw [hsc, hk]
    rfl
  have hx : env.kindOf x = some .local := by rw [Env.kindOf, hsc]; exact h2
  have hy : env.kindOf y = some .local := by rw [Env.kindOf, hsc]; exact h3
  have e5 : (y == x) = false := by
    cases hxy : (y == x) with
    | false => rfl
    | true =>
      have := eq_of_beq hxy
      subst this
      rw [beq_self_eq_true] at h5
      cases h5
  have st : ([u, v].any fun | .Starred .. => true | _ => false) = false := by
    cases u <;> first | exact absurd rfl (hu _ _) | (cases v <;> first | exact absurd rfl (hv _ _) | rfl)
  unfold swappedStores
  simp only [pure_bind, List.length_cons, List.length_nil, bk, st, h6, h7, List.head?_cons, Option.map_some, Option.getD_some, List.filterMap_cons, List.filterMap_nil, Expr.pos, hx, hy, h4, beq_self_eq_true, Bool.and_self, if_true, Bool.false_eq_true, if_false]
  simp [List.eraseDups, List.eraseDupsBy, List.eraseDupsBy.loop, e5, h5]
def nilBoth : Exs → List Expr → Bool
  | .nil, [] => true
  | _, _ => false
def notNil {α : Type} : List α → Bool
  | [] => false
  | _ => true
/-- a statement of an except suite -/
def hotS : Sm → Bool
  | .set _ (.con _) => true
  | .ret (.con _) => true
  | .pass => true
  | _ => false
def hotSs : Sms → Bool
  | .nil => true
  | .cons s ss => hotS s && hotSs ss
/-- an except suite's forms; n: the error's name -/
def mXe (n : Str) : Xe → Expr → Bool
  | .con d, .Constant c _ _ => okC d c
  | .fld m, .Attribute (.Name x _) m' _ => x == n && decide (m = m')
  | .tup2 a b, .Tuple [x, y] _ _ => mXe n a x && mXe n b y
  | _, _ => false
def mIs (C : Mc) (sc : Scope) (n : Str) (k : Nat) : Expr → Bool
  | .Call (.Name f _) [.Name x _, .Name y _] [] _ => glName sc f "isinstance" && x == n && decide (C.nm[k]? = some y) && isGl sc y && okNm y
  | _ => false
def mIl (C : Mc) (sc : Scope) (n : Str) : List Nat → List Expr → Bool
  | [], [] => true
  | k :: ks, x :: xs => mIs C sc n k x && mIl C sc n ks xs
  | _, _ => false
def mIt (C : Mc) (sc : Scope) (n : Str) (ks : List Nat) : Expr → Bool
  | .BoolOp .And xs _ => notNil ks && mIl C sc n ks xs
  | x => match ks with
    | [k] => mIs C sc n k x
    | _ => false
def mXs (C : Mc) (sc : Scope) (n : Str) : Xs → Stmt → Bool
  | .set i e, .Assign [.Name x _] v _ => decide (C.N[i]? = some x) && okNm x && isSt true sc x && !(x == n) && mXe n e v
  | .ret e, .Return (some v) _ => mXe n e v
  | .ifis ks s, .If t [y] [] _ => mIt C sc n ks t && mXs C sc n s y
  | _, _ => false
def mXl (C : Mc) (sc : Scope) (n : Str) : List Xs → List Stmt → Bool
  | [], [] => true
  | s :: ss, x :: xs => mXs C sc n s x && mXl C sc n ss xs
  | _, _ => false
mutual
def mS (C : Mc) (sc : Scope) : Sm → Stmt → Bool
  | .set i e, .Assign [.Name x _] v _ => decide (C.N[i]? = some x) && okNm x && isSt true sc x && mE C sc e v
  | .par i j es, .Assign [.Tuple [.Name x p, .Name y q] _ _] (.Tuple [u, v] _ _) _ => decide (i ≠ j) && decide (C.N[i]? = some x) && decide (C.N[j]? = some y) && okNm x && okNm y && parOk sc x y p q u v && mEs C sc es [u, v]
  | .asg t e, .Assign [.Tuple ts k p] v _ => mT C true sc t (.Tuple ts k p) && noSwap ts v && !isComp v && mE C sc e v
  | .seti o i e, .Assign [.Subscript a b _] v _ => noSlice b && !isComp v && mE C sc o a && mE C sc i b && mE C sc e v
  | .setf o n e, .Assign [.Attribute x m _] v _ => decide (n = m) && !isComp v && mE C sc o x && mE C sc e v
  | .aug i o e, .AugAssign (.Name x _) o' v _ => decide (o = o') && decide (o = .Add) && decide (C.N[i]? = some x) && okNm x && isSt true sc x && mE C sc e v
  | .expr e, .Expr v _ => !isComp v && mE C sc e v
  | .ret e, .Return (some v) _ => mE C sc e v
  | .retn, .Return none _ => true
  | .iff c a b, .If x y z _ => mE C sc c x && mSs C sc a y && mSs C sc b z
  | .forr t it b, .For tg iter body [] _ => mT C true sc t tg && mI C sc it iter && mSs C sc b body
  | .whil c b, .While x body [] _ => mE C sc c x && mSs C sc b body
  | .brk, .Break _ => true
  | .cont, .Continue _ => true
  | .pass, .Pass _ => true
  | .rais k es, .Raise (some (.Call (.Name x _) xs [] _)) none _ => decide (C.nm[k]? = some x) && isGl sc x && okNm x && nilBoth es xs
  | .rai1 k e, .Raise (some (.Call (.Name x _) [y] [] _)) none _ => decide (C.nm[k]? = some x) && isGl sc x && okNm x && mE C sc e y
  | .tryx b k v ss, .Try body [.ExceptHandler (some (.Name x _)) (some n) suite _] [] [] _ => decide (C.nm[k]? = some x) && isGl sc x && okNm x && decide (C.N[v]? = some n) && decide (sc.names.lookup n = some .local) && okNm n && notNil suite && mSs C sc b body && mXl C sc n ss suite
  | .tryy b hs, .Try body hds [] [] _ => notNil hds && mSs C sc b body && mH C sc hs hds
  | _, _ => false
def mSs (C : Mc) (sc : Scope) : Sms → List Stmt → Bool
  | .nil, [] => true
  | .cons s ss, x :: xs => mS C sc s x && mSs C sc ss xs
  | _, _ => false
def mH (C : Mc) (sc : Scope) : Hds → List ExceptHandler → Bool
  | .nil, [] => true
  | .cons k b hs, .ExceptHandler (some (.Name x _)) none suite _ :: hds => decide (C.nm[k]? = some x) && isGl sc x && okNm x && hotSs b && notNil suite && mSs C sc b suite && mH C sc hs hds
  | _, _ => false
end

/-! ### what a statement asks -/
def PostS (K : PySem.W.Frag) (L : Addr → Prop) (f : List Addr) (H : Hp) (ca : Nat → Value) (W : WX) (D : Ends) (res : Res Out) : Prop :=
  match res with
  | .ok (.nx r h) => ∀ (f' : List Addr) (H' : Hp) (σ' : L2.St), Le f H f' H' → SRel K L f' h H' → SlR K L f' H' r σ' → D.nx σ' H'
  | .ok (.rt d h) => ∀ (f' : List Addr) (H' : Hp) (v : V), Le f H f' H' → SRel K L f' h H' → Rep K L f' H' v d → D.rt v H'
  | .ok (.bk r h) => ∀ (f' : List Addr) (H' : Hp) (σ' : L2.St), Le f H f' H' → SRel K L f' h H' → SlR K L f' H' r σ' → D.bk σ' H'
  | .ok (.ct r h) => ∀ (f' : List Addr) (H' : Hp) (σ' : L2.St), Le f H f' H' → SRel K L f' h H' → SlR K L f' H' r σ' → D.ct σ' H'
  | .ok (.ex c xs r h) => ∀ (f' : List Addr) (H' : Hp) (σ' : L2.St) (dd : Option Addr), Le f H f' H' → SRel K L f' h H' → SlR K L f' H' r σ' → XD K L f' H' (ca c) xs dd → W (ca c) dd σ' H'
  | _ => False
section
variable {K : PySem.W.Frag} {L : Addr → Prop} {f f' : List Addr} {h h' : Hh} {H H' : Hp} {ca : Nat → Value} {W : WX} {D : Ends}
theorem PostS.later {res : Res Out} (S : SRel K L f h H) (S' : SRel K L f' h' H') (l : Le f H f' H') (p : PostS K L f H ca W D res) : PostS K L f' H' ca W D res := by
  cases res with
  | ok o => cases o with
    | nx => exact fun f2 H2 σ' l2 S2 => p f2 H2 σ' (Le.trans S S' l l2) S2
    | rt => exact fun f2 H2 σ' l2 S2 => p f2 H2 σ' (Le.trans S S' l l2) S2
    | bk => exact fun f2 H2 σ' l2 S2 => p f2 H2 σ' (Le.trans S S' l l2) S2
    | ct => exact fun f2 H2 σ' l2 S2 => p f2 H2 σ' (Le.trans S S' l l2) S2
    | ex => exact fun f2 H2 σ' dd l2 S2 => p f2 H2 σ' dd (Le.trans S S' l l2) S2
  | exc => exact p
  | no => exact p
theorem PostS.bs {α : Type} {m : Res (α × Hh)} {r : Z9.Env} {σ : L2.St} {g : α × Hh → Res Out} (S : SRel K L f h H) (sl : SlR K L f H r σ) (p : PostS K L f H ca W D (m.bs r g)) :
    PostR K L f H ca (fun c d H' => W c d σ H') m fun a f1 h1 H1 => PostS K L f1 H1 ca W D (g (a, h1)) := by
  cases m with
  | ok q => exact fun f1 H1 l1 S1 => PostS.later S S1 l1 p
  | exc c xs h' => exact fun f1 H1 dd l1 S1 x1 => p f1 H1 σ dd l1 S1 (sl.mono S l1) x1
  | no => exact p
theorem PostS.pureBs {γ : Type} {m : Res γ} {r : Z9.Env} {g : γ → Res Out} (p : PostS K L f H ca W D (m.bs r g)) (hm : ∀ c xs h', m ≠ .exc c xs h') : ∃ z, m = .ok z ∧ PostS K L f H ca W D (g z) := by
  cases m with
  | ok z => exact ⟨z, rfl, p⟩
  | exc c xs h' => exact absurd rfl (hm _ _ _)
  | no => exact p.elim
theorem PostS.here {r : Z9.Env} {σ : L2.St} (S : SRel K L f h H) (sl : SlR K L f H r σ) (p : PostS K L f H ca W D (.ok (.nx r h))) : D.nx σ H := p f H σ .refl S sl
end
section
variable (K : PySem.W.Frag) (ca : Nat → Value) (W : WX) (G : Gam)
def tS (s : Sm) : TS := fun D σ H => ∃ (L : Addr → Prop) (f : List Addr) (r : Z9.Env) (h : Hh), SRel K L f h H ∧ SlR K L f H r σ ∧ PostS K L f H ca W D (evS G s r h)
def tSs (s : Sms) : TS := fun D σ H => ∃ (L : Addr → Prop) (f : List Addr) (r : Z9.Env) (h : Hh), SRel K L f h H ∧ SlR K L f H r σ ∧ PostS K L f H ca W D (evSs G s r h)
end
theorem PSm {X : Cx} {e : Stmt} {t t' : TS} (h : PS X e t) (k : ∀ D σ H, t' D σ H → t D σ H) : PS X e t' := ⟨fun pins s σ H D I q => h.run pins s σ H D I (k D σ H q)⟩
theorem PSsm {X : Cx} {e : List Stmt} {t t' : TS} (h : PSs X e t) (k : ∀ D σ H, t' D σ H → t D σ H) : PSs X e t' := ⟨fun pins s σ H D I q => h.run pins s σ H D I (k D σ H q)⟩

mutual
theorem setT_exc : ∀ (t : Tg) (d : D) (r : Z9.Env) (c : Nat) (xs : List D) (h' : Hh), setT t d r ≠ .exc c xs h'
  | .var i, d, r, c, xs, h' => by simp [setT]
  | .tup ts, d, r, c, xs, h' => by
    simp only [setT]
    split
    · exact setTs_exc ts _ _ _ _ _
    · exact setTs_exc ts _ _ _ _ _
    · simp
theorem setTs_exc : ∀ (t : Tgs) (d : List D) (r : Z9.Env) (c : Nat) (xs : List D) (h' : Hh), setTs t d r ≠ .exc c xs h'
  | .nil, [], r, c, xs, h' => by simp [setTs]
  | .nil, _ :: _, r, c, xs, h' => by simp [setTs]
  | .cons t ts, [], r, c, xs, h' => by simp [setTs]
  | .cons t ts, d :: ds, r, c, xs, h' => by
    simp only [setTs]
    exact bindC_exc (setT_exc t d r) (fun a => setTs_exc ts ds a) c xs h'
end
theorem setiD_exc (o i v : D) (h : Hh) : ∀ c xs h', setiD o i v h ≠ .exc c xs h' := by
  intro c xs h'
  unfold setiD
  split
  · split
    · split <;> simp
    · simp
  · simp
/-- o[i] = v, by values -/
def rSetD' (K : PySem.W.Frag) : TSet := fun o i v H Q => ∃ (L : Addr → Prop) (f : List Addr) (h : Hh) (d e w : D), SRel K L f h H ∧ Rep K L f H o d ∧ Rep K L f H i e ∧ Rep K L f H v w ∧
  match setiD d e w h with
  | .ok h' => ∀ (f' : List Addr) (H' : Hp), Le f H f' H' → SRel K L f' h' H' → Q H'
  | _ => False
theorem set_D {X : Cx} : PSet X (rSetD' X.K) := by
  intro pins s σ H o i v ov iv u Q I ro ri rv hh
  obtain ⟨L, f, h, d, e, w, S, rd, re, rw', q⟩ := hh
  obtain ⟨h', eh, q⟩ : ∃ h', setiD d e w h = .ok h' ∧ ∀ (f' : List Addr) (H' : Hp), Le f H f' H' → SRel X.K L f' h' H' → Q H' := by
    cases k : setiD d e w h with
    | ok h' =>
      rw [k] at q
      exact ⟨h', rfl, q⟩
    | exc c xs h' =>
      rw [k] at q
      exact q.elim
    | no =>
      rw [k] at q
      exact q.elim
  unfold setiD at eh
  split at eh
  · rename_i r j
    split at eh
    · rename_i ys ei
      split at eh
      · rename_i hj
        cases eh
        obtain ⟨a, ws, e1, e3, rr⟩ := S.objL ei
        cases rd with
        | ref e4 =>
          rw [e1] at e4
          cases e4
          have hi : r < h.length := (List.getElem?_eq_some_iff.mp ei).1
          obtain ⟨l, S'⟩ := S.change hi e1 (RepL.set rw' j.toNat rr)
          refine set_list pins s σ H _ _ v ov iv u Q I ro ri rv ⟨a, ws, j, j.toNat, rfl, re.intE, e3, ?_, q _ _ l S'⟩
          show (if 0 ≤ j then (if j < ws.length then some j.toNat else none) else _) = _
          rw [if_pos hj.1, if_pos (by rw [rr.length]; exact hj.2)]
      · cases eh
    · cases eh
  · cases eh
/-- x += v -/
def rAugD (K : PySem.W.Frag) : TIp := fun x y H Q => ∃ (L : Addr → Prop) (f : List Addr) (h : Hh) (d e : D), SRel K L f h H ∧ Rep K L f H x d ∧ Rep K L f H y e ∧
  match augD d e with
  | .ok z => ∀ (H' : Hp) (v : V), Le f H f H' → SRel K L f h H' → Rep K L f H' v z → Q v H'
  | _ => False
theorem ip_D {X : Cx} : PIp X .Add (rAugD X.K) := by
  intro pins s σ H x y v u Q I rx ry hh
  obtain ⟨L, f, h, d, e, S, rd, re, q0⟩ := hh
  obtain ⟨z, hz, q⟩ := rD_ok q0
  unfold augD at hz
  split at hz
  · cases rd; cases re; cases hz
    exact iop_add pins s σ H _ _ v u Q I rx ry ⟨_, _, rfl, rfl, q H _ .refl S (.int _)⟩
  · rename_i a b
    obtain ⟨hc, rfl⟩ := ofB_ok hz
    have hz : a.length + b.length ≤ sizeLine := of_decide_eq_true hc
    obtain ⟨rfl, _, _⟩ := rd.signs
    obtain ⟨rfl, _, _⟩ := re.signs
    exact iop_add_str pins s σ H _ _ v u Q I rx ry ⟨_, _, rfl, rfl, by rw [str_len, str_len]; exact hz, q H _ .refl S (rd.app re hz)⟩
  · cases hz
theorem augD_exc (d e : D) : ∀ c xs h', augD d e ≠ .exc c xs h' := by
  intro c xs h'
  unfold augD
  split <;> first | exact ofB_exc _ _ _ | simp

theorem whileN_more (c : Z9.Env → Hh → Res (Bool × Hh)) (g : Z9.Env → Hh → Res Out) : ∀ (n : Nat) (r : Z9.Env) (h : Hh), whileN c g n r h ≠ .no → whileN c g (n + 1) r h = whileN c g n r h
  | 0, r, h, k => absurd rfl k
  | n + 1, r, h, k => by
    rw [whileN]
    conv => rhs; rw [whileN]
    rw [whileN] at k
    cases e : c r h with
    | no => rfl
    | exc => rfl
    | ok b =>
      rw [e] at k
      simp only [Res.bs_ok] at k ⊢
      cases hb : b.1 with
      | false => rfl
      | true =>
        simp only [hb, if_true] at k ⊢
        cases e2 : g r b.2 with
        | no => rfl
        | exc => rfl
        | ok o =>
          rw [e2] at k
          cases o with
          | nx r' h' => exact whileN_more c g n r' h' k
          | ct r' h' => exact whileN_more c g n r' h' k
          | bk => rfl
          | rt => rfl
          | ex => rfl
end Z9

set_option Elab.async false
set_option linter.all false
set_option maxRecDepth 100000
set_option maxHeartbeats 16000000
/-! E12: every statement's run is the text's. -/
namespace Z9
open PySem PySem.Spec PyProof.Rows L2

section
variable {nm : List Str} {ca : Nat → Value} {G : Gam} {lv : Nat} {N : List Str}

/-- where a statement is read: a def's own body -/
structure SOk (nm : List Str) (ca : Nat → Value) (G : Gam) (lv : Nat) (N : List Str) (sc : Scope) (X : Cx) : Prop extends COk nm ca G lv N sc X where
  fnn : ∀ x, X.fn x = true
  stk : X.stack = X.env :: X.outer
  frm : X.env.frame = some X.env.locals
  own : PassesOwn (model X.prog X.w) X.A X.env X.xe
  exs : ∀ k x, G.exk k = true → nm[k]? = some x → ∃ (C : Addr) (bmB : List Value) (B newId initId : String), ExcBaseFacts B newId initId bmB ∧ PySem.W.excIn X.K C bmB newId = true ∧ X.mg x = some (.ref C) ∧ PySem.W.keepIn X.K (.ref C) = true ∧ Raises X (.ref C) ∧ ca k = .ref C
  hnd : ∀ c k x b, G.sub c k = some b → nm[k]? = some x → PySem.W.exmOne X.K (ca c) (ca k) = some b
  hcl : ∀ k x, nm[k]? = some x → G.cls k = true → X.mg x = some (ca k) ∨ (X.mg x = none ∧ bootBuiltins x = some (ca k) ∧ x ≠ "__name__")

theorem swaps_plain {e : Expr} {t : Option Expr} {l : Nat} {env : PySem.Env} (h : isComp e = false) : swapsWith e t l env = pure false := by
  cases e <;> first
    | rfl
    | (simp [isComp] at h)
theorem swaps_sole {e t : Expr} {l : Nat} {env : PySem.Env} (h : isComp e = false) : swapsWithSole [t] e l env = pure false := swaps_plain (t := some t) h
/-- a suite of the simple kind -/
theorem soundHot {sc : Scope} {X : Cx} (hN : X.N = N) (nd : X.N.Nodup) (hsc : X.env.scope = sc) (hf : ∀ x, X.fn x = true) : ∀ (s : Sms) {xs : List Stmt}, hotSs s = true → mSs ⟨N, nm⟩ sc s xs = true → PSs X xs (tSs X.K ca (fun _ _ _ _ => False) G s)
  | .nil, [], _, _ => PSsm pss_nil fun D σ H ⟨L, f, r, hh, S, sl, p⟩ => p.here S sl
  | .nil, _ :: _, _, h => by simp [mSs] at h
  | .cons s ss, [], _, h => by simp [mSs] at h
  | .cons s ss, x :: xs, hh, h => by
    simp only [mSs, Bool.and_eq_true] at h
    simp only [hotSs, Bool.and_eq_true] at hh
    have one : PS X x (tS X.K ca (fun _ _ _ _ => False) G s) := by
      obtain ⟨h1, _⟩ := h
      obtain ⟨h2, _⟩ := hh
      have con : ∀ (d : D) (v : Expr), mE ⟨N, nm⟩ sc (.con d) v = true → PE X v (tE X.K ca (fun _ _ _ _ => False) G (.con d)) ∧ isComp v = false := by
        intro d v h
        cases v <;> simp only [mE, Bool.false_eq_true] at h
        refine ⟨?_, rfl⟩
        unfold okC at h
        split at h
        · exact PEm pe_non fun σ H Q ⟨L, f, r, hh, S, sl, p⟩ => p.here S _ .non
        · rename_i a b
          have : a = b := by simpa using h
          subst this
          exact PEm pe_bl fun σ H Q ⟨L, f, r, hh, S, sl, p⟩ => p.here S _ (.bl _)
        · rename_i a b
          have : a = b := by simpa using h
          subst this
          exact PEm pe_int fun σ H Q ⟨L, f, r, hh, S, sl, p⟩ => p.here S _ (.int _)
        · rename_i a b
          simp only [Bool.and_eq_true, beq_iff_eq, decide_eq_true_eq] at h
          obtain ⟨⟨rfl, h2⟩, h3⟩ := h
          exact PEm pe_str fun σ H Q ⟨L, f, r, hh, S, sl, p⟩ => p.here S _ (.str _ h2 (by rw [sizeLine_eq]; omega))
        · cases h
      cases s <;> try simp only [hotS, Bool.false_eq_true] at h2
      · rename_i i e
        cases e <;> try simp only [hotS, Bool.false_eq_true] at h2
        rename_i d
        obtain ⟨y, py, v, pos, rfl, hq⟩ : ∃ y py v pos, x = .Assign [.Name y py] v pos ∧ (decide (N[i]? = some y) && okNm y && isSt true sc y && mE ⟨N, nm⟩ sc (.con d) v) = true := by
          unfold mS at h1
          split at h1
          all_goals first
            | (rename_i hh; cases hh; exact ⟨_, _, _, _, rfl, h1⟩)
            | (rename_i hh; cases hh; done)
            | cases h1
        simp only [Bool.and_eq_true, decide_eq_true_eq] at hq
        obtain ⟨⟨⟨k1, k2⟩, k3⟩, k4⟩ := hq
        obtain ⟨hl, hfx⟩ := isSt_of (X := X) hsc (fun _ => hf) k3
        obtain ⟨pe, ic⟩ := con d v k4
        refine PSm (ps_set nd (by rw [hN]; exact k1) hl pe (swaps_plain ic) hfx) fun D σ H ⟨L, f, r, hh, S, sl, p⟩ => ?_
        unfold evS at p
        refine tE_of S sl ((p.bs S sl).mono fun d f1 h1 H1 l1 S1 p1 w rw' => ?_)
        exact p1.here S1 ((sl.mono S l1).set rw')
      · rename_i e
        cases e <;> try simp only [hotS, Bool.false_eq_true] at h2
        rename_i d
        obtain ⟨v, pos, rfl, hq⟩ : ∃ v pos, x = .Return (some v) pos ∧ (mE ⟨N, nm⟩ sc (.con d) v) = true := by
          unfold mS at h1
          split at h1
          all_goals first
            | (rename_i hh; cases hh; exact ⟨_, _, rfl, h1⟩)
            | (rename_i hh; cases hh; done)
            | cases h1
        obtain ⟨pe, ic⟩ := con d v hq
        refine PSm (ps_ret pe) fun D σ H ⟨L, f, r, hh, S, sl, p⟩ => ?_
        unfold evS at p
        refine tE_of S sl ((p.bs S sl).mono fun d f1 h1 H1 l1 S1 p1 w rw' => ?_)
        exact p1 f1 H1 w .refl S1 rw'
      · obtain ⟨pos, rfl⟩ : ∃ pos, x = .Pass pos := by
          unfold mS at h1
          split at h1
          all_goals first
            | (rename_i hh; cases hh; done)
            | exact ⟨_, rfl⟩
            | cases h1
        exact PSm ps_pass fun D σ H ⟨L, f, r, hh, S, sl, p⟩ => p f H σ .refl S sl
    refine PSsm (pss_cons one (soundHot hN nd hsc hf ss hh.2 h.2)) fun D σ H ⟨L, f, r, hh, S, sl, p⟩ => ?_
    unfold evSs at p
    refine ⟨L, f, r, hh, S, sl, ?_⟩
    cases e : evS G s r hh with
    | exc c xs h' =>
      rw [e] at p
      exact p.elim
    | no =>
      rw [e] at p
      exact p.elim
    | ok o =>
      rw [e] at p
      simp only [Res.bind_ok] at p
      cases o with
      | nx r' h' => exact fun f' H' σ' l S' sl' => ⟨L, f', r', h', S', sl', PostS.later S S' l p⟩
      | rt => exact p
      | bk => exact p
      | ct => exact p
      | ex => exact p
/-- the clauses, and their suites -/
def hdL (K : PySem.W.Frag) (ca : Nat → Value) (G : Gam) : Hds → List (Value × (Addr → Value → Option Addr → TS))
  | .nil => []
  | .cons k b hs => (ca k, fun _ _ _ => tSs K ca (fun _ _ _ _ => False) G b) :: hdL K ca G hs
theorem hot_noex {G : Gam} : ∀ (s : Sms), hotSs s = true → ∀ (r : Z9.Env) (h : Hh) c xs r' h', evSs G s r h ≠ .ok (.ex c xs r' h')
  | .nil, _, r, h, c, xs, r', h' => by simp [evSs]
  | .cons s ss, hh, r, h, c, xs, r', h' => by
    simp only [hotSs, Bool.and_eq_true] at hh
    have ih := hot_noex (G := G) ss hh.2
    cases s <;> try simp [hotS] at hh
    · rename_i i e
      cases e <;> try simp [hotS] at hh
      simp only [evSs, evS, evE, Res.bs_ok, Res.bind_ok]
      exact ih _ _ _ _ _ _
    · rename_i e
      cases e <;> try simp [hotS] at hh
      simp [evSs, evS, evE]
    · simp only [evSs, evS, Res.bind_ok]
      exact ih _ _ _ _ _ _
theorem hds_ok {sc : Scope} {X : Cx} (c : SOk nm ca G lv N sc X) : ∀ (hs : Hds) {hds : List ExceptHandler}, hsOk G hs = true → mH ⟨N, nm⟩ sc hs hds = true → HdsOk X hds (hdL X.K ca G hs)
  | .nil, [], _, _ => .nil
  | .nil, _ :: _, _, h => by simp [mH] at h
  | .cons k b hs, hds, hk, h => by
    simp only [hsOk, Bool.and_eq_true] at hk
    obtain ⟨y, p, suite, pos, hds', rfl, hq⟩ : ∃ y p suite pos hds', hds = .ExceptHandler (some (.Name y p)) none suite pos :: hds' ∧ (decide (nm[k]? = some y) && isGl sc y && okNm y && hotSs b && notNil suite && mSs ⟨N, nm⟩ sc b suite && mH ⟨N, nm⟩ sc hs hds') = true := by
      unfold mH at h
      split at h
      all_goals first
        | (rename_i hh; cases hh; exact ⟨_, _, _, _, _, rfl, h⟩)
        | (rename_i hh; cases hh; done)
        | cases h
    simp only [Bool.and_eq_true, decide_eq_true_eq] at hq
    obtain ⟨⟨⟨⟨⟨⟨h1, h2⟩, h3⟩, h4⟩, h5⟩, h6⟩, h7⟩ := hq
    cases suite with
    | nil => cases h5
    | cons s0 suite =>
      obtain ⟨a1, _, _⟩ := okNm_of h3
      refine .cons ⟨isGl_gl c.toCOk h2, a1, c.hcl k y h1 hk.1⟩ (fun a oe cls d pn _ _ => ?_) (hds_ok c hs hk.2 h7)
      exact soundHot (X := X.suite a ((a, oe) :: pn)) c.N c.nd c.sc c.fnn b h4 h6
theorem handle_go {sc : Scope} {X : Cx} {W : WX} {L : Addr → Prop} {f : List Addr} {h : Hh} {H : Hp} {r : Z9.Env} {σ : L2.St} {cc : Nat} {ys : List D} {D : Ends} {dd : Option Addr} (c : SOk nm ca G lv N sc X) : ∀ (hs : Hds) {hds : List ExceptHandler}, mH ⟨N, nm⟩ sc hs hds = true → SRel X.K L f h H → SlR X.K L f H r σ → XD X.K L f H (ca cc) ys dd →
    PostS X.K L f H ca W D (evH G hs cc ys r h) → wMany X.K W D (hdL X.K ca G hs) (ca cc) dd σ H
  | .nil, _, _, S, sl, x, p => p f H σ dd .refl S sl x
  | .cons k b hs, hds, hm, S, sl, x, p => by
    obtain ⟨y, pp, suite, pos, hds', rfl, hq⟩ : ∃ y p suite pos hds', hds = .ExceptHandler (some (.Name y p)) none suite pos :: hds' ∧ (decide (nm[k]? = some y) && isGl sc y && okNm y && hotSs b && notNil suite && mSs ⟨N, nm⟩ sc b suite && mH ⟨N, nm⟩ sc hs hds') = true := by
      unfold mH at hm
      split at hm
      all_goals first
        | (rename_i hh; cases hh; exact ⟨_, _, _, _, _, rfl, hm⟩)
        | (rename_i hh; cases hh; done)
        | cases hm
    simp only [Bool.and_eq_true, decide_eq_true_eq] at hq
    obtain ⟨⟨⟨⟨⟨⟨h1, h2⟩, h3⟩, h4⟩, h5⟩, h6⟩, h7⟩ := hq
    unfold evH at p
    cases es : G.sub cc k with
    | none =>
      rw [es] at p
      exact p.elim
    | some bb =>
      rw [es] at p
      refine ⟨bb, c.hnd cc k y bb es h1, fun hb => ?_, fun hb => ?_⟩
      · subst hb
        intro a _
        refine ⟨L, f, r, h, S, sl, ?_⟩
        have hx := hot_noex (G := G) b h4 r h
        revert hx p
        cases evSs G b r h with
        | ok o => cases o <;> first
          | exact fun p _ => p
          | exact fun _ hx => absurd rfl (hx _ _ _ _)
        | exc => exact fun p _ => p
        | no => exact fun p _ => p
      · subst hb
        exact handle_go c hs h7 S sl x p
/-! ### an except suite with the error's name -/
/-- the error that the suite holds -/
def XE (K : PySem.W.Frag) (L : Addr → Prop) (f : List Addr) (H : Hp) (cls : Value) (x : D) (dd : Option Addr) : Prop :=
  ∃ (c : Str) (ns : List Str) (ds : List D) (C : Addr) (vs : List V), x = .exc c ns ds ∧ cls = .ref C ∧ clsNm K C = some c ∧ ExD L f H dd (ns.zip vs) ∧ ns.length = vs.length ∧ RepL K L f H vs ds
theorem XE.mono {K : PySem.W.Frag} {L : Addr → Prop} {f f' : List Addr} {h : Hh} {H H' : Hp} {cls : Value} {x : D} {dd : Option Addr} (S : SRel K L f h H) (l : Le f H f' H') (e : XE K L f H cls x dd) : XE K L f' H' cls x dd := by
  obtain ⟨c, ns, ds, C, vs, rfl, e1, e2, e3, e4, e5⟩ := e
  exact ⟨c, ns, ds, C, vs, rfl, e1, e2, e3.mono l, e4, e5.mono S l⟩
section
variable {X : Cx} {n : Str} {v : Nat} {a : Addr} {oe : Obj} {cls : Value} {d : Option Addr} {pn : List (Addr × Obj)} {sc : Scope}
def tXe (K : PySem.W.Frag) (G : Gam) (cls : Value) (dd : Option Addr) (v : Nat) (a : Addr) (e : Xe) : TE := fun σ H Q => ∃ (L : Addr → Prop) (f : List Addr) (h : Hh) (x : D), SRel K L f h H ∧ XE K L f H cls x dd ∧ σ[v]? = some (some (.ref a)) ∧
  match evX G x e with
  | .ok z => ∀ (H' : Hp) (w : V), Le f H f H' → SRel K L f h H' → Rep K L f H' w z → Q w H'
  | _ => False
theorem evX_fld {G : Gam} {c : Str} {ns : List Str} {ds : List D} {m : Str} : evX G (.exc c ns ds) (.fld m) = if G.efl c m then ofO ((ns.zip ds).lookup m) else .no := rfl
theorem mXe_plain {e : Xe} {x : Expr} (h : mXe n e x = true) : ∀ a p, x ≠ .Starred a p := by
  intros
  rintro rfl
  cases e <;> simp [mXe] at h
theorem soundXe (g : GOk nm ca G lv X.prog X.w X.K X.mg X.base) (hv : X.N[v]? = some n) (hl : X.env.scope.names.lookup n = some .local) (ok : okNm n = true) (hz : Zc cls d oe) (hf : ∃ vs, oe.data = .fields vs) :
    ∀ (e : Xe) {x : Expr}, mXe n e x = true → PE (X.suite a ((a, oe) :: pn)) x (tXe X.K G cls d v a e)
  | .con k, x, h => by
    cases x <;> simp only [mXe, Bool.false_eq_true] at h
    unfold okC at h
    split at h
    · exact PEm pe_non fun σ H Q ⟨L, f, hh, x, S, xe, sv, q⟩ => q H _ .refl S .non
    · rename_i a b
      have : a = b := by simpa using h
      subst this
      exact PEm pe_bl fun σ H Q ⟨L, f, hh, x, S, xe, sv, q⟩ => q H _ .refl S (.bl _)
    · rename_i a b
      have : a = b := by simpa using h
      subst this
      exact PEm pe_int fun σ H Q ⟨L, f, hh, x, S, xe, sv, q⟩ => q H _ .refl S (.int _)
    · rename_i a b
      simp only [Bool.and_eq_true, beq_iff_eq, decide_eq_true_eq] at h
      obtain ⟨⟨rfl, h2⟩, h3⟩ := h
      exact PEm pe_str fun σ H Q ⟨L, f, hh, x, S, xe, sv, q⟩ => q H _ .refl S (.str _ h2 (by rw [sizeLine_eq]; omega))
    · cases h
  | .fld m, x, h => by
    unfold mXe at h
    split at h <;> try (rename_i hh; cases hh)
    all_goals try cases h
    rename_i y py m' pos
    simp only [Bool.and_eq_true, beq_iff_eq, decide_eq_true_eq] at h
    obtain ⟨rfl, rfl⟩ := h
    obtain ⟨a1, a2, _⟩ := okNm_of ok
    by_cases hc : ∃ C c, cls = .ref C ∧ clsNm X.K C = some c ∧ G.efl c m = true
    · obtain ⟨C, c, ec, hcn, he⟩ := hc
      obtain ⟨xf, fi⟩ := g.efl _ _ _ he hcn
      refine PEm (pe_xf xf fi hz hf (pe_var (X := X.suite a ((a, oe) :: pn)) (i := v) hv (.inl hl) a1 a2) rfl) fun σ H Q ⟨L, f, hh, x, S, xe, sv, q⟩ => ?_
      refine ⟨_, sv, rfl, ec, ?_⟩
      obtain ⟨c', ns, ds, C', vs, rfl, e1, e2, e3, e4, e5⟩ := xe
      have eC : C = C' := by rw [ec] at e1; cases e1; rfl
      subst eC
      rw [hcn] at e2
      cases e2
      rw [evX_fld, if_pos he] at q
      cases el : (ns.zip ds).lookup m with
      | none =>
        rw [el] at q
        exact q.elim
      | some z =>
        rw [el] at q
        obtain ⟨w, lw, rw'⟩ := zip_look e4 e5 el
        rcases e3 with ⟨_, hn⟩ | ⟨dd, rfl, ed, _, _⟩
        · rw [hn] at lw
          cases lw
        · exact ⟨dd, _, w, rfl, ed, lw, q H w .refl S rw'⟩
    · exact ⟨fun pins s σ H Q I ⟨L, f, hh, x, S, xe, sv, q⟩ => by
        obtain ⟨c', ns, ds, C', vs, rfl, e1, e2, e3, e4, e5⟩ := xe
        rw [evX_fld] at q
        by_cases he : G.efl c' m = true
        · exact absurd ⟨C', c', e1, e2, he⟩ hc
        · rw [if_neg he] at q
          exact q.elim⟩
  | .tup2 e1 e2, x, h => by
    unfold mXe at h
    split at h <;> try (rename_i hh; cases hh)
    all_goals try cases h
    rename_i y z x1 pos
    simp only [Bool.and_eq_true] at h
    have p1 := soundXe g hv hl ok hz hf e1 h.1
    have p2 := soundXe g hv hl ok hz hf e2 h.2
    refine PEm (pe_tup (pa_cons p1 (pa_cons p2 pa_nil (star_cons (mXe_plain h.2))) (star_cons (mXe_plain h.1)))) fun σ H Q ⟨L, f, hh, x, S, xe, sv, q⟩ => ?_
    have eq : evX G x (.tup2 e1 e2) = (evX G x e1).bind fun p => (evX G x e2).bind fun q => .ok (.tup [p, q]) := by
      conv => lhs; unfold evX
    rw [eq] at q
    cases k1 : evX G x e1 with
    | exc => rw [k1] at q; exact q.elim
    | no => rw [k1] at q; exact q.elim
    | ok z1 =>
      rw [k1] at q
      simp only [Res.bind_ok] at q
      cases k2 : evX G x e2 with
      | exc => rw [k2] at q; exact q.elim
      | no => rw [k2] at q; exact q.elim
      | ok z2 =>
        rw [k2] at q
        simp only [Res.bind_ok] at q
        refine ⟨L, f, hh, x, S, xe, sv, ?_⟩
        rw [k1]
        intro H1 w1 l1 S1 r1
        refine ⟨L, f, hh, x, S1, xe.mono S l1, sv, ?_⟩
        rw [k2]
        intro H2 w2 l2 S2 r2
        refine ⟨by simp [sizeLine_eq], fun p hp => ?_⟩
        exact fin_tup S2 (.cons (r1.mono S1 l2) (.cons r2 .nil)) (fun H' w l S' r => q H' w (Le.trans S S2 (Le.trans S S1 l1 l2) l) S' r) hp
/-- isinstance of the error that the suite holds -/
def rIsX (K : PySem.W.Frag) (a : Addr) (cls : Value) (d : Option Addr) : List V → Hp → VK → Prop := fun xs H Q => ∃ (C : Addr) (fs : List (Str × V)) (c : V) (cv : Value) (b : Bool), xs = [.ref a, c] ∧ cls = .ref C ∧ dictAt H d fs ∧ EcK K C ∧ ClsV c cv ∧ PySem.W.kitOne K (.ref C) cv = some b ∧ Q (.bl b) H
theorem call_isX (hz : Zc cls d oe) (hf : ∃ vs, oe.data = .fields vs) : CallR (X.suite a ((a, oe) :: pn)) (.builtin "isinstance") (rIsX X.K a cls d) := by
  intro pins s σ H vs us Q I rs hh
  obtain ⟨C, fs, c, cv, b, rfl, ec', hd, ec, hc, hk, q⟩ := hh
  obtain ⟨ha, _⟩ := I.pin (a, oe) (List.mem_append_left _ List.mem_cons_self)
  obtain ⟨vs, hdt⟩ := hf
  obtain ⟨od, ia⟩ : ∃ od, PySem.W.InstAt s.heap a oe C od := by
    have z1 : oe.cls = .ref C := by rw [← ec']; exact hz.1
    cases d with
    | none => exact ⟨none, ha, z1, by unfold PySem.W.notCls; rw [hdt] <;> rfl, by rw [hz.2]; trivial⟩
    | some dd =>
      have hx : ObjOk X.prog X.w H s.heap dd (.xd fs) := I.hok dd _ hd
      obtain ⟨mA, hns, hr⟩ := hx
      obtain ⟨od, ho, hl⟩ := lookIn_ns hns
      exact ⟨some od, ha, z1, by unfold PySem.W.notCls; rw [hdt] <;> rfl, by rw [hz.2]; exact ho⟩
  have K1 := PySem.W.kitx_exc (od := od) (x := a) (ox := oe) ec.cl ec.ec.hg ec.ec.hk ec.ec.hs ec.ec.ha ec.ec.hn ec.ec.ht ec.ec.hm
  obtain ⟨u, rfl, hu⟩ : ∃ u, us = [.ref a, u] ∧ RelV c u := by
    cases rs with
    | cons r t =>
      cases t with
      | cons r2 t2 =>
        cases t2
        cases r
        exact ⟨_, rfl, r2⟩
  have : u = cv := hc.eq hu
  subst this
  refine PySem.W.kia_one K1 I.kIn ia hk (fun z => by cases z) (fun tk => ?_)
  exact ⟨.bl b, H, { I with }, rfl, q⟩
def isX (G : Gam) (x : D) (ks : List Nat) : Option Bool := match x with
  | .exc c _ _ => allIs G c ks
  | _ => none
def tXi (K : PySem.W.Frag) (G : Gam) (cls : Value) (dd : Option Addr) (v : Nat) (a : Addr) (ks : List Nat) : TT := fun σ H Q => ∃ (L : Addr → Prop) (f : List Addr) (h : Hh) (x : D), SRel K L f h H ∧ XE K L f H cls x dd ∧ σ[v]? = some (some (.ref a)) ∧
  match isX G x ks with
  | some b => Q b H
  | none => False
theorem soundXi (c : COk nm ca G lv N sc X) (hv : X.N[v]? = some n) (hl : X.env.scope.names.lookup n = some .local) (ok : okNm n = true) (hz : Zc cls d oe) (hf : ∃ vs, oe.data = .fields vs) (k : Nat) {x : Expr} (h : mIs ⟨N, nm⟩ sc n k x = true) :
    PT (X.suite a ((a, oe) :: pn)) x (tXi X.K G cls d v a [k]) := by
  unfold mIs at h
  split at h <;> try cases h
  rename_i fn pp y qy z qz pos
  simp only [Bool.and_eq_true, beq_iff_eq, decide_eq_true_eq] at h
  obtain ⟨⟨⟨⟨h1, rfl⟩, h3⟩, h4⟩, h5⟩ := h
  obtain ⟨rfl, g1, g2, g3, g4⟩ := glName_of c h1 (by decide)
  obtain ⟨a1, a2, a3⟩ := okNm_of h5
  obtain ⟨b1, b2, _⟩ := okNm_of ok
  have pz : ∃ tz : TE, PE (X.suite a ((a, oe) :: pn)) (.Name z qz) tz ∧ ∀ c0 b C, G.esub c0 k = some b → clsNm X.K C = some c0 → ∃ v cv, tz = tC v ∧ ClsV v cv ∧ EcK X.K C ∧ PySem.W.kitOne X.K (.ref C) cv = some b := by
    by_cases hx : ∃ c0 b, G.esub c0 k = some b
    · obtain ⟨v, cv, q1, q2, q3, q4⟩ := c.gam.esub k z hx h3
      refine ⟨tC v, ?_, fun c0 b C e1 e2 => ⟨v, cv, rfl, q1, q4 c0 b C e1 e2⟩⟩
      have gl : Gl (X.suite a ((a, oe) :: pn)) z := isGl_gl c h4
      rcases q3 with q3 | ⟨q3, q5⟩
      · exact pe_glob gl q3 q2 a1
      · exact pe_bltn gl q3 q5 q2 a3 a1
    · exact ⟨fun _ _ _ => False, ⟨fun _ _ _ _ _ _ z => z.elim⟩, fun c0 b C e1 _ => absurd ⟨c0, b, e1⟩ hx⟩
  obtain ⟨tz, pz, hzz⟩ := pz
  have pv : PE (X.suite a ((a, oe) :: pn)) (.Name y qy) (tVar v) := pe_var (i := v) hv (.inl hl) b1 b2
  have gi : Gl (X.suite a ((a, oe) :: pn)) "isinstance" := g1
  have pe := pe_callB (X := X.suite a ((a, oe) :: pn)) (p := pp) (pos := pos) (call_isX (X := X) (pn := pn) (a := a) hz hf) gi g2 (by decide +kernel) (pa_cons pv (pa_cons pz pa_nil (by rfl)) (by rfl)) (by decide) (by decide) (by rfl) (by rfl)
  refine PTm (pt_val pe (isTrue_of rfl)) fun σ H Q ⟨L, f, hh, x, S, xe, sv, q⟩ => ?_
  obtain ⟨c', ns, ds, C', vs, rfl, e1, e2, e3, e4, e5⟩ := xe
  unfold isX allIs at q
  simp only [allIs] at q
  cases eb : G.esub c' k with
  | none =>
    rw [eb] at q
    exact q.elim
  | some b =>
    rw [eb] at q
    obtain ⟨cw, cv, ew, k1, k2, k3⟩ := hzz _ _ _ eb e2
    subst ew
    refine ⟨_, sv, ?_⟩
    have hd : ∃ fs, dictAt H d fs := by
      rcases e3 with ⟨rfl, _⟩ | ⟨dd, rfl, ed, _, _⟩
      · exact ⟨[], rfl⟩
      · exact ⟨_, ed⟩
    obtain ⟨fs, hd⟩ := hd
    exact ⟨C', fs, cw, cv, b, rfl, e1, hd, k2, k1, k3, b, rfl, by cases b <;> exact q⟩
theorem soundXil (c : COk nm ca G lv N sc X) (hv : X.N[v]? = some n) (hl : X.env.scope.names.lookup n = some .local) (ok : okNm n = true) (hz : Zc cls d oe) (hf : ∃ vs, oe.data = .fields vs) {pos : Pos} : ∀ (k : Nat) (ks : List Nat) {xs : List Expr}, mIl ⟨N, nm⟩ sc n (k :: ks) xs = true →
    PW (X.suite a ((a, oe) :: pn)) (.BoolOp .And xs pos) (tXi X.K G cls d v a (k :: ks))
  | k, [], xs, h => by
    cases xs with
    | nil => simp [mIl] at h
    | cons x xs =>
      simp only [mIl, Bool.and_eq_true] at h
      cases xs with
      | cons _ _ => simp [mIl] at h
      | nil => exact pw_and1 (soundXi c hv hl ok hz hf k h.1)
  | k, k2 :: ks, xs, h => by
    cases xs with
    | nil => simp [mIl] at h
    | cons x xs =>
      rw [mIl, Bool.and_eq_true] at h
      cases xs with
      | nil => simp [mIl] at h
      | cons y ys =>
        refine PWm (pw_and (soundXi c hv hl ok hz hf k h.1) (soundXil c hv hl ok hz hf k2 ks h.2)) fun σ H Q ⟨L, f, hh, x, S, xe, sv, q⟩ => ?_
        refine ⟨L, f, hh, x, S, xe, sv, ?_⟩
        obtain ⟨c', ns, ds, C', vs, rfl, e1⟩ := xe
        unfold isX at q ⊢
        unfold allIs at q
        cases eb : G.esub c' k with
        | none =>
          simp only [eb] at q
        | some b =>
          simp only [eb, allIs] at q ⊢
          cases b with
          | false => exact q
          | true => exact ⟨L, f, hh, _, S, ⟨c', ns, ds, C', vs, rfl, e1⟩, sv, q⟩
theorem soundXit (c : COk nm ca G lv N sc X) (hv : X.N[v]? = some n) (hl : X.env.scope.names.lookup n = some .local) (ok : okNm n = true) (hz : Zc cls d oe) (hf : ∃ vs, oe.data = .fields vs) (ks : List Nat) {x : Expr} (h : mIt ⟨N, nm⟩ sc n ks x = true) :
    PT (X.suite a ((a, oe) :: pn)) x (tXi X.K G cls d v a ks) := by
  unfold mIt at h
  split at h
  · rename_i xs pos
    simp only [Bool.and_eq_true] at h
    cases ks with
    | nil => cases h.1
    | cons k ks => exact (soundXil c hv hl ok hz hf k ks h.2).pt
  · split at h
    · exact soundXi c hv hl ok hz hf _ h
    · cases h
/-- what a suite's statement asks -/
def PostX (K : PySem.W.Frag) (L : Addr → Prop) (f : List Addr) (h : Hh) (H : Hp) (v : Nat) (a : Addr) (D : Ends) (res : Res Out) : Prop := match res with
  | .ok (.nx r h') => h' = h ∧ ∀ (H' : Hp) (σ' : L2.St), Le f H f H' → SRel K L f h H' → SlR K L f H' r σ' → σ'[v]? = some (some (.ref a)) → D.nx σ' H'
  | .ok (.rt d h') => h' = h ∧ ∀ (H' : Hp) (w : V), Le f H f H' → SRel K L f h H' → Rep K L f H' w d → D.rt w H'
  | _ => False
theorem PostX.later {K : PySem.W.Frag} {L : Addr → Prop} {f : List Addr} {h : Hh} {H H' : Hp} {D : Ends} {res : Res Out} (S : SRel K L f h H) (S' : SRel K L f h H') (l : Le f H f H') (p : PostX K L f h H v a D res) : PostX K L f h H' v a D res := by
  cases res with
  | ok o => cases o with
    | nx r h' => exact ⟨p.1, fun H2 σ' l2 S2 => p.2 H2 σ' (Le.trans S S' l l2) S2⟩
    | rt d h' => exact ⟨p.1, fun H2 w l2 S2 => p.2 H2 w (Le.trans S S' l l2) S2⟩
    | bk => exact p
    | ct => exact p
    | ex => exact p
  | exc => exact p
  | no => exact p
def tXs (K : PySem.W.Frag) (G : Gam) (cls : Value) (dd : Option Addr) (v : Nat) (a : Addr) (s : Xs) : TS := fun D σ H => ∃ (L : Addr → Prop) (f : List Addr) (r : Z9.Env) (h : Hh) (x : Z9.D), SRel K L f h H ∧ SlR K L f H r σ ∧ XE K L f H cls x dd ∧ σ[v]? = some (some (.ref a)) ∧ PostX K L f h H v a D (evXs G x s r h)
def tXl (K : PySem.W.Frag) (G : Gam) (cls : Value) (dd : Option Addr) (v : Nat) (a : Addr) (s : List Xs) : TS := fun D σ H => ∃ (L : Addr → Prop) (f : List Addr) (r : Z9.Env) (h : Hh) (x : Z9.D), SRel K L f h H ∧ SlR K L f H r σ ∧ XE K L f H cls x dd ∧ σ[v]? = some (some (.ref a)) ∧ PostX K L f h H v a D (evXl G x s r h)
theorem soundX (c : COk nm ca G lv N sc X) (hfn : ∀ x, X.fn x = true) (hv : X.N[v]? = some n) (hl : X.env.scope.names.lookup n = some .local) (ok : okNm n = true) (hz : Zc cls d oe) (hf : ∃ vs, oe.data = .fields vs) :
    ∀ (s : Xs) {x : Stmt}, mXs ⟨N, nm⟩ sc n s x = true → PS (X.suite a ((a, oe) :: pn)) x (tXs X.K G cls d v a s)
  | .set i e, x, h => by
    unfold mXs at h
    split at h <;> try (rename_i hh; cases hh)
    all_goals try cases h
    rename_i y py w pos
    simp only [Bool.and_eq_true, decide_eq_true_eq, Bool.not_eq_true'] at h
    obtain ⟨⟨⟨⟨h1, h2⟩, h3⟩, h4⟩, h5⟩ := h
    have pe := soundXe (pn := pn) (a := a) c.gam hv hl ok hz hf e h5
    obtain ⟨hlo, hfx⟩ := isSt_of (X := X) c.sc (fun _ => hfn) h3
    have hN : X.N[i]? = some y := by rw [c.N]; exact h1
    have ic : isComp w = false := by
      cases e <;> cases w <;> first
        | rfl
        | (simp [mXe] at h5; done)
    have ne : i ≠ v := fun z => by
      subst z
      rw [hN] at hv
      cases hv
      rw [beq_self_eq_true] at h4
      cases h4
    refine PSm (ps_set (X := X.suite a ((a, oe) :: pn)) c.nd hN hlo pe (swaps_plain ic) hfx) fun D σ H ⟨L, f, r, hh, x, S, sl, xe, sv, p⟩ => ?_
    refine ⟨L, f, hh, x, S, xe, sv, ?_⟩
    unfold evXs at p
    cases k1 : evX G x e with
    | exc => rw [k1] at p; exact p.elim
    | no => rw [k1] at p; exact p.elim
    | ok z =>
      rw [k1] at p
      intro H' w' l S' rw'
      exact p.2 H' _ l S' ((sl.mono S l).set rw') (by rw [List.getElem?_set_ne ne]; exact sv)
  | .ret e, x, h => by
    unfold mXs at h
    split at h <;> try (rename_i hh; cases hh)
    all_goals try cases h
    rename_i w pos
    have pe := soundXe (pn := pn) (a := a) c.gam hv hl ok hz hf e h
    refine PSm (ps_ret pe) fun D σ H ⟨L, f, r, hh, x, S, sl, xe, sv, p⟩ => ?_
    refine ⟨L, f, hh, x, S, xe, sv, ?_⟩
    unfold evXs at p
    cases k1 : evX G x e with
    | exc => rw [k1] at p; exact p.elim
    | no => rw [k1] at p; exact p.elim
    | ok z =>
      rw [k1] at p
      exact fun H' w' l S' rw' => p.2 H' _ l S' rw'
  | .ifis ks s, x, h => by
    unfold mXs at h
    split at h <;> try (rename_i hh; cases hh)
    all_goals try cases h
    rename_i t y pos
    simp only [Bool.and_eq_true] at h
    refine PSm (ps_if (soundXit (pn := pn) (a := a) c hv hl ok hz hf ks h.1) (pss_one (soundX c hfn hv hl ok hz hf s h.2)) pss_nil) fun D σ H ⟨L, f, r, hh, x, S, sl, xe, sv, p⟩ => ?_
    refine ⟨L, f, hh, x, S, xe, sv, ?_⟩
    have xe0 := xe
    obtain ⟨c', ns, ds, C', vs, rfl, e1⟩ := xe
    unfold evXs at p
    unfold isX
    simp only at p ⊢
    cases k1 : allIs G c' ks with
    | none => rw [k1] at p; exact p.elim
    | some b =>
      rw [k1] at p
      cases b with
      | true => exact iteT ⟨L, f, r, hh, _, S, sl, xe0, sv, p⟩
      | false => exact iteF (p.2 H σ .refl S sl sv)
theorem soundXl (c : COk nm ca G lv N sc X) (hfn : ∀ x, X.fn x = true) (hv : X.N[v]? = some n) (hl : X.env.scope.names.lookup n = some .local) (ok : okNm n = true) (hz : Zc cls d oe) (hf : ∃ vs, oe.data = .fields vs) :
    ∀ (s : List Xs) {x : List Stmt}, mXl ⟨N, nm⟩ sc n s x = true → PSs (X.suite a ((a, oe) :: pn)) x (tXl X.K G cls d v a s)
  | [], [], _ => PSsm pss_nil fun D σ H ⟨L, f, r, hh, x, S, sl, xe, sv, p⟩ => p.2 H σ .refl S sl sv
  | [], _ :: _, h => by simp [mXl] at h
  | _ :: _, [], h => by simp [mXl] at h
  | s :: ss, x :: xs, h => by
    simp only [mXl, Bool.and_eq_true] at h
    refine PSsm (pss_cons (soundX c hfn hv hl ok hz hf s h.1) (soundXl c hfn hv hl ok hz hf ss h.2)) fun D σ H ⟨L, f, r, hh, x, S, sl, xe, sv, p⟩ => ?_
    refine ⟨L, f, r, hh, x, S, sl, xe, sv, ?_⟩
    unfold evXl at p
    cases k1 : evXs G x s r hh with
    | exc => rw [k1] at p; exact p.elim
    | no => rw [k1] at p; exact p.elim
    | ok o =>
      rw [k1] at p
      simp only [Res.bind_ok] at p
      have hst : ∀ (s : Xs) (r : Z9.Env) {r' : Z9.Env} {h' : Hh}, evXs G x s r hh = .ok (.nx r' h') → h' = hh := by
        intro s
        induction s with
        | set i e =>
          intro r r' h' k
          unfold evXs at k
          cases k2 : evX G x e <;> rw [k2] at k <;> cases k
          rfl
        | ret e =>
          intro r r' h' k
          unfold evXs at k
          cases k2 : evX G x e <;> rw [k2] at k <;> cases k
        | ifis ks s ih =>
          intro r r' h' k
          unfold evXs at k
          split at k
          · split at k
            · exact ih r k
            · cases k; rfl
            · cases k
          · cases k
      cases o with
      | nx r' h' =>
        have := hst s r k1
        subst this
        exact ⟨rfl, fun H' σ' l S' sl' sv' => ⟨L, f, r', h', x, S', sl', xe.mono S l, sv', PostX.later S S' l p⟩⟩
      | rt => exact p
      | bk => exact p
      | ct => exact p
      | ex => exact p
end
theorem evXs_st {G : Gam} {x : D} {h : Hh} : ∀ (s : Xs) {r : Z9.Env} {o : Out}, evXs G x s r h = .ok o → (∃ r', o = .nx r' h) ∨ ∃ d, o = .rt d h
  | .set i e, r, o, k => by
    unfold evXs at k
    cases k2 : evX G x e <;> rw [k2] at k <;> cases k
    exact .inl ⟨_, rfl⟩
  | .ret e, r, o, k => by
    unfold evXs at k
    cases k2 : evX G x e <;> rw [k2] at k <;> cases k
    exact .inr ⟨_, rfl⟩
  | .ifis ks s, r, o, k => by
    unfold evXs at k
    split at k
    · split at k
      · exact evXs_st s k
      · cases k
        exact .inl ⟨_, rfl⟩
      · cases k
    · cases k
theorem evXl_go {G : Gam} {x : D} {h : Hh} : ∀ {s : List Xs} {r : Z9.Env} {o : Out}, evXl G x s r h = .ok o → (∃ r', o = .nx r' h) ∨ ∃ d, o = .rt d h
  | [], r, o, k => by
    cases k
    exact .inl ⟨_, rfl⟩
  | s :: ss, r, o, k => by
    unfold evXl at k
    cases k1 : evXs G x s r h with
    | exc => rw [k1] at k; cases k
    | no => rw [k1] at k; cases k
    | ok o1 =>
      rw [k1] at k
      simp only [Res.bind_ok] at k
      rcases evXs_st s k1 with ⟨r', rfl⟩ | ⟨d, rfl⟩
      · exact evXl_go k
      · cases k
        exact .inr ⟨_, rfl⟩
theorem evXl_st {G : Gam} {x : D} {h : Hh} {s : List Xs} {r : Z9.Env} {o : Out} (k : evXl G x s r h = .ok o) : (∀ r' h', o = .nx r' h' → h' = h) ∧ ∀ d h', o = .rt d h' → h' = h := by
  rcases evXl_go k with ⟨r', rfl⟩ | ⟨d, rfl⟩
  · exact ⟨fun _ _ e => (by cases e; rfl), fun _ _ e => (by cases e)⟩
  · exact ⟨fun _ _ e => (by cases e), fun _ _ e => (by cases e; rfl)⟩
theorem evXl_no {G : Gam} {x : D} {h : Hh} {s : List Xs} {r : Z9.Env} {o : Out} (k : evXl G x s r h = .ok o) : match o with
    | .bk _ _ => False
    | .ct _ _ => False
    | .ex _ _ _ _ => False
    | _ => True := by
  rcases evXl_go k with ⟨r', rfl⟩ | ⟨d, rfl⟩ <;> trivial
mutual
theorem soundS : ∀ (s : Sm) {x : Stmt} {sc : Scope} {X : Cx} {W : WX}, SOk nm ca G lv N sc X → Takes X W → mS ⟨N, nm⟩ sc s x = true → PS X x (tS X.K ca W G s)
  | .set i e, x, sc, X, W, c, tk, h => by
    obtain ⟨y, py, v, pos, rfl, hq⟩ : ∃ y py v pos, x = .Assign [.Name y py] v pos ∧ (decide (N[i]? = some y) && okNm y && isSt true sc y && mE ⟨N, nm⟩ sc e v) = true := by
      unfold mS at h
      split at h
      all_goals first
        | (rename_i hh; cases hh; exact ⟨_, _, _, _, rfl, h⟩)
        | (rename_i hh; cases hh; done)
        | cases h
    simp only [Bool.and_eq_true, decide_eq_true_eq] at hq
    obtain ⟨⟨⟨h1, h2⟩, h3⟩, h4⟩ := hq
    obtain ⟨hl, hf⟩ := isSt_of (X := X) c.sc (fun _ => c.fnn) h3
    have hN : X.N[i]? = some y := by rw [c.N]; exact h1
    have pe := (soundE e c.toCOk tk h4).1
    have go : ∀ D σ H, tS X.K ca W G (.set i e) D σ H → tAsg (tE X.K ca W G e) (gName i) D σ H := fun D σ H ⟨L, f, r, hh, S, sl, p⟩ => by
      unfold evS at p
      refine tE_of S sl ((p.bs S sl).mono fun d f1 h1 H1 l1 S1 p1 w rw' => ?_)
      exact p1.here S1 ((sl.mono S l1).set rw')
    have plain : swapsWith v (some (.Name y py)) pos.line X.env = pure false → PS X (.Assign [.Name y py] v pos) (tS X.K ca W G (.set i e)) := fun hs => PSm (ps_set c.nd hN hl pe hs hf) go
    cases v with
    | ListComp elt gs scope lpos =>
      have hsw : swapsWith (.ListComp elt gs scope lpos) (some (.Name y py)) pos.line X.env = pure (X.env.blockKind == .function && X.env.kindOf y == some .local && py.line == lpos.line && !(scope.names.any fun (n, k) => n == y && (k == .local || k == .cell))) := rfl
      cases hB : (X.env.blockKind == .function && X.env.kindOf y == some .local && py.line == lpos.line && !(scope.names.any fun (n, k) => n == y && (k == .local || k == .cell))) with
      | false => exact plain (by rw [hsw, hB])
      | true =>
        have hyl : X.env.scope.names.lookup y = some .local := by
          simp only [Bool.and_eq_true, beq_iff_eq] at hB
          exact hB.1.1.2
        have two : (∃ new elt' t it ifs own, e = .lc new elt' t it ifs own) ∨ ∃ new elt' t it ifs own, e = .lcv new elt' t it ifs own := by
          cases e <;> try simp only [mE, Bool.false_eq_true] at h4
          · exact .inr ⟨_, _, _, _, _, _, rfl⟩
          · exact .inl ⟨_, _, _, _, _, _, rfl⟩
        rcases two with ⟨new, elt', t, it, ifs, own, rfl⟩ | ⟨new, elt', t, it, ifs, own, rfl⟩
        · obtain ⟨e2, t2, iter, fs, scope', pos', eq, hq⟩ := inv_lc h4
          cases eq
          simp only [Bool.and_eq_true, decide_eq_true_eq] at hq
          obtain ⟨⟨⟨⟨⟨⟨⟨h1', h2'⟩, h3'⟩, h4'⟩, h5'⟩, h6'⟩, h7'⟩, h8'⟩ := hq
          have ok : BlkOk X.N X.env.scope scope (own.map fun i => (N.getD i Str.empty, i)) := by
            rw [c.N, c.sc]
            exact blkOk_by h2'
          refine PSm (ps_setLc (own := own.map fun i => (N.getD i Str.empty, i)) (g := gD X.K t) (tt := tTs X.K ca (fun _ _ _ _ => False) G ifs) (te := tE X.K ca (fun _ _ _ _ => False) G elt') c.calm c.nd hN hyl (by rw [hsw, hB]) (soundI it c.toCOk tk h4' t2) ok
            (fun s H C cl fp => soundTg (X := X.blk s H scope (compEnvC scope cl C X.env) fp) (C := ⟨N, nm⟩) (k := false) c.N c.nd (by show relS scope X.env.scope = _; rw [c.sc]) c.calm (fun z => absurd z Bool.false_ne_true) t t2 h5')
            (fun s H C cl fp => soundTs ifs (blkCOk c.toCOk s H scope C cl fp) takes0 h7' h6') (fun s H C cl fp => (soundE elt' (blkCOk c.toCOk s H scope C cl fp) takes0 h8').1) (mI_set h4')) fun D σ H q => ?_
          have e : (own.map fun i => (N.getD i Str.empty, i)).map (·.2) = own := by rw [List.map_map]; exact List.map_id own
          rw [e]
          exact lc_go c.toCOk new elt' t it ifs own h1' (go D σ H q)
        · obtain ⟨e2, t2, iter, fs, scope', pos', eq, hq⟩ := inv_lcv h4
          cases eq
          simp only [Bool.and_eq_true, decide_eq_true_eq] at hq
          obtain ⟨⟨⟨⟨⟨⟨⟨h1', h2'⟩, h3'⟩, h4'⟩, h5'⟩, h6'⟩, h7'⟩, h8'⟩ := hq
          have ok : BlkOk X.N X.env.scope scope (own.map fun i => (N.getD i Str.empty, i)) := by
            rw [c.N, c.sc]
            exact blkOk_by h2'
          refine PSm (ps_setLc (own := own.map fun i => (N.getD i Str.empty, i)) (g := gD X.K t) (tt := tTs X.K ca (fun _ _ _ _ => False) G ifs) (te := tE X.K ca (fun _ _ _ _ => False) G elt') c.calm c.nd hN hyl (by rw [hsw, hB]) (pi_list (soundE it c.toCOk tk h4').1) ok
            (fun s H C cl fp => soundTg (X := X.blk s H scope (compEnvC scope cl C X.env) fp) (C := ⟨N, nm⟩) (k := false) c.N c.nd (by show relS scope X.env.scope = _; rw [c.sc]) c.calm (fun z => absurd z Bool.false_ne_true) t t2 h5')
            (fun s H C cl fp => soundTs ifs (blkCOk c.toCOk s H scope C cl fp) takes0 h7' h6') (fun s H C cl fp => (soundE elt' (blkCOk c.toCOk s H scope C cl fp) takes0 h8').1) (not_set h4')) fun D σ H q => ?_
          have e : (own.map fun i => (N.getD i Str.empty, i)).map (·.2) = own := by rw [List.map_map]; exact List.map_id own
          rw [e]
          exact lcv_go c.toCOk new elt' t it ifs own h1' (go D σ H q)
    | SetComp => cases e <;> simp [mE] at h4
    | DictComp => cases e <;> simp [mE] at h4
    | _ => exact plain rfl
  | .asg t e, x, sc, X, W, c, tk, h => by
    obtain ⟨ts, k, p, v, pos, rfl, hq⟩ : ∃ ts k p v pos, x = .Assign [.Tuple ts k p] v pos ∧ (mT ⟨N, nm⟩ true sc t (.Tuple ts k p) && noSwap ts v && !isComp v && mE ⟨N, nm⟩ sc e v) = true := by
      unfold mS at h
      split at h
      all_goals first
        | (rename_i hh; cases hh; exact ⟨_, _, _, _, _, rfl, h⟩)
        | (rename_i hh; cases hh; done)
        | cases h
    simp only [Bool.and_eq_true, Bool.not_eq_true'] at hq
    obtain ⟨⟨⟨h1, h2⟩, h3⟩, h4⟩ := hq
    have pe := (soundE e c.toCOk tk h4).1
    have pg := soundTg (C := ⟨N, nm⟩) (k := true) c.N c.nd c.sc c.calm (fun _ => c.fnn) t _ h1
    refine PSm (ps_asg pe pg (swaps_sole h3) (noSwap_of h2) rfl) fun D σ H ⟨L, f, r, hh, S, sl, p⟩ => ?_
    unfold evS at p
    refine tE_of S sl ((p.bs S sl).mono fun d f1 h1 H1 l1 S1 p1 w rw' => ?_)
    obtain ⟨r', er, p2⟩ := p1.pureBs (setT_exc _ _ _)
    exact ⟨L, f1, h1, r, r', d, S1, sl.mono S l1, rw', er, fun σ' s' _ => p2.here S1 s'⟩
  | .par i j es, x, sc, X, W, c, tk, h => by
    obtain ⟨y, p1, z, p2, k, p, u, v, k2, pt2, pos, rfl, hq⟩ : ∃ y p1 z p2 k p u v k2 pt2 pos, x = .Assign [.Tuple [.Name y p1, .Name z p2] k p] (.Tuple [u, v] k2 pt2) pos ∧ (decide (i ≠ j) && decide (N[i]? = some y) && decide (N[j]? = some z) && okNm y && okNm z && parOk sc y z p1 p2 u v && mEs ⟨N, nm⟩ sc es [u, v]) = true := by
      unfold mS at h
      split at h
      all_goals first
        | (rename_i hh; cases hh; exact ⟨_, _, _, _, _, _, _, _, _, _, _, rfl, h⟩)
        | (rename_i hh; cases hh; done)
        | cases h
    simp only [Bool.and_eq_true, decide_eq_true_eq] at hq
    obtain ⟨⟨⟨⟨⟨⟨h1, h2⟩, h3⟩, h4⟩, h5⟩, h6⟩, h7⟩ := hq
    have pa := soundEs es c.toCOk tk h7
    have hu : (∀ a b, u ≠ .Starred a b) ∧ ∀ a b, v ≠ .Starred a b := by
      match es, h7 with
      | .cons e1 (.cons e2 .nil), h7 =>
        simp only [mEs, Bool.and_eq_true] at h7
        exact ⟨(mE_plain h7.1).1, (mE_plain h7.2.1).1⟩
      | .cons e1 .nil, h7 => simp [mEs] at h7
      | .nil, h7 => simp [mEs] at h7
      | .cons e1 (.cons e2 (.cons e3 e4)), h7 => simp [mEs] at h7
    have hp := id h6
    simp only [parOk, Bool.and_eq_true, decide_eq_true_eq] at hp
    refine PSm (ps_par c.calm c.nd (by rw [c.N]; exact h2) (by rw [c.N]; exact h3) h1 (by rw [c.sc]; exact hp.1.1.1.1.1.2) (by rw [c.sc]; exact hp.1.1.1.1.2) pa (parOk_of c.sc h6 hu.1 hu.2) (swaps_sole rfl)) fun D σ H ⟨L, f, r, hh, S, sl, p⟩ => ?_
    unfold evS at p
    refine ⟨L, f, r, hh, S, sl, (p.bs S sl).mono fun ds f1 h1 H1 l1 S1 p1 vs rv => ?_⟩
    match ds, vs, rv, p1 with
    | [d1, d2], [w1, w2], .cons r1 (.cons r2 .nil), p1 =>
      refine ⟨w1, w2, rfl, ?_⟩
      exact PostS.here S1 (((sl.mono S l1).set r1).set r2) p1
    | [], _, _, p1 => exact p1.elim
    | [_], _, _, p1 => exact p1.elim
    | _ :: _ :: _ :: _, _, _, p1 => exact p1.elim
  | .seti o i e, x, sc, X, W, c, tk, h => by
    obtain ⟨a, b, p, v, pos, rfl, hq⟩ : ∃ a b p v pos, x = .Assign [.Subscript a b p] v pos ∧ (noSlice b && !isComp v && mE ⟨N, nm⟩ sc o a && mE ⟨N, nm⟩ sc i b && mE ⟨N, nm⟩ sc e v) = true := by
      unfold mS at h
      split at h
      all_goals first
        | (rename_i hh; cases hh; exact ⟨_, _, _, _, _, rfl, h⟩)
        | (rename_i hh; cases hh; done)
        | cases h
    simp only [Bool.and_eq_true, Bool.not_eq_true'] at hq
    obtain ⟨⟨⟨⟨h1, h2⟩, h3⟩, h4⟩, h5⟩ := hq
    have pe := (soundE e c.toCOk tk h5).1
    have po := (soundE o c.toCOk tk h3).1
    have pi := (soundE i c.toCOk tk h4).1
    have ha : ∀ v, assign (.Subscript a b p) X.env v = (do
      let ov ← holding [v] (eval a X.env)
      let iv ← holding [v, ov] (eval b X.env)
      standAt p
      holding [v, ov, iv] (setItem ov iv v)
      release [v, ov, iv] []) := by
      intro v
      cases b <;> first
        | rfl
        | (simp [noSlice] at h1)
    refine PSm (ps_asg pe (pg_sub po pi set_D ha) (swaps_sole h2) rfl rfl) fun D σ H ⟨L, f, r, hh, S, sl, p⟩ => ?_
    unfold evS at p
    refine tE_of S sl ((p.bs S sl).mono fun d f1 h1 H1 l1 S1 p1 w rw' => ?_)
    refine tE_of S1 (sl.mono S l1) ((p1.bs S1 (sl.mono S l1)).mono fun d2 f2 h2 H2 l2 S2 p2 w2 rw2 => ?_)
    refine tE_of S2 ((sl.mono S l1).mono S1 l2) ((p2.bs S2 ((sl.mono S l1).mono S1 l2)).mono fun d3 f3 h3 H3 l3 S3 p3 w3 rw3 => ?_)
    obtain ⟨h4, e4, p4⟩ := p3.pureBs (setiD_exc _ _ _ _)
    refine ⟨L, f3, h3, d2, d3, d, S3, rw2.mono S2 l3, rw3, (rw'.mono S1 l2).mono S2 l3, ?_⟩
    have e4 : setiD d2 d3 d h3 = .ok h4 := e4
    simp only [e4]
    exact fun f' H' l S' => p4 f' H' σ l S' ((((sl.mono S l1).mono S1 l2).mono S2 l3).mono S3 l)
  | .setf o n e, x, sc, X, W, c, tk, h => by
    obtain ⟨a, m, p, v, pos, rfl, hq⟩ : ∃ a m p v pos, x = .Assign [.Attribute a m p] v pos ∧ (decide (n = m) && !isComp v && mE ⟨N, nm⟩ sc o a && mE ⟨N, nm⟩ sc e v) = true := by
      unfold mS at h
      split at h
      all_goals first
        | (rename_i hh; cases hh; exact ⟨_, _, _, _, _, rfl, h⟩)
        | (rename_i hh; cases hh; done)
        | cases h
    simp only [Bool.and_eq_true, Bool.not_eq_true', decide_eq_true_eq] at hq
    obtain ⟨⟨⟨rfl, h2⟩, h3⟩, h4⟩ := hq
    have pe := (soundE e c.toCOk tk h4).1
    have po := (soundE o c.toCOk tk h3).1
    refine PSm (ps_fld po pe (swaps_plain h2)) fun D σ H ⟨L, f, r, hh, S, sl, p⟩ => ?_
    unfold evS at p
    refine tE_of S sl ((p.bs S sl).mono fun d f1 h1 H1 l1 S1 p1 w rw' => ?_)
    refine tE_of S1 (sl.mono S l1) ((p1.bs S1 (sl.mono S l1)).mono fun d2 f2 h2 H2 l2 S2 p2 w2 rw2 => ?_)
    obtain ⟨h4, e4, p4⟩ := p2.pureBs (setfD_exc _ _ _ _ _)
    replace e4 : setfD G h2 d2 n d = .ok h4 := e4
    unfold setfD at e4
    split at e4
    · rename_i i
      split at e4
      · rename_i cn ns ds eh
        split at e4
        · rename_i hc
          simp only [Bool.and_eq_true, decide_eq_true_eq] at hc
          obtain ⟨a', C, dx, vs, e1, e2, e3, e5, rr⟩ := S2.objI eh
          cases rw2 with
          | ref e6 =>
            rw [e1] at e6
            cases e6
            obtain ⟨cl, na⟩ := c.gam.ifl _ _ _ hc.1 e5
            obtain ⟨ws, q1, q2, q3⟩ := putN_rep (rw'.mono S1 l2) (n := n) e3 rr
            refine ⟨_, C, dx, _, rfl, e2, cl, na, ?_, ?_⟩
            · rw [List.length_zip]
              omega
            · rw [q1]
              cases e4
              obtain ⟨l5, S5⟩ := S2.changeG (o := .ins C dx ((putN n d ns ds).1.zip ws)) (d0 := .ins cn (putN n d ns ds).1 (putN n d ns ds).2) (.inr ⟨C, dx, cn, _, rfl, q2, e5, rfl⟩) (List.getElem?_eq_some_iff.mp eh).1 e1 q3
              exact p4 f2 _ σ l5 S5 (((sl.mono S l1).mono S1 l2).mono S2 l5)
        · cases e4
      · cases e4
    · cases e4
  | .aug i o e, x, sc, X, W, c, tk, h => by
    obtain ⟨y, py, o', v, pos, rfl, hq⟩ : ∃ y py o' v pos, x = .AugAssign (.Name y py) o' v pos ∧ (decide (o = o') && decide (o = .Add) && decide (N[i]? = some y) && okNm y && isSt true sc y && mE ⟨N, nm⟩ sc e v) = true := by
      unfold mS at h
      split at h
      all_goals first
        | (rename_i hh; cases hh; exact ⟨_, _, _, _, _, rfl, h⟩)
        | (rename_i hh; cases hh; done)
        | cases h
    simp only [Bool.and_eq_true, decide_eq_true_eq] at hq
    obtain ⟨⟨⟨⟨⟨rfl, rfl⟩, h1⟩, h2⟩, h3⟩, h4⟩ := hq
    obtain ⟨hl, hf⟩ := isSt_of (X := X) c.sc (fun _ => c.fnn) h3
    have hN : X.N[i]? = some y := by rw [c.N]; exact h1
    have pe := (soundE e c.toCOk tk h4).1
    refine PSm (ps_aug c.nd hN hl pe ip_D hf) fun D σ H ⟨L, f, r, hh, S, sl, p⟩ => ?_
    unfold evS at p
    obtain ⟨d0, e0, p0⟩ := p.pureBs getV_exc
    obtain ⟨v0, e1, r0⟩ := sl.at_ i d0 (getV_ok e0)
    refine ⟨v0, e1, tE_of S sl ((p0.bs S sl).mono fun d f1 h1 H1 l1 S1 p1 w rw' => ?_)⟩
    obtain ⟨z, ez, p2⟩ := p1.pureBs (augD_exc _ _)
    refine ⟨L, f1, h1, d0, d, S1, r0.mono S l1, rw', ?_⟩
    have ez : augD d0 d = .ok z := ez
    simp only [ez]
    exact fun H' v l S' rv => p2 f1 H' _ l S' (((sl.mono S l1).mono S1 l).set rv)
  | .expr e, x, sc, X, W, c, tk, h => by
    obtain ⟨v, pos, rfl, hq⟩ : ∃ v pos, x = .Expr v pos ∧ (!isComp v && mE ⟨N, nm⟩ sc e v) = true := by
      unfold mS at h
      split at h
      all_goals first
        | (rename_i hh; cases hh; exact ⟨_, _, rfl, h⟩)
        | (rename_i hh; cases hh; done)
        | cases h
    simp only [Bool.and_eq_true, Bool.not_eq_true'] at hq
    refine PSm (ps_expr (soundE e c.toCOk tk hq.2).1 (swaps_plain hq.1)) fun D σ H ⟨L, f, r, hh, S, sl, p⟩ => ?_
    unfold evS at p
    refine tE_of S sl ((p.bs S sl).mono fun d f1 h1 H1 l1 S1 p1 w rw' => ?_)
    exact p1.here S1 (sl.mono S l1)
  | .ret e, x, sc, X, W, c, tk, h => by
    obtain ⟨v, pos, rfl, hq⟩ : ∃ v pos, x = .Return (some v) pos ∧ (mE ⟨N, nm⟩ sc e v) = true := by
      unfold mS at h
      split at h
      all_goals first
        | (rename_i hh; cases hh; exact ⟨_, _, rfl, h⟩)
        | (rename_i hh; cases hh; done)
        | cases h
    refine PSm (ps_ret (soundE e c.toCOk tk hq).1) fun D σ H ⟨L, f, r, hh, S, sl, p⟩ => ?_
    unfold evS at p
    refine tE_of S sl ((p.bs S sl).mono fun d f1 h1 H1 l1 S1 p1 w rw' => ?_)
    exact p1 f1 H1 w .refl S1 rw'
  | .retn, x, sc, X, W, c, tk, h => by
    obtain ⟨pos, rfl⟩ : ∃ pos, x = .Return none pos := by
      unfold mS at h
      split at h
      all_goals first
        | (rename_i hh; cases hh; done)
        | exact ⟨_, rfl⟩
        | cases h
    exact PSm ps_retN fun D σ H ⟨L, f, r, hh, S, sl, p⟩ => p f H .non .refl S .non
  | .iff t a b, x, sc, X, W, c, tk, h => by
    obtain ⟨v, y, z, pos, rfl, hq⟩ : ∃ v y z pos, x = .If v y z pos ∧ (mE ⟨N, nm⟩ sc t v && mSs ⟨N, nm⟩ sc a y && mSs ⟨N, nm⟩ sc b z) = true := by
      unfold mS at h
      split at h
      all_goals first
        | (rename_i hh; cases hh; exact ⟨_, _, _, _, rfl, h⟩)
        | (rename_i hh; cases hh; done)
        | cases h
    simp only [Bool.and_eq_true] at hq
    obtain ⟨⟨h1, h2⟩, h3⟩ := hq
    refine PSm (ps_if (soundE t c.toCOk tk h1).2 (soundSs a c tk h2) (soundSs b c tk h3)) fun D σ H ⟨L, f, r, hh, S, sl, p⟩ => ?_
    unfold evS at p
    refine ⟨L, f, r, hh, S, sl, ?_⟩
    cases e : evE G t r hh with
    | ok q =>
      rw [e] at p
      simp only [Res.bs_ok] at p
      simp only [Res.bind_ok]
      cases e2 : boolD q.1 with
      | ok k =>
        rw [e2] at p
        intro f1 H1 l1 S1
        cases k with
        | true => exact iteT ⟨L, f1, r, q.2, S1, sl.mono S l1, PostS.later S S1 l1 p⟩
        | false => exact iteF ⟨L, f1, r, q.2, S1, sl.mono S l1, PostS.later S S1 l1 p⟩
      | exc c xs h' => exact absurd e2 (boolD_exc _ _ _)
      | no =>
        rw [e2] at p
        exact p.elim
    | exc c xs h' =>
      rw [e] at p
      exact fun f1 H1 dd l1 S1 x1 => p f1 H1 σ dd l1 S1 (sl.mono S l1) x1
    | no =>
      rw [e] at p
      exact p.elim
  | .forr t it b, x, sc, X, W, c, tk, h => by
    obtain ⟨tg, iter, body, pos, rfl, hq⟩ : ∃ tg iter body pos, x = .For tg iter body [] pos ∧ (mT ⟨N, nm⟩ true sc t tg && mI ⟨N, nm⟩ sc it iter && mSs ⟨N, nm⟩ sc b body) = true := by
      unfold mS at h
      split at h
      all_goals first
        | (rename_i hh; cases hh; exact ⟨_, _, _, _, rfl, h⟩)
        | (rename_i hh; cases hh; done)
        | cases h
    simp only [Bool.and_eq_true] at hq
    obtain ⟨⟨h1, h2⟩, h3⟩ := hq
    have pg := soundTg (C := ⟨N, nm⟩) (k := true) c.N c.nd c.sc c.calm (fun _ => c.fnn) t _ h1
    refine PSm (ps_for c.own c.calm (soundI it c.toCOk tk h2 tg) pg (soundSs b c tk h3) (mI_set h2)) fun D σ H ⟨L, f, r, hh, S, sl, p⟩ => ?_
    unfold evS at p
    refine ⟨L, f, r, hh, S, sl, (p.bs S sl).mono fun xs f1 h1 H1 l1 S1 p1 J wd => ?_⟩
    obtain ⟨Gd, Y, wk, hG, hY⟩ := wd
    generalize hF : (fun (x : Z9.D) (r1 : Z9.Env) (h1 : Hh) => (setT t x r1).bs r1 fun r2 => evSs G b r2 h1) = F at p1
    refine for_it (G := Gd) (Y := Y) wk (fun i τ H2 => ∃ (f2 : List Addr) (r2 : Z9.Env) (h2 : Hh), Le f1 H1 f2 H2 ∧ SRel X.K L f2 h2 H2 ∧ SlR X.K L f2 H2 r2 τ ∧ PostS X.K L f2 H2 ca W D (forD F (xs.drop i) r2 h2))
      ⟨f1, r, h1, .refl, S1, sl.mono S l1, by simpa using p1⟩ (fun i τ H2 _ ⟨f2, r2, h2, l2, S2, _, _⟩ => hG _ f2 h2 H2 .refl l2 S2) ?_ ?_
    · rintro i x τ H2 H3 hi ⟨f2, r2, h2, l2, S2, sl2, p2⟩ hy
      obtain ⟨d, ed, l3, S3, rd⟩ := hY _ i f2 h2 H2 x H3 hi .refl l2 S2 hy
      have l13 := Le.trans S1 S2 l2 l3
      have ed' : xs[i] = d := by
        rw [List.getElem?_eq_getElem hi] at ed
        exact Option.some.inj ed
      rw [List.drop_eq_getElem_cons hi, ed'] at p2
      unfold forD at p2
      have eF : F d r2 h2 = (setT t d r2).bs r2 fun r2 => evSs G b r2 h2 := by rw [← hF]
      cases k1 : setT t d r2 with
      | no =>
        rw [eF, k1] at p2
        exact p2.elim
      | exc c ys h' => exact absurd k1 (setT_exc _ _ _ _ _ _)
      | ok r3 =>
        rw [k1] at eF
        simp only [Res.bs_ok] at eF
        refine ⟨L, f2, h2, r2, r3, d, S3, sl2.mono S2 l3, rd, k1, fun τ2 sl3 _ => ⟨L, f2, r3, h2, S3, sl3, ?_⟩⟩
        rw [eF] at p2
        have p3 := PostS.later S2 S3 l3 p2
        cases k2 : evSs G b r3 h2 with
        | no =>
          rw [k2] at p3
          exact p3.elim
        | exc c ys h' =>
          rw [k2] at p3
          exact p3.elim
        | ok o =>
          rw [k2] at p3
          cases o with
          | nx r4 h4 => exact fun f4 H4 τ4 l4 S4 sl4 => ⟨f4, r4, h4, Le.trans S1 S3 l13 l4, S4, sl4, PostS.later S3 S4 l4 p3⟩
          | ct r4 h4 => exact fun f4 H4 τ4 l4 S4 sl4 => ⟨f4, r4, h4, Le.trans S1 S3 l13 l4, S4, sl4, PostS.later S3 S4 l4 p3⟩
          | bk r4 h4 => exact p3
          | rt d4 h4 => exact p3
          | ex => exact p3
    · rintro τ H2 ⟨f2, r2, h2, l2, S2, sl2, p2⟩
      rw [List.drop_length] at p2
      exact p2.here S2 sl2
  | .whil t b, x, sc, X, W, c, tk, h => by
    obtain ⟨v, body, pos, rfl, hq⟩ : ∃ v body pos, x = .While v body [] pos ∧ (mE ⟨N, nm⟩ sc t v && mSs ⟨N, nm⟩ sc b body) = true := by
      unfold mS at h
      split at h
      all_goals first
        | (rename_i hh; cases hh; exact ⟨_, _, _, rfl, h⟩)
        | (rename_i hh; cases hh; done)
        | cases h
    simp only [Bool.and_eq_true] at hq
    refine PSm (ps_while c.own (soundE t c.toCOk tk hq.1).2 (soundSs b c tk hq.2)) fun D σ H ⟨L, f, r, hh, S, sl, p⟩ => ?_
    unfold evS at p
    generalize hC : (fun (r1 : Z9.Env) (h1 : Hh) => (evE G t r1 h1).bind fun p => (boolD p.1).bind fun k => Res.ok (k, p.2)) = cF at p
    generalize hB : (fun (r1 : Z9.Env) (h1 : Hh) => evSs G b r1 h1) = bF at p
    unfold whileD at p
    split at p
    · rename_i hex
      refine ⟨fun m τ H2 => ∃ (L : Addr → Prop) (f2 : List Addr) (r2 : Z9.Env) (h2 : Hh), SRel X.K L f2 h2 H2 ∧ SlR X.K L f2 H2 r2 τ ∧ PostS X.K L f2 H2 ca W D (whileN cF bF m r2 h2), ⟨_, L, f, r, hh, S, sl, p⟩, ?_⟩
      rintro m τ H2 ⟨L, f2, r2, h2, S2, sl2, p2⟩
      cases m with
      | zero => exact p2.elim
      | succ m =>
        rw [whileN] at p2
        refine ⟨L, f2, r2, h2, S2, sl2, ?_⟩
        have eC : cF r2 h2 = (evE G t r2 h2).bind fun p => (boolD p.1).bind fun k => Res.ok (k, p.2) := by rw [← hC]
        rw [← eC]
        refine (p2.bs S2 sl2).mono fun k f3 h3 H3 l3 S3 p3 => ?_
        cases k with
        | false => exact iteF (p3.here S3 (sl2.mono S2 l3))
        | true =>
          refine iteT ⟨fun τ' H' => ∃ (L : Addr → Prop) (f2 : List Addr) (r2 : Z9.Env) (h2 : Hh), SRel X.K L f2 h2 H' ∧ SlR X.K L f2 H' r2 τ' ∧ PostS X.K L f2 H' ca W D (whileN cF bF m r2 h2), fun τ' H' q => ⟨m, Nat.lt_succ_self m, q⟩, L, f3, r2, h3, S3, sl2.mono S2 l3, ?_⟩
          simp only [if_true] at p3
          have eB : bF r2 h3 = evSs G b r2 h3 := by rw [← hB]
          rw [eB] at p3
          cases k2 : evSs G b r2 h3 with
          | no =>
            rw [k2] at p3
            exact p3.elim
          | exc c ys h' =>
            rw [k2] at p3
            exact p3.elim
          | ok o =>
            rw [k2] at p3
            cases o with
            | nx r4 h4 => exact fun f4 H4 τ4 l4 S4 sl4 => ⟨L, f4, r4, h4, S4, sl4, PostS.later S3 S4 l4 p3⟩
            | ct r4 h4 => exact fun f4 H4 τ4 l4 S4 sl4 => ⟨L, f4, r4, h4, S4, sl4, PostS.later S3 S4 l4 p3⟩
            | bk r4 h4 => exact p3
            | rt d4 h4 => exact p3
            | ex => exact p3
    · exact p.elim
  | .brk, x, sc, X, W, c, tk, h => by
    obtain ⟨pos, rfl⟩ : ∃ pos, x = .Break pos := by
      unfold mS at h
      split at h
      all_goals first
        | (rename_i hh; cases hh; done)
        | exact ⟨_, rfl⟩
        | cases h
    exact PSm ps_break fun D σ H ⟨L, f, r, hh, S, sl, p⟩ => p f H σ .refl S sl
  | .cont, x, sc, X, W, c, tk, h => by
    obtain ⟨pos, rfl⟩ : ∃ pos, x = .Continue pos := by
      unfold mS at h
      split at h
      all_goals first
        | (rename_i hh; cases hh; done)
        | exact ⟨_, rfl⟩
        | cases h
    exact PSm ps_continue fun D σ H ⟨L, f, r, hh, S, sl, p⟩ => p f H σ .refl S sl
  | .pass, x, sc, X, W, c, tk, h => by
    obtain ⟨pos, rfl⟩ : ∃ pos, x = .Pass pos := by
      unfold mS at h
      split at h
      all_goals first
        | (rename_i hh; cases hh; done)
        | exact ⟨_, rfl⟩
        | cases h
    exact PSm ps_pass fun D σ H ⟨L, f, r, hh, S, sl, p⟩ => p f H σ .refl S sl
  | .rais k es, x, sc, X, W, c, tk, h => by
    obtain ⟨y, p1, xs, p2, pos, rfl, hq⟩ : ∃ y p1 xs p2 pos, x = .Raise (some (.Call (.Name y p1) xs [] p2)) none pos ∧ (decide (nm[k]? = some y) && isGl sc y && okNm y && nilBoth es xs) = true := by
      unfold mS at h
      split at h
      all_goals first
        | (rename_i hh; cases hh; exact ⟨_, _, _, _, _, rfl, h⟩)
        | (rename_i hh; cases hh; done)
        | cases h
    simp only [Bool.and_eq_true, decide_eq_true_eq] at hq
    obtain ⟨⟨⟨h1, h2⟩, h3⟩, h4⟩ := hq
    obtain ⟨a1, _, _⟩ := okNm_of h3
    unfold nilBoth at h4
    split at h4
    · cases ek : G.exk k with
      | false =>
        exact ⟨fun pins s σ H D I ⟨L, f, r, hh, S, sl, p⟩ => by
          unfold evS at p
          rw [ek] at p
          exact p.elim⟩
      | true =>
        obtain ⟨C, bmB, B, nw, ii, F, q, gC, kC, rs, ec⟩ := c.exs k y ek h1
        refine PSm (ps_raise c.calm tk (pmk_own0 F q gC kC rs (isGl_gl c.toCOk h2) a1)) fun D σ H ⟨L, f, r, hh, S, sl, p⟩ => ?_
        unfold evS at p
        rw [ek] at p
        simp only [if_true, evEs, Res.bs_ok] at p
        have := p f H σ none .refl S sl trivial
        rw [ec] at this
        exact this
    · cases h4
  | .rai1 k e, x, sc, X, W, c, tk, h => by
    obtain ⟨y, p1, y1, p2, pos, rfl, hq⟩ : ∃ y p1 y1 p2 pos, x = .Raise (some (.Call (.Name y p1) [y1] [] p2)) none pos ∧ (decide (nm[k]? = some y) && isGl sc y && okNm y && mE ⟨N, nm⟩ sc e y1) = true := by
      unfold mS at h
      split at h
      all_goals first
        | (rename_i hh; cases hh; exact ⟨_, _, _, _, _, rfl, h⟩)
        | (rename_i hh; cases hh; done)
        | cases h
    simp only [Bool.and_eq_true, decide_eq_true_eq] at hq
    obtain ⟨⟨⟨h1, h2⟩, h3⟩, h4⟩ := hq
    obtain ⟨a1, _, _⟩ := okNm_of h3
    have no : (∀ cn fl, G.mkc k ≠ some (cn, some fl)) → PS X (.Raise (some (.Call (.Name y p1) [y1] [] p2)) none pos) (tS X.K ca W G (.rai1 k e)) := fun hn => ⟨fun pins s σ H D I ⟨L, f, r, hh, S, sl, p⟩ => by
      unfold evS at p
      split at p
      · rename_i cn fl eg
        exact absurd eg (hn _ _)
      · exact p.elim⟩
    cases eg : G.mkc k with
    | none => exact no fun _ _ z => by rw [eg] at z; cases z
    | some m =>
      obtain ⟨cn, o⟩ := m
      cases o with
      | none => exact no fun _ _ z => by rw [eg] at z; cases z
      | some fl =>
        obtain ⟨hlv, C, fI, fd, ps, oex, fi, ti, Fi, bi, gC, nmc, ec⟩ := c.gam.mkc k y cn _ eg h1
        have hr : Room 2 X.A := c.room.mono hlv
        have pa := pa_cons (soundE e c.toCOk tk h4).1 pa_nil (star_cons (mE_plain h4).1)
        refine PSm (ps_raise c.calm tk (pmk_oex (CX := L2.CX X.prog X.w) oex fi ti Fi hr bi .nil (fun _ _ _ _ _ _ _ z => by
          obtain ⟨_, _, _, _, _, _, _, _, _, _, _, _, z⟩ := z
          exact z.elim) (isGl_gl c.toCOk h2) gC pa a1 (star_cons (mE_plain h4).1) rfl)) fun D σ H ⟨L, f, r, hh, S, sl, p⟩ => ?_
        unfold evS at p
        rw [eg] at p
        refine tE_of S sl ((p.bs S sl).mono fun d0 f1 h1 H1 l1 S1 p1 v rv => ?_)
        refine ⟨by simp, fun a ha => ⟨a, v, rfl, upd_same, fun d hd hne => ⟨rfl, d, [(fl, v)], upd_same, (upd_ne hne).trans upd_same, ?_, ?_⟩⟩⟩
        · rw [upd_ne hne] at hd
          exact hd
        · have hd' : H1 d = none := by
            rw [upd_ne hne] at hd
            exact hd
          have heq : upd (del (upd (upd (upd H1 a (exo a C none)) d (exd d [(fl, v)])) a (exo a C (some d))) a) d (.xd [(fl, v)]) = upd H1 d (.xd [(fl, v)]) := by
            funext b
            by_cases z1 : b = d
            · rw [z1, upd_same, upd_same]
            · rw [upd_ne z1, upd_ne z1]
              by_cases z2 : b = a
              · rw [z2, del_same, ha]
              · rw [del_ne z2, upd_ne z2, upd_ne z1, upd_ne z2]
          rw [heq]
          obtain ⟨l2, S2, m1, m2⟩ := S1.alloc (o := .xd [(fl, v)]) hd'
          have := p1 f1 _ σ (some d) l2 S2 ((sl.mono S l1).mono S1 l2) ⟨C, [v], ec, nmc, .inr ⟨d, rfl, upd_same, m1, m2⟩, rfl, .cons (rv.mono S1 l2) .nil⟩
          rw [ec] at this
          exact this
  | .tryy b hs, x, sc, X, W, c, tk, h => by
    obtain ⟨body, hds, pos, rfl, hq⟩ : ∃ body hds pos, x = .Try body hds [] [] pos ∧ (notNil hds && mSs ⟨N, nm⟩ sc b body && mH ⟨N, nm⟩ sc hs hds) = true := by
      unfold mS at h
      split at h
      all_goals first
        | (rename_i hh; cases hh; exact ⟨_, _, _, rfl, h⟩)
        | (rename_i hh; cases hh; done)
        | cases h
    simp only [Bool.and_eq_true] at hq
    obtain ⟨⟨h1, h2⟩, h3⟩ := hq
    cases hds with
    | nil => cases h1
    | cons h0 hds =>
      cases hk : hsOk G hs with
      | false =>
        exact ⟨fun pins s σ H D I ⟨L, f, r, hh, S, sl, p⟩ => by
          unfold evS at p
          rw [hk] at p
          exact p.elim⟩
      | true =>
      refine PSm (ps_try_many (tb := fun W' => tSs X.K ca W' G b) c.stk c.frm tk (fun W' pn xe tk' po => soundSs b (X := X.tr pn xe) ⟨⟨c.N, c.nd, c.sc, c.calm, c.room, c.gam⟩, c.fnn, c.stk, c.frm, po, c.exs, c.hnd, c.hcl⟩ tk' h2) (hds_ok c hs hk h3)) fun D σ H ⟨L, f, r, hh, S, sl, p⟩ => ?_
      unfold evS at p
      rw [hk] at p
      simp only [if_true] at p
      refine ⟨L, f, r, hh, S, sl, ?_⟩
      cases e : evSs G b r hh with
      | no =>
        rw [e] at p
        exact p.elim
      | exc cc ys h' =>
        rw [e] at p
        exact p.elim
      | ok o =>
        rw [e] at p
        cases o with
        | nx => exact p
        | rt => exact p
        | bk => exact p
        | ct => exact p
        | ex cc ys r' h' => exact fun f' H' σ' dd l' S' sl' x' => handle_go c hs h3 S' sl' x' (PostS.later S S' l' p)
  | .tryx b k v ss, x, sc, X, W, c, tk, h => by
    obtain ⟨body, y, py, n, suite, p2, pos, rfl, hq⟩ : ∃ body y py n suite p2 pos, x = .Try body [.ExceptHandler (some (.Name y py)) (some n) suite p2] [] [] pos ∧ (decide (nm[k]? = some y) && isGl sc y && okNm y && decide (N[v]? = some n) && decide (sc.names.lookup n = some .local) && okNm n && notNil suite && mSs ⟨N, nm⟩ sc b body && mXl ⟨N, nm⟩ sc n ss suite) = true := by
      unfold mS at h
      split at h
      all_goals first
        | (rename_i hh; cases hh; exact ⟨_, _, _, _, _, _, _, rfl, h⟩)
        | (rename_i hh; cases hh; done)
        | cases h
    simp only [Bool.and_eq_true, decide_eq_true_eq] at hq
    obtain ⟨⟨⟨⟨⟨⟨⟨⟨h1, h2⟩, h3⟩, h4⟩, h5⟩, h6⟩, h7⟩, h8⟩, h9⟩ := hq
    obtain ⟨a1, _, _⟩ := okNm_of h3
    have hv : X.N[v]? = some n := by rw [c.N]; exact h4
    have hl : X.env.scope.names.lookup n = some .local := by rw [c.sc]; exact h5
    cases suite with
    | nil => cases h7
    | cons b0 suite =>
      cases hk : G.cls k with
      | false =>
        exact ⟨fun pins s σ H D I ⟨L, f, r, hh, S, sl, p⟩ => by
          unfold evS at p
          rw [hk] at p
          exact p.elim⟩
      | true =>
      refine PSm (L2.ps_try_as (tb := fun W' => tSs X.K ca W' G b) (ts := fun a cls d => tXl X.K G cls d v a ss) (c := ca k) c.stk c.frm c.nd hv hl ⟨isGl_gl c.toCOk h2, a1, c.hcl k y h1 hk⟩ tk (fun W' pn xe tk' po => soundSs b (X := X.tr pn xe) ⟨⟨c.N, c.nd, c.sc, c.calm, c.room, c.gam⟩, c.fnn, c.stk, c.frm, po, c.exs, c.hnd, c.hcl⟩ tk' h8)
        (fun a oe cls d pn hz hf => soundXl (pn := pn) c.toCOk c.fnn hv hl h6 hz hf ss h9)) fun D σ H ⟨L, f, r, hh, S, sl, p⟩ => ?_
      unfold evS at p
      rw [hk] at p
      simp only [if_true] at p
      refine ⟨L, f, r, hh, S, sl, ?_⟩
      cases e : evSs G b r hh with
      | no =>
        rw [e] at p
        exact p.elim
      | exc cc ys h' =>
        rw [e] at p
        exact p.elim
      | ok o =>
        rw [e] at p
        cases o with
        | nx => exact p
        | rt => exact p
        | bk => exact p
        | ct => exact p
        | ex cc ys r' h' =>
          intro f' H' σ' dd l' S' sl' x'
          simp only at p
          cases es : G.sub cc k with
          | none =>
            rw [es] at p
            exact p.elim
          | some bb =>
            rw [es] at p
            refine ⟨bb, c.hnd cc k y bb es h1, fun hb => ?_, fun hb => ?_⟩
            · subst hb
              intro a _
              simp only at p
              split at p
              · rename_i cn ns ds
                split at p
                · rename_i hlt
                  obtain ⟨C, vs, q1, q2, q3, q4, q5⟩ := x'
                  refine ⟨L, f', r'.set v none, h', .exc cn ns ds, S', ?_, ⟨cn, ns, ds, C, vs, rfl, q1, q2, q3, q4, q5⟩, ?_, ?_⟩
                  · refine ⟨by simp [sl'.len], fun j e hj => ?_⟩
                    by_cases hji : j = v
                    · subst hji
                      rw [List.getElem?_set_self hlt] at hj
                      cases hj
                    · rw [List.getElem?_set_ne (Ne.symm hji)] at hj
                      obtain ⟨w, z1, z2⟩ := sl'.at_ j e hj
                      exact ⟨w, by rw [List.getElem?_set_ne (Ne.symm hji)]; exact z1, z2⟩
                  · rw [List.getElem?_set_self (by rw [← sl'.len]; exact hlt)]
                  · cases k2 : evXl G (.exc cn ns ds) ss (r'.set v none) h' with
                    | exc => rw [k2] at p; exact p.elim
                    | no => rw [k2] at p; exact p.elim
                    | ok o =>
                      rw [k2] at p
                      have ho := evXl_st k2
                      cases o with
                      | nx r2 h2 =>
                        refine ⟨ho.1 _ _ rfl, fun H2 σ2 l2 S2 sl2 sv2 => ?_⟩
                        have := ho.1 _ _ rfl
                        subst this
                        exact p f' H2 (σ2.set v none) (Le.trans S S' l' l2) S2 sl2.setN
                      | rt d2 h2 =>
                        have := ho.2 _ _ rfl
                        subst this
                        exact ⟨rfl, fun H2 w l2 S2 rw2 => p f' H2 w (Le.trans S S' l' l2) S2 rw2⟩
                      | bk => exact (evXl_no k2).elim
                      | ct => exact (evXl_no k2).elim
                      | ex => exact (evXl_no k2).elim
                · exact p.elim
              · exact p.elim
            · subst hb
              exact p f' H' σ' dd l' S' sl' x'
theorem soundSs : ∀ (s : Sms) {x : List Stmt} {sc : Scope} {X : Cx} {W : WX}, SOk nm ca G lv N sc X → Takes X W → mSs ⟨N, nm⟩ sc s x = true → PSs X x (tSs X.K ca W G s)
  | .nil, [], sc, X, W, c, tk, h => PSsm pss_nil fun D σ H ⟨L, f, r, hh, S, sl, p⟩ => p.here S sl
  | .nil, _ :: _, sc, X, W, c, tk, h => by simp [mSs] at h
  | .cons s ss, [], sc, X, W, c, tk, h => by simp [mSs] at h
  | .cons s ss, x :: xs, sc, X, W, c, tk, h => by
    simp only [mSs, Bool.and_eq_true] at h
    refine PSsm (pss_cons (soundS s c tk h.1) (soundSs ss c tk h.2)) fun D σ H ⟨L, f, r, hh, S, sl, p⟩ => ?_
    unfold evSs at p
    refine ⟨L, f, r, hh, S, sl, ?_⟩
    cases e : evS G s r hh with
    | exc c xs h' =>
      rw [e] at p
      exact p.elim
    | no =>
      rw [e] at p
      exact p.elim
    | ok o =>
      rw [e] at p
      simp only [Res.bind_ok] at p
      cases o with
      | nx r' h' => exact fun f' H' σ' l S' sl' => ⟨L, f', r', h', S', sl', PostS.later S S' l p⟩
      | rt => exact p
      | bk => exact p
      | ct => exact p
      | ex => exact p
end
end
end Z9

set_option Elab.async false
set_option linter.all false
set_option maxRecDepth 100000
set_option maxHeartbeats 4000000
/-! E13: defs and the law's end. -/
namespace Z9
open PySem PySem.Spec PyProof.Rows L2

mutual
/-- no changing place within -/
def pureD : D → Bool
  | .ref _ => false
  | .tup xs => pureDs xs
  | .lst xs => pureDs xs
  | .dic _ xs => pureDs xs
  | .exc _ _ xs => pureDs xs
  | .ins _ _ xs => pureDs xs
  | _ => true
def pureDs : List D → Bool
  | [] => true
  | x :: xs => pureD x && pureDs xs
end
/-- data that stays: a changing list of such is read off -/
def frzD (h : Hh) (d : D) : Option D := if pureD d then some d else match d with
  | .ref i => match h[i]? with
    | some (.lst xs) => if pureDs xs then some (.lst xs) else none
    | some (.ins c ns xs) => if pureDs xs then some (.ins c ns xs) else none
    | _ => none
  | _ => none
/-- a def that is called with what stays, and gives what stays: the state is not asked -/
def pureF (g : List D → Hh → Res (D × Hh)) (ds : List D) (h : Hh) : Res (D × Hh) :=
  if pureDs ds then match g ds [] with
    | .ok (d, h') => match frzD h' d with
      | some d' => .ok (d', h)
      | none => .no
    | .exc c xs _ => if pureDs xs then .exc c xs h else .no
    | .no => .no
  else .no
/-- g' says what g says, where it says something -/
def LeF (g' g : List D → Hh → Res (D × Hh)) : Prop := ∀ ds h, g' ds h ≠ .no → g ds h = g' ds h

section
variable {K : PySem.W.Frag} {L : Addr → Prop} {f : List Addr} {h : Hh} {H : Hp}
mutual
theorem Rep.iso : ∀ {v : V} {d : D}, pureD d = true → Rep K L f H v d → Rep K (fun a => L a ∨ a ∈ f) [] H v d
  | _, _, _, .non => .non
  | _, _, _, .bl b => .bl b
  | _, _, _, .int i => .int i
  | _, _, _, .str s a b => .str s a b
  | _, _, p, .tup hs r => .tup hs (RepL.iso (by simpa [pureD] using p) r)
  | _, _, p, .lst e nl nf r => .lst e (fun x => x.elim nl nf) (by simp) (RepL.iso (by simpa [pureD] using p) r)
  | _, _, p, .ref e => by simp [pureD] at p
  | _, _, p, .dic e l nl nf r => .dic e l (fun x => x.elim nl nf) (by simp) (RepL.iso (by simpa [pureD] using p) r)
  | _, _, p, .ins e lq cn nl nf r => .ins e lq cn (fun x => x.elim nl nf) (by simp) (RepL.iso (by simpa [pureD] using p) r)
  | _, _, p, .exc e c nl nf z x r => .exc e c (fun x => x.elim nl nf) (by simp) z (x.imp id fun ⟨d, e1, e, nl, nf⟩ => ⟨d, e1, e, (fun x => x.elim nl nf), by simp⟩) (RepL.iso (by simpa [pureD] using p) r)
  | _, _, _, .scr hs => .scr (by
      rcases hs with ⟨e, nl, nf⟩ | k
      · exact .inl ⟨e, fun x => x.elim nl nf, by simp⟩
      · exact .inr k)
theorem RepL.iso : ∀ {vs : List V} {ds : List D}, pureDs ds = true → RepL K L f H vs ds → RepL K (fun a => L a ∨ a ∈ f) [] H vs ds
  | _, _, _, .nil => .nil
  | _, _, p, .cons r t => by
    simp only [pureDs, Bool.and_eq_true] at p
    exact .cons (Rep.iso p.1 r) (RepL.iso p.2 t)
end
mutual
theorem Rep.out {f2 : List Addr} : ∀ {v : V} {d : D}, pureD d = true → Rep K (fun a => L a ∨ a ∈ f) f2 H v d → Rep K L f H v d
  | _, _, _, .non => .non
  | _, _, _, .bl b => .bl b
  | _, _, _, .int i => .int i
  | _, _, _, .str s a b => .str s a b
  | _, _, p, .tup hs r => .tup hs (RepL.out (by simpa [pureD] using p) r)
  | _, _, p, .lst e nl nf r => .lst e (fun x => nl (.inl x)) (fun x => nl (.inr x)) (RepL.out (by simpa [pureD] using p) r)
  | _, _, p, .ref e => by simp [pureD] at p
  | _, _, p, .dic e l nl nf r => .dic e l (fun x => nl (.inl x)) (fun x => nl (.inr x)) (RepL.out (by simpa [pureD] using p) r)
  | _, _, p, .ins e lq cn nl nf r => .ins e lq cn (fun x => nl (.inl x)) (fun x => nl (.inr x)) (RepL.out (by simpa [pureD] using p) r)
  | _, _, p, .exc e c nl nf z x r => .exc e c (fun x => nl (.inl x)) (fun x => nl (.inr x)) z (x.imp id fun ⟨d, e1, e, nl, nf⟩ => ⟨d, e1, e, (fun x => nl (.inl x)), (fun x => nl (.inr x))⟩) (RepL.out (by simpa [pureD] using p) r)
  | _, _, _, .scr hs => .scr (by
      rcases hs with ⟨e, nl, nf⟩ | k
      · exact .inl ⟨e, fun x => nl (.inl x), fun x => nl (.inr x)⟩
      · exact .inr k)
theorem RepL.out {f2 : List Addr} : ∀ {vs : List V} {ds : List D}, pureDs ds = true → RepL K (fun a => L a ∨ a ∈ f) f2 H vs ds → RepL K L f H vs ds
  | _, _, _, .nil => .nil
  | _, _, p, .cons r t => by
    simp only [pureDs, Bool.and_eq_true] at p
    exact .cons (Rep.out p.1 r) (RepL.out p.2 t)
end
theorem XD.out {f2 : List Addr} {cv : Value} {xs : List D} {dd : Option Addr} (hp : pureDs xs = true) (x : XD K (fun a => L a ∨ a ∈ f) f2 H cv xs dd) : XD K L f H cv xs dd := by
  unfold XD at x ⊢
  split at x
  · obtain ⟨C, vs, e1, e2, e3, e4, e5⟩ := x
    simp only [pureDs, pureD, Bool.and_true] at hp
    refine ⟨C, vs, e1, e2, e3.imp id fun ⟨d, q1, q2, q3, q4⟩ => ⟨d, q1, q2, fun z => q3 (.inl z), fun z => q3 (.inr z)⟩, e4, e5.out hp⟩
  · trivial
theorem frz_rep {f2 : List Addr} {h2 : Hh} {v : V} {d d' : D} (S : SRel K (fun a => L a ∨ a ∈ f) f2 h2 H) (r : Rep K (fun a => L a ∨ a ∈ f) f2 H v d) (e : frzD h2 d = some d') : Rep K L f H v d' := by
  unfold frzD at e
  split at e
  · rename_i hp
    cases e
    exact r.out hp
  · split at e
    · rename_i i _
      split at e
      · rename_i xs ei
        split at e
        · rename_i hp
          cases e
          obtain ⟨a, vs, e1, e3, rr⟩ := S.objL ei
          cases r with
          | ref e4 =>
            rw [e1] at e4
            cases e4
            have nl := S.dis a (List.mem_of_getElem? e1)
            exact .lst e3 (fun x => nl (.inl x)) (fun x => nl (.inr x)) (RepL.out hp rr)
        · cases e
      · rename_i c ns xs ei
        split at e
        · rename_i hp
          cases e
          obtain ⟨a, C, dx, vs, e1, e2, e3, e5, rr⟩ := S.objI ei
          cases r with
          | ref e4 =>
            rw [e1] at e4
            cases e4
            have nl := S.dis a (List.mem_of_getElem? e1)
            exact .ins e2 e3 e5 (fun x => nl (.inl x)) (fun x => nl (.inr x)) (RepL.out hp rr)
        · cases e
      · cases e
    · cases e
end

section
variable {P : Program} {w : World} {K : PySem.W.Frag} {mg : Str → Option Value} {base : Heap} {ca : Nat → Value}
theorem spG_le {n : Nat} {g g' : List D → Hh → Res (D × Hh)} (hl : LeF g' g) {vs : List V} {H : Hp} {Q : VK} {E : XK} (q : spG K ca n g' vs H Q E) : spG K ca n g vs H Q E := by
  obtain ⟨hn, L, f, h, ds, S, r, p⟩ := q
  refine ⟨hn, L, f, h, ds, S, r, ?_⟩
  have ne : g' ds h ≠ .no := fun z => by
    rw [z] at p
    exact p.elim
  rw [hl ds h ne]
  exact p
theorem spG_pure {n : Nat} {g : List D → Hh → Res (D × Hh)} {vs : List V} {H : Hp} {Q : VK} {E : XK} (q : spG K ca n (pureF g) vs H Q E) : spG K ca n g vs H Q E := by
  obtain ⟨hn, L, f, h, ds, S, r, p⟩ := q
  unfold pureF at p
  by_cases hp : pureDs ds = true
  · rw [if_pos hp] at p
    refine ⟨hn, fun a => L a ∨ a ∈ f, [], [], ds, ⟨rfl, List.nodup_nil, fun a x => x.elim (S.out a) fun m => ?_, fun a m => by simp at m, fun i d e => by simp at e⟩, RepL.iso hp r, ?_⟩
    · obtain ⟨vs, e, _⟩ := S.at m
      rw [e]
      exact fun z => nomatch z
    · have back : ∀ {f2 : List Addr} {H2 : Hp}, Le [] H f2 H2 → Le f H f H2 ∧ SRel K L f h H2 := fun {f2 H2} l2 => by
        have l : Le f H f H2 := ⟨⟨[], by simp, by simp⟩, fun a o e _ => l2.keep a o e (by simp)⟩
        refine ⟨l, S.len, S.nd, fun a x z => ?_, S.dis, fun i d e => ?_⟩
        · have := S.out a x
          cases k : H a with
          | none => exact this k
          | some o =>
            rw [l2.keep a o k (by simp)] at z
            cases z
        · obtain ⟨a, ds, vs, o, e1, e2, e3, rr⟩ := S.obj i d e
          exact ⟨a, ds, vs, o, e1, e2, l2.keep _ _ e3 (by simp), RepL.mono S l rr⟩
      cases k : g ds [] with
      | ok z =>
        obtain ⟨d, h'⟩ := z
        rw [k] at p
        simp only at p
        cases k2 : frzD h' d with
        | none =>
          rw [k2] at p
          exact p.elim
        | some d' =>
          rw [k2] at p
          intro f2 H2 l2 S2 v rv
          obtain ⟨l, S'⟩ := back l2
          exact p f H2 l S' v (frz_rep S2 rv k2)
      | exc c xs h' =>
        rw [k] at p
        simp only at p
        split at p
        · rename_i hx
          intro f2 H2 dd l2 S2 x2
          obtain ⟨l, S'⟩ := back l2
          exact p f H2 dd l S' (XD.out hx x2)
        · exact p.elim
      | no =>
        rw [k] at p
        exact p.elim
  · rw [if_neg hp] at p
    exact p.elim

/-- a def that gives g, as it is called by its name -/
def DefAt (P : Program) (w : World) (K : PySem.W.Frag) (mg : Str → Option Value) (base : Heap) (ca : Nat → Value) (lv : Nat) (x : Str) (n : Nat) (g : List D → Hh → Res (D × Hh)) : Prop :=
  ∃ (fa : Addr) (fd : FuncData) (ps : List Str), mg x = some (.ref fa) ∧ PySem.W.keepIn K (.ref fa) = true ∧ Binds K fd ps [] ∧ ps.length = n ∧ FnOk P w K mg base (L2.CX P w) lv fa fd ps (spG K ca n g)
theorem DefAt.up {lv lv' : Nat} {x : Str} {n : Nat} {g : List D → Hh → Res (D × Hh)} (d : DefAt P w K mg base ca lv x n g) (h : lv ≤ lv') : DefAt P w K mg base ca lv' x n g :=
  let ⟨fa, fd, ps, a, b, c, e, F⟩ := d
  ⟨fa, fd, ps, a, b, c, e, F.mono h⟩
theorem DefAt.le {lv : Nat} {x : Str} {n : Nat} {g g' : List D → Hh → Res (D × Hh)} (d : DefAt P w K mg base ca lv x n g) (h : LeF g' g) : DefAt P w K mg base ca lv x n g' :=
  let ⟨fa, fd, ps, a, b, c, e, F⟩ := d
  ⟨fa, fd, ps, a, b, c, e, F.imp fun _ _ _ _ q => spG_le h q⟩
theorem DefAt.pure {lv : Nat} {x : Str} {n : Nat} {g : List D → Hh → Res (D × Hh)} (d : DefAt P w K mg base ca lv x n g) : DefAt P w K mg base ca lv x n (pureF g) :=
  let ⟨fa, fd, ps, a, b, c, e, F⟩ := d
  ⟨fa, fd, ps, a, b, c, e, F.imp fun _ _ _ _ q => spG_pure q⟩

/-- a def of the text, where it stands -/
def Stands (K : PySem.W.Frag) (mg : Str → Option Value) (x : Str) (st : Stmt) (ps : List Str) : Prop :=
  ∃ (f : Addr) (fd : FuncData), mg x = some (.ref f) ∧ Fun K x x st f fd ∧ Binds K fd ps []
/-- what is known of the classes of errors -/
structure XOk (nm : List Str) (ca : Nat → Value) (exk cls : Nat → Bool) (sub : Nat → Nat → Option Bool) (K : PySem.W.Frag) (mg : Str → Option Value) : Prop where
  exs : ∀ k x, exk k = true → nm[k]? = some x → ∃ (C : Addr) (bmB : List Value) (B newId initId : String), ExcBaseFacts B newId initId bmB ∧ PySem.W.excIn K C bmB newId = true ∧ mg x = some (.ref C) ∧ PySem.W.keepIn K (.ref C) = true ∧
    (PySem.W.subIn K (.ref C) (.type "BaseException") = some true ∧ PySem.W.typeIn K (.ref C) = some (.type "type")) ∧ ca k = .ref C
  hnd : ∀ c k x b, sub c k = some b → nm[k]? = some x → PySem.W.exmOne K (ca c) (ca k) = some b
  hcl : ∀ k x, nm[k]? = some x → cls k = true → mg x = some (ca k) ∨ (mg x = none ∧ bootBuiltins x = some (ca k) ∧ x ≠ "__name__")

/-- THE RULE for a def -/
theorem def_fn {nm : List Str} {G : Gam} {lv : Nat} {x q : Str} {st : Stmt} {f : Addr} {fd : FuncData} {N ps : List Str} {ir : Sms} (F : Fun K x q st f fd) (sc : FnScope N ps (defScope st)) (hm : mSs ⟨N, nm⟩ (defScope st) ir (defBody st) = true)
    (g : GOk nm ca G lv P w K mg base) (xo : XOk nm ca G.exk G.cls G.sub K mg) : FnOk P w K mg base (L2.CX P w) (lv + 1) f fd ps (spG K ca ps.length (runD G N.length ir)) := by
  refine F.okX sc (fun vs H Q E h => h.1) fun cdv A outer s H vs Q E hr h => ?_
  obtain ⟨hn, L, fl, hh, ds, S, r, p⟩ := h
  refine ⟨_, soundSs (W := fun cls d _ H => E cls d H) ir ⟨⟨rfl, sc.nd, rfl, rfl, hr, g⟩, fun _ => rfl, rfl, rfl, passes_of rfl, fun k x a b => ?_, xo.hnd, xo.hcl⟩ (takes_of rfl rfl rfl rfl) hm, ?_⟩
  · obtain ⟨C, bmB, B, nw, ii, h1, h2, h3, h4, h5, h6⟩ := xo.exs k x a b
    exact ⟨C, bmB, B, nw, ii, h1, h2, h3, h4, raises_own h5.1 h5.2, h6⟩
  · refine ⟨L, fl, ds.map some ++ List.replicate (N.length - ds.length) none, hh, S, ?_, ?_⟩
    · have hl := r.length
      have hN : ps.length ≤ N.length := by
        have := congrArg List.length sc.pre
        rw [List.length_take] at this
        omega
      refine ⟨by simp [L2.start, hl], fun i d e => ?_⟩
      by_cases hi : i < ds.length
      · rw [List.getElem?_append_left (by simpa using hi), List.getElem?_map] at e
        cases k : ds[i]? with
        | none => rw [k] at e; cases e
        | some d' =>
          rw [k] at e
          cases e
          obtain ⟨v, h1, h2⟩ := r.get k
          refine ⟨v, ?_, h2⟩
          unfold L2.start
          rw [List.getElem?_append_left (by simpa [hl] using hi), List.getElem?_map, h1]
          rfl
      · rw [List.getElem?_append_right (by simpa using hi)] at e
        rw [List.getElem?_replicate] at e
        split at e <;> cases e
    · have p' := p
      unfold runD at p'
      cases k : evSs G ir (ds.map some ++ List.replicate (N.length - ds.length) none) hh with
      | no =>
        rw [k] at p'
        exact p'.elim
      | exc c xs h' =>
        rw [k] at p'
        exact p'.elim
      | ok o =>
        rw [k] at p'
        cases o with
        | nx r' h' => exact fun f' H' σ' l S' sl' => p' f' H' l S' .non .non
        | rt d h' => exact fun f' H' v l S' rv => p' f' H' l S' v rv
        | bk r' h' => exact p'.elim
        | ct r' h' => exact p'.elim
        | ex c xs r' h' => exact fun f' H' σ' dd l S' sl' x' => p' f' H' dd l S' x'
/-- a def of a class -/
def MethAt (P : Program) (w : World) (K : PySem.W.Frag) (mg : Str → Option Value) (base : Heap) (ca : Nat → Value) (lv : Nat) (fa : Addr) (n : Nat) (g : List D → Hh → Res (D × Hh)) : Prop :=
  ∃ (fd : FuncData) (ps : List Str), Binds K fd ps [] ∧ ps.length = n ∧ FnOk P w K mg base (L2.CX P w) lv fa fd ps (spG K ca n g)
theorem MethAt.up {lv lv' : Nat} {fa : Addr} {n : Nat} {g : List D → Hh → Res (D × Hh)} (d : MethAt P w K mg base ca lv fa n g) (h : lv ≤ lv') : MethAt P w K mg base ca lv' fa n g :=
  let ⟨fd, ps, c, e, F⟩ := d
  ⟨fd, ps, c, e, F.mono h⟩
theorem MethAt.le {lv : Nat} {fa : Addr} {n : Nat} {g g' : List D → Hh → Res (D × Hh)} (d : MethAt P w K mg base ca lv fa n g) (h : LeF g' g) : MethAt P w K mg base ca lv fa n g' :=
  let ⟨fd, ps, c, e, F⟩ := d
  ⟨fd, ps, c, e, F.imp fun _ _ _ _ q => spG_le h q⟩
def StandsM (K : PySem.W.Frag) (fa : Addr) (x q : Str) (st : Stmt) (ps : List Str) : Prop := ∃ (fd : FuncData), Fun K x q st fa fd ∧ Binds K fd ps []
theorem meth_at {nm : List Str} {G : Gam} {lv : Nat} {x q : Str} {st : Stmt} {fa : Addr} {N ps : List Str} {ir : Sms} (T : StandsM K fa x q st ps) (sc : FnScope N ps (defScope st)) (hm : mSs ⟨N, nm⟩ (defScope st) ir (defBody st) = true)
    (g : GOk nm ca G lv P w K mg base) (xo : XOk nm ca G.exk G.cls G.sub K mg) : MethAt P w K mg base ca (lv + 1) fa ps.length (runD G N.length ir) :=
  let ⟨fd, F, hb⟩ := T
  ⟨fd, ps, hb, rfl, def_fn F sc hm g xo⟩
theorem def_at {nm : List Str} {G : Gam} {lv : Nat} {x : Str} {st : Stmt} {N ps : List Str} {ir : Sms} (T : Stands K mg x st ps) (sc : FnScope N ps (defScope st)) (hm : mSs ⟨N, nm⟩ (defScope st) ir (defBody st) = true)
    (g : GOk nm ca G lv P w K mg base) (xo : XOk nm ca G.exk G.cls G.sub K mg) : DefAt P w K mg base ca (lv + 1) x ps.length (runD G N.length ir) :=
  let ⟨f, fd, hmg, F, hb⟩ := T
  ⟨f, fd, ps, hmg, F.kp, hb, rfl, def_fn F sc hm g xo⟩
end
end Z9

set_option Elab.async false
set_option linter.all false
set_option maxRecDepth 100000
set_option maxHeartbeats 4000000
/-! E14: tables of known things, the law's end. -/
namespace Z9
open PySem PySem.Spec PyProof.Rows L2

abbrev Fn := List D → Hh → Res (D × Hh)
/-- classes of errors: number and base's numbers -/
def subOf (t : List (Nat × List Nat)) (c k : Nat) : Option Bool := if (t.map (·.1)).contains k then (t.lookup c).map fun l => l.contains k else none
/-- errors as values: those that are made (number, name, field), what is of which class (name, number, whether), fields -/
structure XTab where
  mks : List (Nat × Str × Option Str) := []
  ks : List Nat := []
  cs : List (Str × List Nat) := []
  fl : List (Str × Str) := []
/-- classes whose instances are made: number, arguments, name, __init__; methods; fields -/
structure OTab where
  ini : List (Nat × Nat × Str × Fn) := []
  mth : List ((Str × Str) × Nat × Fn) := []
  ifl : List (Str × Str) := []
def mkG (fns : List (Nat × Nat × Fn)) (cons : List (Nat × D)) (t : List (Nat × List Nat)) (ex : List Nat) (xt : XTab := {}) (ot : OTab := {}) : Gam where
  ini k := ot.ini.lookup k
  mth c m := ot.mth.lookup (c, m)
  ifl c n := ot.ifl.contains (c, n)
  mkc k := xt.mks.lookup k
  esub c k := if xt.ks.contains k then (xt.cs.lookup c).map fun l => l.contains k else none
  efl c n := xt.fl.contains (c, n)
  fn k := fns.lookup k
  con k := cons.lookup k
  sub := subOf t
  exk k := ex.contains k
  cls k := (t.map (·.1)).contains k
theorem mem_of_look {α : Type} : ∀ {l : List (Nat × α)} {k : Nat} {a : α}, l.lookup k = some a → (k, a) ∈ l
  | [], _, _, h => by cases h
  | (j, b) :: l, k, a, h => by
    rw [List.lookup_cons] at h
    split at h
    · rename_i e
      cases h
      have : k = j := by simpa using e
      subst this
      exact List.mem_cons_self
    · exact List.mem_cons_of_mem _ (mem_of_look h)
section
variable {nm : List Str} {P : Program} {w : World} {K : PySem.W.Frag} {mg : Str → Option Value} {base : Heap} {ca : Nat → Value} {lv : Nat}
/-- what is known of the constants -/
def ConOk (nm : List Str) (K : PySem.W.Frag) (mg : Str → Option Value) (cons : List (Nat × D)) : Prop := ∀ p ∈ cons, ∀ x, nm[p.1]? = some x → ∃ v u, mg x = some u ∧ RelV v u ∧ ∀ L f H, Rep K L f H v p.2
theorem mem_of_look2 {α β : Type} [BEq α] [LawfulBEq α] : ∀ {l : List (α × β)} {k : α} {a : β}, l.lookup k = some a → (k, a) ∈ l
  | [], _, _, h => by cases h
  | (j, b) :: l, k, a, h => by
    rw [List.lookup_cons] at h
    split at h
    · rename_i e
      cases h
      rw [eq_of_beq e]
      exact List.mem_cons_self
    · exact List.mem_cons_of_mem _ (mem_of_look2 h)
/-- what is known of the errors that are values -/
structure XtOk (nm : List Str) (P : Program) (w : World) (K : PySem.W.Frag) (mg : Str → Option Value) (base : Heap) (ca : Nat → Value) (lv : Nat) (xt : XTab) : Prop where
  mks : ∀ p ∈ xt.mks, ∀ x, nm[p.1]? = some x → MkcAt P w K mg base lv (ca p.1) x p.2.1 p.2.2
  sub : ∀ k ∈ xt.ks, ∀ x, nm[k]? = some x → ∃ v cv, ClsV v cv ∧ RelV v cv ∧ (mg x = some cv ∨ (mg x = none ∧ bootBuiltins x = some cv)) ∧ ∀ p ∈ xt.cs, ∀ C, clsNm K C = some p.1 → EcK K C ∧ PySem.W.kitOne K (.ref C) cv = some (p.2.contains k)
  fl : ∀ p ∈ xt.fl, ∀ C, clsNm K C = some p.1 → XfC K C ∧ PySem.W.findIn K (.ref C) p.2 = some none
theorem xt_nil : XtOk nm P w K mg base ca lv {} := ⟨(fun _ m => by cases m), (fun _ m => by cases m), (fun _ m => by cases m)⟩
/-- what is known of the classes whose instances are made -/
structure OtOk (nm : List Str) (P : Program) (w : World) (K : PySem.W.Frag) (mg : Str → Option Value) (base : Heap) (ca : Nat → Value) (lv : Nat) (ot : OTab) : Prop where
  ini : ∀ p ∈ ot.ini, ∀ x, nm[p.1]? = some x → ∃ (j : Nat) (C f : Addr), j + 1 ≤ lv ∧ Mk K C f ∧ mg x = some (.ref C) ∧ clsNm K C = some p.2.2.1 ∧ MethAt P w K mg base ca j f (p.2.1 + 1) p.2.2.2
  mth : ∀ p ∈ ot.mth, ∀ C, clsNm K C = some p.1.1 → ∃ (f : Addr), Cls K C ∧ Meth K C p.1.2 f ∧ MethAt P w K mg base ca lv f (p.2.1 + 1) p.2.2
  ifl : ∀ p ∈ ot.ifl, ∀ C, clsNm K C = some p.1 → Cls K C ∧ NoAttr K C p.2
theorem ot_nil : OtOk nm P w K mg base ca lv {} := ⟨(fun _ m => by cases m), (fun _ m => by cases m), (fun _ m => by cases m)⟩
theorem gok_of {fns : List (Nat × Nat × Fn)} {cons : List (Nat × D)} {t : List (Nat × List Nat)} {ex : List Nat} {xt : XTab} {ot : OTab} (hf : ∀ p ∈ fns, ∃ x, nm[p.1]? = some x ∧ DefAt P w K mg base ca lv x p.2.1 p.2.2)
    (hc : ConOk nm K mg cons) (hb : ∀ x ∈ bnames, mg x = none) (hx : XtOk nm P w K mg base ca lv xt := by exact xt_nil) (ho : OtOk nm P w K mg base ca lv ot := by exact ot_nil) : GOk nm ca (mkG fns cons t ex xt ot) lv P w K mg base where
  ini k n c g x e hn := by
    obtain ⟨j, C, f, h1, h2, h3, h4, fd, ps, h5, h6, h7⟩ := ho.ini _ (mem_of_look2 e) x hn
    exact ⟨j, C, f, fd, ps, h1, h2, h3, h4, h5, h6, h7⟩
  mth c m n g C e hc := by
    obtain ⟨f, h2, h3, fd, ps, h5, h6, h7⟩ := ho.mth _ (mem_of_look2 e) C hc
    exact ⟨f, fd, ps, h2, h3, h5, h6, h7⟩
  ifl c n C e hc := ho.ifl (c, n) (List.contains_iff_mem.mp e) C hc
  mkc k x c o e hn := hx.mks _ (mem_of_look2 e) x hn
  esub k x e hn := by
    obtain ⟨c, b, e⟩ := e
    have e : (if xt.ks.contains k then (xt.cs.lookup c).map fun l => l.contains k else none) = some b := e
    split at e
    · rename_i hk
      obtain ⟨v, cv, h1, h2, h3, h4⟩ := hx.sub k (List.contains_iff_mem.mp hk) x hn
      refine ⟨v, cv, h1, h2, h3, fun c b C e2 hc => ?_⟩
      have e2 : (if xt.ks.contains k then (xt.cs.lookup c).map fun l => l.contains k else none) = some b := e2
      rw [if_pos hk] at e2
      cases el : xt.cs.lookup c with
      | none => rw [el] at e2; cases e2
      | some l =>
        rw [el] at e2
        cases e2
        exact h4 (c, l) (mem_of_look2 el) C hc
    · cases e
  efl c n C e hc := hx.fl (c, n) (List.contains_iff_mem.mp e) C hc
  fn k n g x e hx := by
    obtain ⟨y, h1, h2⟩ := hf _ (mem_of_look e)
    rw [hx] at h1
    cases h1
    exact h2
  con k d x e hx := hc _ (mem_of_look e) x hx
  blt := hb
/-- a text as a constant of the module -/
theorem con_str {x : Str} {s : List Nat} (h : ∃ t, mg x = some (.str ⟨s.toArray⟩ t)) (ho : ∀ c ∈ s, c < 0x110000) (hz : s.length ≤ sizeLine) : ∃ v u, mg x = some u ∧ RelV v u ∧ ∀ L f H, Rep K L f H v (.str s) :=
  let ⟨t, e⟩ := h
  ⟨.str ⟨s.toArray⟩, _, e, ⟨t, rfl⟩, fun _ _ _ => .strOf ho hz⟩
theorem con_int {x : Str} {i : Int} (h : ∃ t, mg x = some (.int i t)) : ∃ v u, mg x = some u ∧ RelV v u ∧ ∀ L f H, Rep K L f H v (.int i) :=
  let ⟨t, e⟩ := h
  ⟨.int i, _, e, ⟨t, rfl⟩, fun _ _ _ => .int i⟩
/-- an error's class, where it stands -/
def XAt (K : PySem.W.Frag) (mg : Str → Option Value) (x : Str) (C : Addr) : Prop := ∃ (bmB : List Value) (B newId initId : String), ExcBaseFacts B newId initId bmB ∧ PySem.W.excIn K C bmB newId = true ∧ mg x = some (.ref C) ∧ PySem.W.keepIn K (.ref C) = true ∧
    (PySem.W.subIn K (.ref C) (.type "BaseException") = some true ∧ PySem.W.typeIn K (.ref C) = some (.type "type"))

/-- law's promise -/
def spLaw (K : PySem.W.Frag) : Sp := fun vs H Q _ => ∃ (a : Addr) (ns : List Int), vs = [.ref a] ∧ SqL K H a (ns.map V.int) ∧ ns.length ≤ 63 ∧ ∀ H', Q (.bl true) H'
theorem law_end {x : Str} {g : Fn} {fa : Addr} {fd : FuncData} {ps : List Str} (F : FnOk P w K mg base (L2.CX P w) lv fa fd ps (spG K ca 1 g)) (hg : ∀ ns : List Int, ns.length ≤ 63 → ∃ h, g [.scr ns] [] = .ok (.bl true, h)) :
    FnOk P w K mg base (L2.CX P w) lv fa fd ps (spLaw K) := by
  refine F.imp fun vs H Q E q => ?_
  obtain ⟨p, ns, rfl, hq, hl, k⟩ := q
  obtain ⟨h, eg⟩ := hg ns hl
  refine ⟨rfl, fun _ => False, [], [], [.scr ns], ⟨rfl, List.nodup_nil, fun _ z => z.elim, fun _ m => by simp at m, fun i d e => by simp at e⟩, .cons (.scr ?_) .nil, ?_⟩
  · rcases hq with r | r
    · exact .inl ⟨r, fun z => z, by simp⟩
    · exact .inr r
  · rw [eg]
    intro f' H' _ _ v rv
    rw [rv.blE]
    exact k H'
end
end Z9

set_option Elab.async false
set_option linter.all false
set_option maxRecDepth 100000
set_option maxHeartbeats 4000000
/-! E15: what the printed texts use. -/
namespace Z9
open PySem PySem.Spec PyProof.Rows L2

theorem all_cons {α : Type} {R : α → Prop} {a : α} {l : List α} (h : R a) (t : ∀ x ∈ l, R x) : ∀ x ∈ a :: l, R x := fun x m => by
  rcases List.mem_cons.mp m with e | e
  · exact e ▸ h
  · exact t x e
theorem all_nil {α : Type} {R : α → Prop} : ∀ x ∈ ([] : List α), R x := fun x m => by cases m
def caL (l : List (Nat × Addr)) (k : Nat) : Value := match l.lookup k with
  | some a => .ref a
  | none => .none
section
variable {nm : List Str} {P : Program} {w : World} {K : PySem.W.Frag} {mg : Str → Option Value} {base : Heap} {ca : Nat → Value} {lv : Nat}
theorem hf_cons {x : Str} {k n : Nat} {g : Fn} {fns : List (Nat × Nat × Fn)} (hx : nm[k]? = some x) (d : DefAt P w K mg base ca lv x n g) (t : ∀ p ∈ fns, ∃ x, nm[p.1]? = some x ∧ DefAt P w K mg base ca lv x p.2.1 p.2.2) :
    ∀ p ∈ (k, n, g) :: fns, ∃ x, nm[p.1]? = some x ∧ DefAt P w K mg base ca lv x p.2.1 p.2.2 := all_cons (R := fun (p : Nat × Nat × Fn) => ∃ x, nm[p.1]? = some x ∧ DefAt P w K mg base ca lv x p.2.1 p.2.2) ⟨x, hx, d⟩ t
theorem hf_nil : ∀ p ∈ ([] : List (Nat × Nat × Fn)), ∃ x, nm[p.1]? = some x ∧ DefAt P w K mg base ca lv x p.2.1 p.2.2 := fun _ m => by cases m
theorem con1 {k : Nat} {d : D} {y : Str} (hx : nm[k]? = some y) (h : ∃ v u, mg y = some u ∧ RelV v u ∧ ∀ L f H, Rep K L f H v d) : ∀ x, nm[k]? = some x → ∃ v u, mg x = some u ∧ RelV v u ∧ ∀ L f H, Rep K L f H v d := fun x e => by
  rw [hx] at e
  cases e
  exact h
theorem ex1 {k : Nat} {x : Str} {C : Addr} (hx : nm[k]? = some x) (hc : ca k = .ref C) (h : XAt K mg x C) : ∃ x C, nm[k]? = some x ∧ XAt K mg x C ∧ ca k = .ref C := ⟨x, C, hx, h, hc⟩
theorem stands_mk {x : Str} {st : Stmt} {f : Addr} {fd : FuncData} {ps : List Str} (h : mg x = some (.ref f)) (F : Fun K x x st f fd) (b : Binds K fd ps []) : Stands K mg x st ps := ⟨f, fd, h, F, b⟩
theorem xok_of {t : List (Nat × List Nat)} {ex : List Nat} (hex : ∀ k ∈ ex, ∃ x C, nm[k]? = some x ∧ XAt K mg x C ∧ ca k = .ref C)
    (hp : ∀ c ∈ t, ∀ k ∈ t, PySem.W.exmOne K (ca c.1) (ca k.1) = some (c.2.contains k.1)) (hc : ∀ k ∈ t, ∃ x, nm[k.1]? = some x ∧ mg x = some (ca k.1)) :
    XOk nm ca (fun k => ex.contains k) (fun k => (t.map (·.1)).contains k) (subOf t) K mg where
  exs k x hk hx := by
    obtain ⟨y, C, e, ⟨bmB, B, nw, ii, h1, h2, h3, h4, h5⟩, e2⟩ := hex k (by simpa using hk)
    rw [hx] at e
    cases e
    exact ⟨C, bmB, B, nw, ii, h1, h2, h3, h4, h5, e2⟩
  hnd c k x b hb hx := by
    unfold subOf at hb
    split at hb
    · rename_i hk
      simp only [List.contains_eq_mem, List.mem_map, decide_eq_true_eq] at hk
      obtain ⟨p, hp1, rfl⟩ := hk
      cases e : t.lookup c with
      | none =>
        rw [e] at hb
        cases hb
      | some l =>
        rw [e] at hb
        cases hb
        exact hp _ (mem_of_look e) _ hp1
    · cases hb
  hcl k x hx hk := by
    simp only [List.contains_eq_mem, List.mem_map, decide_eq_true_eq] at hk
    obtain ⟨p, hp1, rfl⟩ := hk
    obtain ⟨y, e, e2⟩ := hc p hp1
    rw [hx] at e
    cases e
    exact .inl e2
end
/-- what the law's row asks -/
def LawFd (l : PySem.W.OpenLaw) (w : World) (K : PySem.W.Frag) (mg : Str → Option Value) (fa : Addr) (k : Nat) : Prop :=
  ∃ fd : FuncData, (∀ (s : Shared) (u : Value), BindsTo s fd ⟨[u], []⟩ [("_law_script", u)]) ∧ ∀ base : Heap, K.In base → base.Ns mainGlobals mg → FnOk l.prog w K mg base (L2.CX l.prog w) k fa fd ["_law_script"] (spLaw K)
theorem walk_k {k : Nat} {l : PySem.W.OpenLaw} {q : Program} {loose : List Str} {XP : (Str → Option Value) → Heap → Prop} {YP : World → Heap → Prop} {d : DefRec} {K : Params → PySem.W.Frag} (hk : Room k callerA) (hn : l.most = some 63) (hdf : d.params.defaults = [])
    (hY : ∀ (w : World) (h : Heap), YP w h → (K w.params).In h)
    (F : ∀ (w : World) (mg : Str → Option Value) (fa : Addr) (h : Heap), (K w.params).In h → h.Ns mainGlobals mg → mg d.name = some (.ref fa) → LawFd l w (K w.params) mg fa k) :
    PySem.W.WalkO q loose XP YP l.row.toRowW d [] (fun f vs => PySem.call f vs) :=
  L2.walk_of (n := 63) (k := k) (x := "_law_script") (CX := fun w => L2.CX l.prog w) (sp := fun w => spLaw (K w.params)) hn (by decide) hdf hk hY F (fun _ _ a ns hl _ hS => ⟨a, ns, rfl, hS, hl, fun _ => rfl⟩) (fun _ _ _ _ _ z => let ⟨_, _, _, _, _, _, _, _, _, _, _, _, e⟩ := z; e)
end Z9

set_option Elab.async false
set_option linter.all false
set_option maxRecDepth 100000
set_option maxHeartbeats 4000000
/-! E16: rewriting rules for what forms give; the lots. -/
namespace Z9
open PySem PySem.Spec
section
variable (G : Gam) (r : Z9.Env) (h : Hh)
@[simp] theorem getV_z (a : D) (r : Z9.Env) : getV (some a :: r) 0 = .ok a := rfl
@[simp] theorem getV_s (a : Option D) (r : Z9.Env) (i : Nat) : getV (a :: r) (i + 1) = getV r i := by simp [getV]
@[simp] theorem wipeE_n (r : Z9.Env) : wipeE r [] = r := rfl
@[simp] theorem wipeE_c (r : Z9.Env) (v : Nat) (vs : List Nat) : wipeE r (v :: vs) = (wipeE r vs).set v none := rfl
@[simp] theorem ev_var (i) : evE G (.var i) r h = (getV r i).bind fun d => .ok (d, h) := by simp only [evE]
@[simp] theorem ev_con (d) : evE G (.con d) r h = .ok (d, h) := by simp only [evE]
@[simp] theorem ev_glob (k) : evE G (.glob k) r h = (ofO (G.con k)).bind fun d => .ok (d, h) := by simp only [evE]
@[simp] theorem ev_tup (es) : evE G (.tup es) r h = (evEs G es r h).bind fun p => ofB (okN p.1.length) (.tup p.1, p.2) := by simp only [evE]
@[simp] theorem ev_lst (es) : evE G (.lst es) r h = (evEs G es r h).bind fun p => ofB (okN p.1.length) (.lst p.1, p.2) := by simp only [evE]
@[simp] theorem ev_newl (es) : evE G (.newl es) r h = (evEs G es r h).bind fun p => ofB (okN p.1.length) (.ref p.2.length, p.2 ++ [.lst p.1]) := by simp only [evE]
@[simp] theorem ev_bin (o a b) : evE G (.bin o a b) r h = (evE G a r h).bind fun p => (evE G b r p.2).bind fun q => (binD o p.1 q.1).bind fun d => .ok (d, q.2) := by simp only [evE]
theorem negD_eq (p : D × Hh) : (match p.1 with | .int i => (.ok (.int (-i), p.2) : Res (D × Hh)) | _ => .no) = match p.1 with | .int i => .ok (.int (-i), p.2) | _ => .no := rfl
@[simp] theorem ev_neg (i : Int) : evE G (.neg (.con (.int i))) r h = .ok (.int (-i), h) := by simp [evE]
@[simp] theorem ev_cmp (o a b) : evE G (.cmp o a b) r h = (evE G a r h).bind fun p => (evE G b r p.2).bind fun q => (cmpD o p.1 q.1).bind fun d => .ok (d, q.2) := by simp only [evE]
@[simp] theorem ev_cmp2 (o o2 a b c) : evE G (.cmp2 o o2 a b c) r h = (evE G a r h).bind fun p => (evE G b r p.2).bind fun q => (cmpD o p.1 q.1).bind fun d => (boolD d).bind fun t =>
      if t then (evE G c r q.2).bind fun w => (cmpD o2 q.1 w.1).bind fun e => .ok (e, w.2) else .ok (.bl false, q.2) := by simp only [evE]
@[simp] theorem ev_and (es) : evE G (.and es) r h = evA G true es r h := by simp only [evE]
@[simp] theorem ev_or (es) : evE G (.or es) r h = evA G false es r h := by simp only [evE]
@[simp] theorem ev_dicc (s i) : evE G (.dicc s i) r h = .ok (.dic [s] [.int i], h) := by simp only [evE]
@[simp] theorem ev_fld (a n) : evE G (.fld a n) r h = (evE G a r h).bind fun p => (fldD G p.2 p.1 n).bind fun d => .ok (d, p.2) := by simp only [evE]
@[simp] theorem ev_isc (a k) : evE G (.isc a k) r h = (evE G a r h).bind fun p => (iscD G p.1 k).bind fun d => .ok (d, p.2) := by simp only [evE]
theorem ev_mkx {k : Nat} {m : Str × Option Str} (e : G.mkc k = some m) (es) (s : mkSh m.2 es = true) : evE G (.mkx k es) r h = (evEs G es r h).bind fun p => (mkxD m p.1).bind fun d => .ok (d, p.2) := by simp only [evE, e, s, if_true]
theorem evS_rai1 {k : Nat} {c f : Str} (e0 : G.mkc k = some (c, some f)) (e) : evS G (.rai1 k e) r h = (evE G e r h).bs r fun p => .ok (.ex k [.exc c [f] [p.1]] r p.2) := by simp only [evS, e0]
theorem ev_new {k : Nat} {m : Nat × Str × (List D → Hh → Res (D × Hh))} (e : G.ini k = some m) (es) : evE G (.new k es) r h = (evEs G es r h).bind fun p => if p.1.length = m.1 then (m.2.2 (.ref p.2.length :: p.1) (p.2 ++ [.ins m.2.1 [] []])).bind (madeD p.2.length) else .no := by simp only [evE, e]
@[simp] theorem evS_setf (o n e) : evS G (.setf o n e) r h = (evE G e r h).bs r fun p => (evE G o r p.2).bs r fun q => (setfD G q.2 q.1 n p.1).bs r fun h' => .ok (.nx r h') := by simp only [evS]
@[simp] theorem ev_dic0 : evE G .dic0 r h = .ok (.dic [] [], h) := by simp only [evE]
@[simp] theorem ev_not (a) : evE G (.not a) r h = (evE G a r h).bind fun p => (boolD p.1).bind fun t => .ok (.bl (!t), p.2) := by simp only [evE]
@[simp] theorem ev_ife (c a b) : evE G (.ife c a b) r h = (evE G c r h).bind fun p => (boolD p.1).bind fun t => if t then evE G a r p.2 else evE G b r p.2 := by simp only [evE]
@[simp] theorem ev_ix (a i) : evE G (.ix a i) r h = (evE G a r h).bind fun p => (evE G i r p.2).bind fun q => (ixD q.2 p.1 q.1).bind fun d => .ok (d, q.2) := by simp only [evE]
@[simp] theorem ev_sl (a lo hi) : evE G (.sl a lo hi) r h = (evE G a r h).bind fun p => (evO G lo r p.2).bind fun q => (evO G hi r q.2).bind fun w => (slD w.2 p.1 q.1 w.1).bind fun d => .ok (d, w.2) := by simp only [evE]
@[simp] theorem ev_isi (a t) : evE G (.isi a t) r h = (evE G a r h).bind fun p => (isiD p.2 p.1 t).bind fun d => .ok (d, p.2) := by simp only [evE]
@[simp] theorem ev_bcall (f es) : evE G (.bcall f es) r h = (evEs G es r h).bind fun p => (bcallD f p.1 p.2).bind fun d => .ok (d, p.2) := by simp only [evE]
@[simp] theorem ev_bmeth (m a es) : evE G (.bmeth m a es) r h = (evE G a r h).bind fun p => if recvD p.2 m p.1 then (evEs G es r p.2).bind fun q => bmethD m p.1 q.1 q.2 else .no := by simp only [evE]
theorem ev_call {k : Nat} {n : Nat} {g : Fn} (e : G.fn k = some (n, g)) (es) : evE G (.call k es) r h = (evEs G es r h).bind fun p => if p.1.length = n then g p.1 p.2 else .no := by simp only [evE, e]
@[simp] theorem ev_lc (new elt t it ifs own) : evE G (.lc new elt t it ifs own) r h = (evI G it r h).bind fun p =>
      (lcD (fun x h1 => (setT t x (wipeE r own)).bind fun r1 => (evTs G ifs r1 h1).bind fun b => if b.1 then (evE G elt r1 b.2).bind fun y => .ok (some y.1, y.2) else .ok (none, b.2)) p.1 [] p.2).bind fun q =>
        if new then .ok (.ref q.2.length, q.2 ++ [.lst q.1]) else .ok (.lst q.1, q.2) := by simp only [evE]
@[simp] theorem evEs_n : evEs G .nil r h = .ok ([], h) := by simp only [evEs]
@[simp] theorem evEs_c (e es) : evEs G (.cons e es) r h = (evE G e r h).bind fun p => (evEs G es r p.2).bind fun q => .ok (p.1 :: q.1, q.2) := by simp only [evEs]
@[simp] theorem evA_1 (k e) : evA G k (.cons e .nil) r h = (evE G e r h).bind fun p => (boolD p.1).bind fun t => .ok (.bl t, p.2) := by simp only [evA]
@[simp] theorem evA_2 (k e e2 es) : evA G k (.cons e (.cons e2 es)) r h = (evE G e r h).bind fun p => (boolD p.1).bind fun t => if t = k then evA G k (.cons e2 es) r p.2 else .ok (.bl t, p.2) := by rw [evA]
@[simp] theorem evTs_n : evTs G .nil r h = .ok (true, h) := by simp only [evTs]
@[simp] theorem evTs_c (e es) : evTs G (.cons e es) r h = (evE G e r h).bind fun p => (boolD p.1).bind fun t => if t then evTs G es r p.2 else .ok (false, p.2) := by simp only [evTs]
@[simp] theorem evO_n : evO G .none r h = .ok (none, h) := by simp only [evO]
theorem evO_s {e : Ex} {i : Int} {h' : Hh} (k : evE G e r h = .ok (.int i, h')) : evO G (.some e) r h = .ok (some i, h') := by simp [evO, k]
@[simp] theorem evO_con (i : Int) : evO G (.some (.con (.int i))) r h = .ok (some i, h) := by simp [evO]
theorem evI_lst {e : Ex} {xs : List D} {h' : Hh} (k : evE G e r h = .ok (.lst xs, h')) : evI G (.seq e) r h = .ok (xs, h') := by simp [evI, k]
theorem evI_tup {e : Ex} {xs : List D} {h' : Hh} (k : evE G e r h = .ok (.tup xs, h')) : evI G (.seq e) r h = .ok (xs, h') := by simp [evI, k]
theorem evI_str {e : Ex} {s : List Nat} {h' : Hh} (k : evE G e r h = .ok (.str s, h')) : evI G (.seq e) r h = .ok (s.map fun c => .str [c], h') := by simp [evI, k]
theorem evI_range {e : Ex} {n : Nat} {h' : Hh} (k : evE G e r h = .ok (.int n, h')) (hn : n < 1099511627776) : evI G (.range e) r h = .ok ((List.range n).map fun (i : Nat) => .int i, h') := by
  have h1 : -1099511627776 < (n : Int) := by omega
  have h2 : (n : Int) < 1099511627776 := by omega
  unfold evI
  rw [k, Res.bind_ok]
  show ofB (decide _ && decide _) _ = _
  rw [decide_eq_true h1, decide_eq_true h2]
  show Res.ok _ = _
  congr 2
  simp
@[simp] theorem setT_v (i : Nat) (d : D) (r : Z9.Env) : setT (.var i) d r = .ok (r.set i (some d)) := rfl
@[simp] theorem setT_t (ts : Tgs) (xs : List D) (r : Z9.Env) : setT (.tup ts) (.tup xs) r = setTs ts xs r := rfl
@[simp] theorem setT_l (ts : Tgs) (xs : List D) (r : Z9.Env) : setT (.tup ts) (.lst xs) r = setTs ts xs r := rfl
@[simp] theorem setTs_n (r : Z9.Env) : setTs .nil [] r = .ok r := rfl
@[simp] theorem setTs_c (t : Tg) (ts : Tgs) (x : D) (xs : List D) (r : Z9.Env) : setTs (.cons t ts) (x :: xs) r = (setT t x r).bind fun r' => setTs ts xs r' := rfl
@[simp] theorem evS_set (i e) : evS G (.set i e) r h = (evE G e r h).bs r fun p => .ok (.nx (r.set i (some p.1)) p.2) := by simp only [evS]
@[simp] theorem evS_asg (t e) : evS G (.asg t e) r h = (evE G e r h).bs r fun p => (setT t p.1 r).bs r fun r' => .ok (.nx r' p.2) := by simp only [evS]
@[simp] theorem evS_seti (o i e) : evS G (.seti o i e) r h = (evE G e r h).bs r fun p => (evE G o r p.2).bs r fun q => (evE G i r q.2).bs r fun w => (setiD q.1 w.1 p.1 w.2).bs r fun h' => .ok (.nx r h') := by simp only [evS]
@[simp] theorem evS_aug (i o e) : evS G (.aug i o e) r h = (getV r i).bs r fun d => (evE G e r h).bs r fun p => (augD d p.1).bs r fun y => .ok (.nx (r.set i (some y)) p.2) := by simp only [evS]
@[simp] theorem evS_expr (e) : evS G (.expr e) r h = (evE G e r h).bs r fun p => .ok (.nx r p.2) := by simp only [evS]
@[simp] theorem evS_ret (e) : evS G (.ret e) r h = (evE G e r h).bs r fun p => .ok (.rt p.1 p.2) := by simp only [evS]
@[simp] theorem evS_retn : evS G .retn r h = .ok (.rt .non h) := by simp only [evS]
@[simp] theorem evS_iff (c a b) : evS G (.iff c a b) r h = (evE G c r h).bs r fun p => (boolD p.1).bs r fun t => if t then evSs G a r p.2 else evSs G b r p.2 := by simp only [evS]
@[simp] theorem evS_for (t it b) : evS G (.forr t it b) r h = (evI G it r h).bs r fun p => forD (fun x r1 h1 => (setT t x r1).bs r1 fun r2 => evSs G b r2 h1) p.1 r p.2 := by simp only [evS]
@[simp] theorem evS_brk : evS G .brk r h = .ok (.bk r h) := by simp only [evS]
@[simp] theorem evS_cont : evS G .cont r h = .ok (.ct r h) := by simp only [evS]
@[simp] theorem evS_pass : evS G .pass r h = .ok (.nx r h) := by simp only [evS]
@[simp] theorem evS_rais (k es) : evS G (.rais k es) r h = if G.exk k then (evEs G es r h).bs r fun p => .ok (.ex k p.1 r p.2) else .no := by simp only [evS]
/-- after a statement -/
noncomputable def thenS (G : Gam) (ss : Sms) : Out → Res Out
  | .nx r' h' => evSs G ss r' h'
  | o => .ok o
@[simp] theorem thenS_nx (ss r h) : thenS G ss (.nx r h) = evSs G ss r h := rfl
@[simp] theorem thenS_rt (ss d h) : thenS G ss (.rt d h) = .ok (.rt d h) := rfl
@[simp] theorem thenS_ex (ss c xs r h) : thenS G ss (.ex c xs r h) = .ok (.ex c xs r h) := rfl
@[simp] theorem thenS_bk (ss r h) : thenS G ss (.bk r h) = .ok (.bk r h) := rfl
@[simp] theorem thenS_ct (ss r h) : thenS G ss (.ct r h) = .ok (.ct r h) := rfl
@[simp] theorem evSs_n : evSs G .nil r h = .ok (.nx r h) := by simp only [evSs]
@[simp] theorem evSs_c (s ss) : evSs G (.cons s ss) r h = (evS G s r h).bind (thenS G ss) := by
  rw [evSs]
  congr 1
/-- where a try goes on -/
noncomputable def hotD (G : Gam) (hs : Hds) : Res Out → Res Out
  | .ok (.ex c xs r' h') => evH G hs c xs r' h'
  | o => o
theorem evS_try (b hs) (k : hsOk G hs = true) : evS G (.tryy b hs) r h = hotD G hs (evSs G b r h) := by
  simp only [evS, k, if_true]
  cases evSs G b r h with
  | ok o => cases o <;> rfl
  | exc => rfl
  | no => rfl
@[simp] theorem hot_ex (hs c xs r h) : hotD G hs (.ok (.ex c xs r h)) = evH G hs c xs r h := rfl
@[simp] theorem hot_nx (hs r h) : hotD G hs (.ok (.nx r h)) = .ok (.nx r h) := rfl
@[simp] theorem hot_rt (hs d h) : hotD G hs (.ok (.rt d h)) = .ok (.rt d h) := rfl
theorem evH_t {k b hs c xs} (e : G.sub c k = some true) : evH G (.cons k b hs) c xs r h = evSs G b r h := by simp only [evH, e]
theorem evH_f {k b hs c xs} (e : G.sub c k = some false) : evH G (.cons k b hs) c xs r h = evH G hs c xs r h := by simp only [evH, e]
/-- what a body's end gives -/
def endD : Res Out → Res (D × Hh)
  | .ok (.nx _ h') => .ok (.non, h')
  | .ok (.rt d h') => .ok (d, h')
  | .ok (.ex c xs _ h') => .exc c xs h'
  | _ => .no
theorem runD_eq (n b xs) : runD G n b xs h = endD (evSs G b (xs.map some ++ List.replicate (n - xs.length) none) h) := by
  unfold runD endD
  cases evSs G b (xs.map some ++ List.replicate (n - xs.length) none) h with
  | ok o => cases o <;> rfl
  | exc => rfl
  | no => rfl
@[simp] theorem endD_nx (r h) : endD (.ok (.nx r h)) = .ok (.non, h) := rfl
@[simp] theorem endD_rt (d h) : endD (.ok (.rt d h)) = .ok (d, h) := rfl
@[simp] theorem endD_ex (c xs r h) : endD (.ok (.ex c xs r h)) = .exc c xs h := rfl
end
theorem cMul_l {i j : Int} (a : -(2 ^ 64) < i) (b : i < 2 ^ 64) : cMul i j = true := by unfold cMul; rw [decide_eq_true a, decide_eq_true b]; rfl
theorem cMul_r {i j : Int} (a : -(2 ^ 64) < j) (b : j < 2 ^ 64) : cMul i j = true := by unfold cMul; rw [decide_eq_true a, decide_eq_true b]; simp
theorem bin_add (i j : Int) : binD .Add (.int i) (.int j) = .ok (.int (i + j)) := rfl
theorem bin_sub (i j : Int) : binD .Sub (.int i) (.int j) = .ok (.int (i - j)) := rfl
theorem bin_mul_l {i j : Int} (a : -(2 ^ 64) < i) (b : i < 2 ^ 64) : binD .Mult (.int i) (.int j) = .ok (.int (i * j)) := by show ofB _ _ = _; rw [cMul_l a b]; rfl
theorem bin_mul_r {i j : Int} (a : -(2 ^ 64) < j) (b : j < 2 ^ 64) : binD .Mult (.int i) (.int j) = .ok (.int (i * j)) := by show ofB _ _ = _; rw [cMul_r a b]; rfl
theorem bin_mod {i j : Int} (a : 0 < j) : binD .Mod (.int i) (.int j) = .ok (.int (i % j)) := by show ofB _ _ = _; rw [decide_eq_true a]; rfl
theorem bin_div {i j : Int} (a : 0 < j) (b : j < 1073741824) : binD .FloorDiv (.int i) (.int j) = .ok (.int (i / j)) := by show ofB _ _ = _; rw [decide_eq_true a, decide_eq_true b]; rfl
theorem bin_pow {i j : Int} (a : (decide (0 ≤ j) && decide (j ≤ 1000000) && decide (i.natAbs < 2 ^ 64)) = true) : binD .Pow (.int i) (.int j) = .ok (.int (i ^ j.toNat)) := by show ofB _ _ = _; rw [a]; rfl
@[simp] theorem int_lt (i j : Int) : cmpD .Lt (.int i) (.int j) = .ok (.bl (decide (i < j))) := rfl
@[simp] theorem int_le (i j : Int) : cmpD .LtE (.int i) (.int j) = .ok (.bl (decide (i ≤ j))) := rfl
@[simp] theorem int_gt (i j : Int) : cmpD .Gt (.int i) (.int j) = .ok (.bl (decide (j < i))) := rfl
@[simp] theorem int_ge (i j : Int) : cmpD .GtE (.int i) (.int j) = .ok (.bl (decide (j ≤ i))) := rfl
@[simp] theorem canEq_int (i : Int) : canEq (.int i) = true := by simp [canEq, depD]
@[simp] theorem canEq_str (i) : canEq (.str i) = true := by simp [canEq, depD]
@[simp] theorem canEq_bl (i) : canEq (.bl i) = true := by simp [canEq, depD]
@[simp] theorem canEq_non : canEq .non = true := by simp [canEq, depD]
theorem cmp_eq {x y : D} (a : canEq x = true) (b : canEq y = true) : cmpD .Eq x y = .ok (.bl (eqD x y)) := by
  have : (if canEq x && canEq y then Res.ok (D.bl (eqD x y)) else eqT x y) = .ok (.bl (eqD x y)) := by rw [a, b]; rfl
  cases x <;> first | exact this | (simp [canEq, depD] at a; done)
/-- a tuple against one of one item -/
theorem cmp_eq1 {x y : D} {xs : List D} (a : canEq x = true) (b : canEq y = true) (c : canEq (.tup (x :: xs)) = false) : cmpD .Eq (.tup (x :: xs)) (.tup [y]) = .ok (.bl (eqD x y && xs.isEmpty)) := by
  have : (if canEq (.tup (x :: xs)) && canEq (.tup [y]) then Res.ok (D.bl (eqD (.tup (x :: xs)) (.tup [y]))) else eqT (.tup (x :: xs)) (.tup [y])) = .ok (.bl (eqD x y && xs.isEmpty)) := by
    rw [c, Bool.false_and, if_neg Bool.false_ne_true]
    show ofB (canEq x && canEq y) _ = _
    rw [a, b]
    rfl
  exact this
theorem eqDs_one {x y : D} : ∀ {xs : List D}, eqDs (x :: xs) [y] = (eqD x y && xs.isEmpty)
  | [] => by simp [eqDs]
  | z :: xs => by simp [eqDs]
theorem depD_of {x : D} (h : canEq x = true) : ∃ n, depD x = some n ∧ n ≤ 60 := canEq_dep h
/-- whatever stands further on -/
theorem cmp_eqT {x y : D} {xs : List D} (a : canEq x = true) (b : canEq (.tup [y]) = true) : cmpD .Eq (.tup (x :: xs)) (.tup [y]) = .ok (.bl (eqD x y && xs.isEmpty)) := by
  cases c : canEq (.tup (x :: xs)) with
  | false =>
    refine cmp_eq1 a ?_ c
    obtain ⟨n, e, hn⟩ := depD_of b
    simp only [depD, depDs, Option.map_eq_some_iff] at e
    obtain ⟨m, e, rfl⟩ := e
    cases k : depD y with
    | none => rw [k] at e; cases e
    | some z =>
      rw [k] at e
      simp only [Option.some.injEq] at e
      unfold canEq
      rw [k]
      simp only [decide_eq_true_eq]
      omega
  | true =>
    rw [cmp_eq c b]
    show Res.ok (D.bl (eqDs (x :: xs) [y])) = _
    rw [eqDs_one]
theorem cmp_ne {x y : D} (a : canEq x = true) (b : canEq y = true) : cmpD .NotEq x y = .ok (.bl (!eqD x y)) := by unfold cmpD; simp only [a, b]; rfl
@[simp] theorem int_eq (i j : Int) : cmpD .Eq (.int i) (.int j) = .ok (.bl (decide (i = j))) := by rw [cmp_eq (by simp) (by simp)]; rfl
@[simp] theorem int_ne (i j : Int) : cmpD .NotEq (.int i) (.int j) = .ok (.bl (!decide (i = j))) := by rw [cmp_ne (by simp) (by simp)]; rfl
@[simp] theorem str_eq (i j) : cmpD .Eq (.str i) (.str j) = .ok (.bl (decide (i = j))) := by rw [cmp_eq (by simp) (by simp)]; simp [eqD]
@[simp] theorem str_ne (i j) : cmpD .NotEq (.str i) (.str j) = .ok (.bl (!decide (i = j))) := by rw [cmp_ne (by simp) (by simp)]; simp [eqD]
theorem ixN_of {n : Nat} {i : Int} (a : 0 ≤ i) (b : i < n) : ixN n i = some i.toNat := by unfold ixN; rw [if_pos a, if_pos b]
theorem atD_in {α : Type} {xs : List α} {i : Int} (a : 0 ≤ i) (b : i < xs.length) : atD xs i = xs[i.toNat]? := by unfold atD; rw [ixN_of a b]; rfl
theorem atD_nat {α : Type} {xs : List α} {i : Nat} (b : i < xs.length) : atD xs i = xs[i]? := by rw [atD_in (by omega) (by omega)]; simp

def seqD : D × Hh → Res (List D × Hh)
  | (.lst xs, h) => .ok (xs, h)
  | (.tup xs, h) => .ok (xs, h)
  | (.str s, h) => .ok (s.map fun c => .str [c], h)
  | _ => .no
@[simp] theorem seqD_l (xs h) : seqD (.lst xs, h) = .ok (xs, h) := rfl
@[simp] theorem seqD_t (xs h) : seqD (.tup xs, h) = .ok (xs, h) := rfl
@[simp] theorem seqD_s (s h) : seqD (.str s, h) = .ok (s.map fun c => .str [c], h) := rfl
@[simp] theorem evI_seq (G : Gam) (r : Z9.Env) (h : Hh) (e : Ex) : evI G (.seq e) r h = (evE G e r h).bind seqD := by
  simp only [evI]
  congr 1
  funext p
  obtain ⟨d, h⟩ := p
  cases d <;> rfl
def rangeD : D × Hh → Res (List D × Hh)
  | (.int n, h) => ofB (decide (-1099511627776 < n) && decide (n < 1099511627776)) ((List.range n.toNat).map fun (i : Nat) => .int (0 + (i : Int)), h)
  | _ => .no
@[simp] theorem evI_rng (G : Gam) (r : Z9.Env) (h : Hh) (e : Ex) : evI G (.range e) r h = (evE G e r h).bind rangeD := by
  simp only [evI]
  congr 1
  funext p
  obtain ⟨d, h⟩ := p
  cases d <;> rfl
theorem rangeD_n {n : Int} {h : Hh} (a : 0 ≤ n) (b : n < 1099511627776) : rangeD (.int n, h) = .ok ((List.range n.toNat).map fun (i : Nat) => .int (i : Int), h) := by
  have h1 : -1099511627776 < n := by omega
  show ofB (decide _ && decide _) _ = _
  rw [decide_eq_true h1, decide_eq_true b]
  show Res.ok _ = _
  simp only [Int.zero_add]
/-- a comprehension whose turns change nothing -/
theorem lcD_map {f : D → Hh → Res (Option D × Hh)} {F : D → Option D} {h : Hh} : ∀ {xs acc : List D}, (∀ x ∈ xs, f x h = .ok (F x, h)) → acc.length + xs.length ≤ 16777216 → lcD f xs acc h = .ok (acc ++ xs.filterMap F, h)
  | [], acc, _, _ => by simp [lcD]
  | x :: xs, acc, hf, hl => by
    have e := hf x List.mem_cons_self
    have t := fun y m => hf y (List.mem_cons_of_mem _ m)
    simp only [List.length_cons] at hl
    cases k : F x with
    | none =>
      rw [k] at e
      simp only [lcD, e]
      rw [lcD_map t (by omega), List.filterMap_cons, k]
    | some y =>
      rw [k] at e
      simp only [lcD, e]
      rw [if_pos (by omega), lcD_map t (by simp; omega), List.filterMap_cons, k]
      simp
theorem ints_map (xs : List Int) : ints? (xs.map D.int) = some xs := by
  induction xs with
  | nil => rfl
  | cons x xs ih => simp [ints?, ih]
end Z9

set_option Elab.async false
set_option linter.all false
set_option maxRecDepth 100000
set_option maxHeartbeats 4000000
/-! E17: the lots of a law: pot and draw. -/
namespace Z9
open PySem PySem.Spec
def irDraw : Sms := (.cons (.set 2 (.ix (.var 0) (.con (.int 2)))) (.cons (.seti (.var 0) (.con (.int 2)) (.bin .Add (.var 2) (.con (.int 1)))) (.cons (.iff (.cmp .Gt (.bcall .len (.cons (.ix (.var 0) (.con (.int 0))) .nil)) (.con (.int 0))) (.cons (.set 4 (.ix (.ix (.var 0) (.con (.int 0))) (.con (.int 0)))) (.cons (.seti (.ix (.var 0) (.con (.int 0))) (.con (.int 0)) (.bin .FloorDiv (.var 4) (.var 1))) (.cons (.iff (.cmp .Lt (.var 4) (.var 1)) (.cons (.expr (.bmeth .pop (.ix (.var 0) (.con (.int 0))) (.cons (.con (.int 0)) .nil))) .nil) .nil) (.cons (.ret (.bin .Mod (.bcall .int (.cons (.var 4) .nil)) (.var 1))) .nil)))) .nil) (.cons (.set 3 (.bin .Add (.bin .Add (.bin .Mult (.ix (.ix (.var 0) (.con (.int 1))) (.bin .Mod (.bcall .int (.cons (.var 2) .nil)) (.bcall .len (.cons (.ix (.var 0) (.con (.int 1))) .nil)))) (.con (.int 7919))) (.bin .Mult (.con (.int 104729)) (.var 2))) (.bin .Mult (.ix (.var 0) (.con (.int 3))) (.con (.int 31))))) (.cons (.set 4 (.bin .Mod (.bcall .int (.cons (.bin .Add (.bin .Mult (.var 3) (.con (.int 48271))) (.con (.int 11))) .nil)) (.con (.int 2147483647)))) (.cons (.set 4 (.bin .Mod (.bcall .int (.cons (.bin .Mult (.var 4) (.bin .Add (.bin .FloorDiv (.var 4) (.con (.int 1009))) (.con (.int 69621)))) .nil)) (.con (.int 2147483629)))) (.cons (.set 4 (.bin .Mod (.bcall .int (.cons (.bin .Add (.bin .Mult (.var 4) (.bin .Add (.bin .FloorDiv (.var 4) (.con (.int 2003))) (.con (.int 40692)))) (.var 2)) .nil)) (.con (.int 2147483399)))) (.cons (.ret (.bin .Mod (.bcall .int (.cons (.bin .FloorDiv (.var 4) (.con (.int 64))) .nil)) (.var 1))) .nil))))))))
def irPot : Sms := (.cons (.set 1 (.lc false (.bcall .int (.cons (.var 4) .nil)) (.var 4) (.seq (.sl (.var 0) .none (.some (.con (.int 63))))) .nil [4])) (.cons (.set 2 (.lc true (.bcall .abs (.cons (.var 4) .nil)) (.var 4) (.seq (.var 1)) (.cons (.cmp .GtE (.bcall .abs (.cons (.var 4) .nil)) (.bin .Pow (.con (.int 10)) (.con (.int 18)))) .nil) [4])) (.cons (.set 3 (.bin .Add (.lc false (.bin .Mod (.bcall .int (.cons (.var 4) .nil)) (.con (.int 1000000007))) (.var 4) (.seq (.var 1)) (.cons (.cmp .Lt (.bcall .abs (.cons (.var 4) .nil)) (.bin .Pow (.con (.int 10)) (.con (.int 18)))) .nil) [4]) (.lst (.cons (.bin .Add (.bcall .len (.cons (.var 1) .nil)) (.con (.int 1))) .nil)))) (.cons (.ret (.newl (.cons (.var 2) (.cons (.var 3) (.cons (.con (.int 0)) (.cons (.bin .Mod (.bcall .int (.cons (.bcall .sum (.cons (.var 3) .nil)) .nil)) (.con (.int 999983))) .nil)))))) .nil))))
/-- the pot in the heap: great numbers, small ones, the turn, the sum -/
def PotOk (h rest : Hh) : Prop := ∃ (gs ss : List Int) (t s : Int), h = .lst (gs.map .int) :: .lst [.ref 0, .lst (ss.map .int), .int t, .int s] :: rest ∧ 0 < ss.length
theorem bin_mulmod {x m j : Int} (a : 0 < m) (b : m < 2 ^ 64) : binD .Mult (.int (x % m)) (.int j) = .ok (.int (x % m * j)) := bin_mul_l (by have := Int.emod_nonneg x (by omega : m ≠ 0); omega) (by have := Int.emod_lt_of_pos x a; omega)
theorem mod_range (x : Int) {m : Int} (a : 0 < m) : 0 ≤ x % m ∧ x % m < m := ⟨Int.emod_nonneg x (by omega), Int.emod_lt_of_pos x a⟩
theorem at_map {ss : List Int} {i : Int} (a : 0 ≤ i) (b : i < ss.length) : ∃ v, atD (ss.map D.int) i = some (.int v) := by
  rw [atD_in a (by simpa using b), List.getElem?_map]
  have : i.toNat < ss.length := by omega
  rw [List.getElem?_eq_getElem this]
  exact ⟨_, rfl⟩
theorem draw_ok (G : Gam) {h rest : Hh} {m : Int} (p : PotOk h rest) (m0 : 0 < m) (m1 : m < 1073741824) : ∃ k h', runD G 5 irDraw [.ref 1, .int m] h = .ok (.int k, h') ∧ 0 ≤ k ∧ k < m ∧ PotOk h' rest := by
  obtain ⟨gs, ss, t, s, rfl, hs⟩ := p
  rw [runD_eq]
  unfold irDraw
  have hs' : (0 : Int) < ss.length := by omega
  obtain ⟨v, hv⟩ := at_map (ss := ss) (mod_range t hs').1 (mod_range t hs').2
  cases gs with
  | nil =>
    generalize e : endD _ = R
    simp [ixD, lookD, atD_in, setiD, bcallD, bLen, bInt, bin_add, bin_mod hs', hv, bin_mul_r, bin_mul_l, bin_mod, bin_div, bin_mulmod, m0, m1] at e
    subst e
    exact ⟨_, _, rfl, (mod_range _ m0).1, (mod_range _ m0).2, [], ss, t + 1, s, rfl, hs⟩
  | cons g gs =>
    generalize e : endD _ = R
    by_cases hg : g < m
    · simp [ixD, lookD, atD_in, setiD, bcallD, bLen, bInt, bin_add, bin_mod, bin_div, m0, m1, hg, recvD, isLD, bmethD, mPop] at e
      subst e
      exact ⟨_, _, rfl, (mod_range _ m0).1, (mod_range _ m0).2, gs, ss, t + 1, s, rfl, hs⟩
    · simp [ixD, lookD, atD_in, setiD, bcallD, bLen, bInt, bin_add, bin_mod, bin_div, m0, m1, hg] at e
      subst e
      exact ⟨_, _, rfl, (mod_range _ m0).1, (mod_range _ m0).2, g / m :: gs, ss, t + 1, s, rfl, hs⟩
theorem lc_ints {f : D → Hh → Res (Option D × Hh)} {F : Int → Option Int} {h : Hh} {xs : List Int} (hf : ∀ i, f (.int i) h = .ok ((F i).map D.int, h)) (hl : xs.length ≤ 16777216) : lcD f (xs.map D.int) [] h = .ok ((xs.filterMap F).map D.int, h) := by
  rw [lcD_map (F := fun d => match d with | .int i => (F i).map D.int | _ => none)]
  · rw [List.nil_append, List.filterMap_map, List.map_filterMap]
    rfl
  · intro x m
    obtain ⟨i, _, rfl⟩ := List.mem_map.mp m
    exact hf i
  · simpa using hl
theorem pow18 : ∃ b : Int, binD .Pow (.int 10) (.int 18) = .ok (.int b) := ⟨_, bin_pow (by decide)⟩
theorem pot_ok (G : Gam) (ns : List Int) : ∃ h', runD G 5 irPot [.scr ns] [] = .ok (.ref 1, h') ∧ PotOk h' [] := by
  rw [runD_eq]
  have hc : (cutD ns none (some 63)).length ≤ 63 := by
    unfold cutD clampD
    simp
    omega
  generalize ecs : cutD ns none (some 63) = cs at hc
  obtain ⟨b, hp⟩ := pow18
  have e1 : ∀ h : Hh, lcD (fun x h1 => (setT (.var 4) x (wipeE [some (D.scr ns), none, none, none, none] [4])).bind fun r1 => (evTs G .nil r1 h1).bind fun b => if b.1 then (evE G (.bcall .int (.cons (.var 4) .nil)) r1 b.2).bind fun y => .ok (some y.1, y.2) else .ok (none, b.2)) (cs.map D.int) [] h = .ok ((cs.filterMap some).map D.int, h) := fun h => by
    refine lc_ints (fun i => ?_) (by omega)
    simp [bcallD, bInt]
  have e2 : ∀ h : Hh, lcD (fun x h1 => (setT (.var 4) x (wipeE [some (D.scr ns), some (.lst (cs.map D.int)), none, none, none] [4])).bind fun r1 => (evTs G (.cons (.cmp .GtE (.bcall .abs (.cons (.var 4) .nil)) (.bin .Pow (.con (.int 10)) (.con (.int 18)))) .nil) r1 h1).bind fun b => if b.1 then (evE G (.bcall .abs (.cons (.var 4) .nil)) r1 b.2).bind fun y => .ok (some y.1, y.2) else .ok (none, b.2)) (cs.map D.int) [] h = .ok ((cs.filterMap fun i => if b ≤ i.natAbs then some (i.natAbs : Int) else none).map D.int, h) := fun h => by
    refine lc_ints (fun i => ?_) (by omega)
    by_cases hi : b ≤ i.natAbs
    · simp [bcallD, bAbs, hp, hi]
    · simp [bcallD, bAbs, hp, hi]
  have e3 : ∀ (gg : D) (h : Hh), lcD (fun x h1 => (setT (.var 4) x (wipeE [some (D.scr ns), some (.lst (cs.map D.int)), some gg, none, none] [4])).bind fun r1 => (evTs G (.cons (.cmp .Lt (.bcall .abs (.cons (.var 4) .nil)) (.bin .Pow (.con (.int 10)) (.con (.int 18)))) .nil) r1 h1).bind fun b => if b.1 then (evE G (.bin .Mod (.bcall .int (.cons (.var 4) .nil)) (.con (.int 1000000007))) r1 b.2).bind fun y => .ok (some y.1, y.2) else .ok (none, b.2)) (cs.map D.int) [] h = .ok ((cs.filterMap fun i => if (i.natAbs : Int) < b then some (i % 1000000007) else none).map D.int, h) := fun gg h => by
    refine lc_ints (fun i => ?_) (by omega)
    by_cases hi : (i.natAbs : Int) < b
    · simp [bcallD, bAbs, bInt, hp, hi, bin_mod]
    · simp [bcallD, bAbs, bInt, hp, hi, bin_mod]
  generalize (fun i : Int => if b ≤ i.natAbs then some (i.natAbs : Int) else none) = F2 at e2
  generalize eF3 : (fun i : Int => if (i.natAbs : Int) < b then some (i % 1000000007) else none) = F3 at e3
  have h3 : (cs.filterMap F3).length ≤ 63 := Nat.le_trans (List.length_filterMap_le _ _) hc
  simp only [List.filterMap_some] at e1
  have add : binD .Add (.lst ((cs.filterMap F3).map D.int)) (.lst [.int (cs.length + 1)]) = .ok (.lst ((cs.filterMap F3 ++ [(cs.length : Int) + 1]).map D.int)) := by
    show ofB (okN _) _ = _
    have : okN (((cs.filterMap F3).map D.int).length + [D.int (cs.length + 1)].length) = true := by unfold okN; simp; omega
    rw [this]
    simp
  generalize hss : cs.filterMap F3 ++ [(cs.length : Int) + 1] = ss at add
  have hs : 0 < ss.length := by rw [← hss]; simp
  generalize e : endD _ = R
  unfold irPot at e
  rw [evSs_c, evS_set, ev_lc] at e
  simp only [evI_seq, ev_sl, ev_var, ev_con, evO_con, evO_n, List.map_cons, List.map_nil, List.cons_append, List.nil_append, List.length_cons, List.length_nil, List.replicate, getV_z, Res.bind_ok, slD, lookD, ecs, seqD_l] at e
  rw [e1] at e
  simp only [Res.bind_ok, Res.bs_ok, thenS_nx, List.set, Bool.false_eq_true, if_false] at e
  rw [evSs_c, evS_set, ev_lc] at e
  simp only [evI_seq, ev_var, getV_z, getV_s, Res.bind_ok, seqD_l] at e
  rw [e2] at e
  simp only [Res.bind_ok, Res.bs_ok, thenS_nx, List.set, if_true, List.length_nil, List.nil_append] at e
  rw [evSs_c, evS_set, ev_bin, ev_lc] at e
  simp only [evI_seq, ev_var, getV_z, getV_s, Res.bind_ok, seqD_l] at e
  rw [e3] at e
  simp [bcallD, bLen, bSum, bInt, lookD, bin_add, add, ints_map, bin_mod, okN] at e
  subst e
  exact ⟨_, rfl, _, ss, 0, _, rfl, hs⟩
end Z9

set_option Elab.async false
set_option linter.all false
set_option maxRecDepth 100000
set_option maxHeartbeats 4000000
/-! E18: pure defs, comprehensions that draw, loops. -/
namespace Z9
open PySem PySem.Spec
theorem pureF_ok {g : Fn} {ds : List D} {d : D} {h h' : Hh} (a : pureDs ds = true) (e : g ds [] = .ok (d, h')) (b : pureD d = true) : pureF g ds h = .ok (d, h) := by
  unfold pureF
  rw [if_pos a, e]
  simp [frzD, b]
theorem pureF_exc {g : Fn} {ds : List D} {c : Nat} {xs : List D} {h h' : Hh} (a : pureDs ds = true) (e : g ds [] = .exc c xs h') (b : pureDs xs = true := by rfl) : pureF g ds h = .exc c xs h := by
  unfold pureF
  rw [if_pos a, e]
  simp only
  rw [if_pos b]
/-- a changing list of pure things is given -/
theorem pureF_ref {g : Fn} {ds : List D} {i : Nat} {xs : List D} {h h' : Hh} (a : pureDs ds = true) (e : g ds [] = .ok (.ref i, h')) (b : h'[i]? = some (.lst xs)) (c : pureDs xs = true) : pureF g ds h = .ok (.lst xs, h) := by
  unfold pureF
  rw [if_pos a, e]
  simp [frzD, pureD, b, c]
/-- a comprehension whose turns change the state -/
theorem lcD_inv {f : D → Hh → Res (Option D × Hh)} {I : Hh → Prop} {Q : D → Prop} : ∀ {xs acc : List D} {h : Hh}, (∀ x ∈ xs, ∀ h, I h → ∃ y h', f x h = .ok (some y, h') ∧ I h' ∧ Q y) → I h → acc.length + xs.length ≤ 16777216 → (∀ y ∈ acc, Q y) →
    ∃ ys h', lcD f xs acc h = .ok (ys, h') ∧ I h' ∧ ys.length = acc.length + xs.length ∧ ∀ y ∈ ys, Q y
  | [], acc, h, _, hi, _, ha => ⟨acc, h, by simp [lcD], hi, by simp, ha⟩
  | x :: xs, acc, h, hf, hi, hl, ha => by
    obtain ⟨y, h', e, i', q⟩ := hf x List.mem_cons_self h hi
    simp only [List.length_cons] at hl
    obtain ⟨ys, h2, e2, i2, l2, q2⟩ := lcD_inv (acc := acc ++ [y]) (fun x m => hf x (List.mem_cons_of_mem _ m)) i' (by simp; omega) (fun z m => by
      rcases List.mem_append.mp m with m | m
      · exact ha z m
      · rw [List.mem_singleton.mp m]
        exact q)
    refine ⟨ys, h2, ?_, i2, ?_, q2⟩
    · simp only [lcD, e]
      rw [if_pos (by omega)]
      exact e2
    · rw [l2]
      simp
      omega
/-- a for whose turns all go on, by an invariant -/
theorem forD_inv {f : D → Z9.Env → Hh → Res Out} {I : Z9.Env → Hh → Prop} : ∀ {xs : List D} {r : Z9.Env} {h : Hh}, (∀ x ∈ xs, ∀ r h, I r h → ∃ r' h', f x r h = .ok (.nx r' h') ∧ I r' h') → I r h → ∃ r' h', forD f xs r h = .ok (.nx r' h') ∧ I r' h'
  | [], r, h, _, hi => ⟨r, h, rfl, hi⟩
  | x :: xs, r, h, hf, hi => by
    obtain ⟨r', h', e, i'⟩ := hf x List.mem_cons_self r h hi
    obtain ⟨r2, h2, e2, i2⟩ := forD_inv (fun x m => hf x (List.mem_cons_of_mem _ m)) i'
    exact ⟨r2, h2, by simp only [forD, e, e2], i2⟩
theorem strs_map (cs : List (List Nat)) : strs? (cs.map D.str) = some cs := by
  induction cs with
  | nil => rfl
  | cons x xs ih => simp [strs?, ih]
theorem joinS_chars : ∀ cs : List Nat, joinS [] (cs.map fun c => [c]) = cs
  | [] => rfl
  | [c] => rfl
  | c :: d :: cs => by
    have := joinS_chars (d :: cs)
    simp only [List.map_cons] at this
    simp only [List.map_cons, joinS, this]
    rfl
theorem all_ex {α β : Type} {f : β → α} {Q : β → Prop} : ∀ {ys : List α}, (∀ y ∈ ys, ∃ c, y = f c ∧ Q c) → ∃ cs : List β, ys = cs.map f ∧ ∀ c ∈ cs, Q c
  | [], _ => ⟨[], rfl, fun _ m => by cases m⟩
  | y :: ys, h => by
    obtain ⟨c, e, q⟩ := h y List.mem_cons_self
    obtain ⟨cs, e2, q2⟩ := all_ex fun z m => h z (List.mem_cons_of_mem _ m)
    refine ⟨c :: cs, by rw [e, e2]; rfl, fun d m => ?_⟩
    rcases List.mem_cons.mp m with rfl | m
    · exact q
    · exact q2 d m
theorem join_chars {cs : List Nat} {h : Hh} (hl : cs.length ≤ 16777216) : bmethD .join (.str []) [.lst (cs.map fun c => .str [c])] h = .ok (.str cs, h) := by
  have e : (cs.map fun c => D.str [c]) = (cs.map fun c => [c]).map D.str := by rw [List.map_map]; rfl
  have hk : okN ((((cs.map fun c => [c]).map List.length).sum + (cs.map fun c => [c]).length * ([] : List Nat).length)) = true := by
    have : ((cs.map fun c => [c]).map List.length).sum = cs.length := by
      clear hl e
      induction cs with
      | nil => rfl
      | cons c cs ih => simp at ih ⊢; omega
    rw [this]
    unfold okN
    simp
    omega
  rw [e]
  simp only [bmethD, mJoin, strs_map, ofO_some, Res.bind_ok]
  rw [hk, joinS_chars]
  rfl
end Z9

set_option Elab.async false
set_option linter.all false
set_option maxRecDepth 100000
set_option maxHeartbeats 4000000
/-! E19: loops that find, steps, whiles. -/
namespace Z9
open PySem PySem.Spec
def optD : D × Hh → Res (Option Int × Hh)
  | (.int i, h) => .ok (some i, h)
  | _ => .no
@[simp] theorem optD_i (i h) : optD (.int i, h) = .ok (some i, h) := rfl
@[simp] theorem evO_e (G : Gam) (r : Z9.Env) (h : Hh) (e : Ex) : evO G (.some e) r h = (evE G e r h).bind optD := by
  simp only [evO]
  congr 1
  funext p
  obtain ⟨d, h⟩ := p
  cases d <;> rfl
/-- a for that finds something -/
theorem forD_find {f : D → Z9.Env → Hh → Res Out} {I : Z9.Env → Prop} {h : Hh} {d : D} {Bad : D → Prop} : ∀ {xs : List D} {r : Z9.Env}, (∀ x ∈ xs, ∀ r, I r → (Bad x → f x r h = .ok (.rt d h)) ∧ (¬ Bad x → ∃ r', f x r h = .ok (.nx r' h) ∧ I r')) → I r → (∃ x ∈ xs, Bad x) → forD f xs r h = .ok (.rt d h)
  | [], r, _, _, hx => by
    obtain ⟨x, m, _⟩ := hx
    cases m
  | x :: xs, r, hf, hi, hx => by
    by_cases hb : Bad x
    · simp only [forD, (hf x List.mem_cons_self r hi).1 hb]
    · obtain ⟨r', e, i'⟩ := (hf x List.mem_cons_self r hi).2 hb
      simp only [forD, e]
      refine forD_find (fun y m => hf y (List.mem_cons_of_mem _ m)) i' ?_
      obtain ⟨y, m, hy⟩ := hx
      rcases List.mem_cons.mp m with rfl | m
      · exact absurd hy hb
      · exact ⟨y, m, hy⟩
theorem step {G : Gam} {C : Res Out → Prop} {s : Sm} {ss : Sms} {r r1 : Z9.Env} {h h1 : Hh} (e : evS G s r h = .ok (.nx r1 h1)) (k : C (evSs G ss r1 h1)) : C (evSs G (.cons s ss) r h) := by
  rw [evSs_c, e]
  exact k
theorem for_then {G : Gam} {C : Res Out → Prop} (I : Z9.Env → Hh → Prop) {t : Tg} {it : It} {b ss : Sms} {r : Z9.Env} {h h1 : Hh} {xs : List D} (e : evI G it r h = .ok (xs, h1)) (hi : I r h1)
    (hf : ∀ x ∈ xs, ∀ r h, I r h → ∃ r' h', (setT t x r).bs r (fun r2 => evSs G b r2 h) = .ok (.nx r' h') ∧ I r' h') (k : ∀ r' h', I r' h' → C (evSs G ss r' h')) : C (evSs G (.cons (.forr t it b) ss) r h) := by
  obtain ⟨r', h', e2, i⟩ := forD_inv hf hi
  rw [evSs_c, evS_for, e, Res.bs_ok, e2]
  exact k r' h' i
theorem pow30 : ∃ b : Int, binD .Pow (.int 10) (.int 30) = .ok (.int b) ∧ 1000 ≤ b := ⟨_, bin_pow (by decide), by decide⟩
theorem pow20 : ∃ b : Int, binD .Pow (.int 10) (.int 20) = .ok (.int b) ∧ 1000 ≤ b := ⟨_, bin_pow (by decide), by decide⟩
/-- a for that seeks -/
theorem forD_search {f : D → Z9.Env → Hh → Res Out} {I : Z9.Env → Prop} {h : Hh} {P : D → Bool} {V : D → D} : ∀ {xs : List D} {r : Z9.Env}, (∀ x ∈ xs, ∀ r, I r → (P x = true → f x r h = .ok (.rt (V x) h)) ∧ (P x = false → ∃ r', f x r h = .ok (.nx r' h) ∧ I r')) → I r →
    (∀ x, xs.find? P = some x → forD f xs r h = .ok (.rt (V x) h)) ∧ (xs.find? P = none → ∃ r', forD f xs r h = .ok (.nx r' h) ∧ I r')
  | [], r, _, hi => ⟨fun _ e => (by cases e), fun _ => ⟨r, rfl, hi⟩⟩
  | x :: xs, r, hf, hi => by
    have ih := fun r' i' => forD_search (xs := xs) (r := r') (fun y m => hf y (List.mem_cons_of_mem _ m)) i'
    cases hb : P x with
    | true =>
      have e := (hf x List.mem_cons_self r hi).1 hb
      refine ⟨fun y ey => ?_, fun ey => ?_⟩
      · rw [List.find?_cons, hb] at ey
        cases ey
        simp only [forD, e]
      · rw [List.find?_cons, hb] at ey
        cases ey
    | false =>
      obtain ⟨r', e, i'⟩ := (hf x List.mem_cons_self r hi).2 hb
      rw [List.find?_cons, hb]
      simp only [forD, e]
      exact ih r' i'
theorem whileD_eq {c : Z9.Env → Hh → Res (Bool × Hh)} {f : Z9.Env → Hh → Res Out} {r : Z9.Env} {h : Hh} {n : Nat} {R : Res Out} (e : whileN c f n r h = R) (hR : R ≠ .no) : whileD c f r h = R := by
  have ex : ∃ n, whileN c f n r h ≠ .no := ⟨n, by rw [e]; exact hR⟩
  unfold whileD
  rw [dif_pos ex]
  have h1 := Classical.choose_spec ex
  have key : ∀ m k r h, whileN c f m r h ≠ .no → whileN c f (m + k) r h = whileN c f m r h := by
    intro m
    induction m with
    | zero => intro k r h z; exact absurd rfl z
    | succ m ih =>
      intro k r h z
      rw [show m + 1 + k = (m + k) + 1 by omega]
      unfold whileN at z ⊢
      cases hc : c r h with
      | no => rfl
      | exc => rfl
      | ok b =>
        rw [hc] at z
        simp only [Res.bs_ok] at z ⊢
        cases hb : b.1 with
        | false => rfl
        | true =>
          rw [hb] at z
          simp only [if_true] at z ⊢
          cases hf : f r b.2 with
          | no => rfl
          | exc => rfl
          | ok o =>
            rw [hf] at z
            cases o with
            | nx r' h' => exact ih k r' h' z
            | ct r' h' => exact ih k r' h' z
            | bk => rfl
            | rt => rfl
            | ex => rfl
  rw [← key (Classical.choose ex) n r h h1, Nat.add_comm, key n (Classical.choose ex) r h (by rw [e]; exact hR), e]
end Z9

set_option Elab.async false
set_option linter.all false
set_option maxRecDepth 100000
set_option maxHeartbeats 4000000
/-! E20: what forms give, as terms: one rule a form. -/
namespace Z9
open PySem PySem.Spec
section
variable {G : Gam} {r : Z9.Env} {h h1 h2 h3 : Hh}
theorem dvr {i : Nat} {d : D} (e : r[i]? = some (some d)) : evE G (.var i) r h = .ok (d, h) := by
  rw [ev_var]
  unfold getV
  rw [e]
  rfl
theorem dcn (d : D) : evE G (.con d) r h = .ok (d, h) := ev_con _ _ _ _
theorem dgl {k : Nat} {d : D} (e : G.con k = some d) : evE G (.glob k) r h = .ok (d, h) := by
  rw [ev_glob, e]
  rfl
theorem dnn (i : Int) : evE G (.neg (.con (.int i))) r h = .ok (.int (-i), h) := ev_neg _ _ _ _
theorem dsn : evEs G .nil r h = .ok ([], h) := evEs_n _ _ _
theorem dsc {e : Ex} {es : Exs} {x : D} {xs : List D} (a : evE G e r h = .ok (x, h1)) (b : evEs G es r h1 = .ok (xs, h2)) : evEs G (.cons e es) r h = .ok (x :: xs, h2) := by
  rw [evEs_c, a, Res.bind_ok, b, Res.bind_ok]
theorem ds1 {e : Ex} {x : D} (a : evE G e r h = .ok (x, h1)) : evEs G (.cons e .nil) r h = .ok ([x], h1) := dsc a dsn
theorem ds2 {e e2 : Ex} {x y : D} (a : evE G e r h = .ok (x, h1)) (b : evE G e2 r h1 = .ok (y, h2)) : evEs G (.cons e (.cons e2 .nil)) r h = .ok ([x, y], h2) := dsc a (ds1 b)
theorem ds3 {e e2 e3 : Ex} {x y z : D} (a : evE G e r h = .ok (x, h1)) (b : evE G e2 r h1 = .ok (y, h2)) (c : evE G e3 r h2 = .ok (z, h3)) : evEs G (.cons e (.cons e2 (.cons e3 .nil))) r h = .ok ([x, y, z], h3) := dsc a (ds2 b c)
theorem dcall {k n : Nat} {g : Fn} {es : Exs} {xs : List D} (f : G.fn k = some (n, g)) (a : evEs G es r h = .ok (xs, h1)) (l : xs.length = n) : evE G (.call k es) r h = g xs h1 := by
  rw [ev_call (n := n) (g := g) _ _ _ f, a, Res.bind_ok, if_pos l]
theorem okN_of {n : Nat} (h : n ≤ 1000) : okN n = true := by
  unfold okN
  exact decide_eq_true (by omega)
theorem dtup {es : Exs} {xs : List D} (a : evEs G es r h = .ok (xs, h1)) (l : xs.length ≤ 1000) : evE G (.tup es) r h = .ok (.tup xs, h1) := by
  rw [ev_tup, a, Res.bind_ok, okN_of l]
  rfl
theorem dlst {es : Exs} {xs : List D} (a : evEs G es r h = .ok (xs, h1)) (l : xs.length ≤ 1000) : evE G (.lst es) r h = .ok (.lst xs, h1) := by
  rw [ev_lst, a, Res.bind_ok, okN_of l]
  rfl
theorem dbin {o : Operator} {a b : Ex} {x y z : D} (e1 : evE G a r h = .ok (x, h1)) (e2 : evE G b r h1 = .ok (y, h2)) (e3 : binD o x y = .ok z) : evE G (.bin o a b) r h = .ok (z, h2) := by
  rw [ev_bin, e1, Res.bind_ok, e2, Res.bind_ok, e3, Res.bind_ok]
theorem dcmp {o : CmpOp} {a b : Ex} {x y z : D} (e1 : evE G a r h = .ok (x, h1)) (e2 : evE G b r h1 = .ok (y, h2)) (e3 : cmpD o x y = .ok z) : evE G (.cmp o a b) r h = .ok (z, h2) := by
  rw [ev_cmp, e1, Res.bind_ok, e2, Res.bind_ok, e3, Res.bind_ok]
theorem dcmp2 {o o2 : CmpOp} {a b c : Ex} {x y z : D} {t u : Bool} (e1 : evE G a r h = .ok (x, h1)) (e2 : evE G b r h1 = .ok (y, h2)) (e3 : cmpD o x y = .ok (.bl t)) (e4 : evE G c r h2 = .ok (z, h2)) (e5 : cmpD o2 y z = .ok (.bl u)) : evE G (.cmp2 o o2 a b c) r h = .ok (.bl (t && u), h2) := by
  rw [ev_cmp2, e1, Res.bind_ok, e2, Res.bind_ok, e3, Res.bind_ok, boolD_bl, Res.bind_ok]
  cases t with
  | true => rw [if_pos rfl, e4, Res.bind_ok, e5, Res.bind_ok]; rfl
  | false => rw [if_neg Bool.false_ne_true]; rfl
theorem dnot {a : Ex} {b : Bool} (e1 : evE G a r h = .ok (.bl b, h1)) : evE G (.not a) r h = .ok (.bl (!b), h1) := by
  rw [ev_not, e1, Res.bind_ok, boolD_bl, Res.bind_ok]
theorem da1 {k : Bool} {a : Ex} {b : Bool} (e1 : evE G a r h = .ok (.bl b, h1)) : evA G k (.cons a .nil) r h = .ok (.bl b, h1) := by
  rw [evA_1, e1, Res.bind_ok, boolD_bl, Res.bind_ok]
theorem dat {k : Bool} {a a2 : Ex} {as : Exs} {R : Res (D × Hh)} (e1 : evE G a r h = .ok (.bl k, h1)) (e2 : evA G k (.cons a2 as) r h1 = R) : evA G k (.cons a (.cons a2 as)) r h = R := by
  rw [evA_2, e1, Res.bind_ok, boolD_bl, Res.bind_ok, if_pos rfl, e2]
theorem dax {k b : Bool} {a a2 : Ex} {as : Exs} (e1 : evE G a r h = .ok (.bl b, h1)) (n : b ≠ k) : evA G k (.cons a (.cons a2 as)) r h = .ok (.bl b, h1) := by
  rw [evA_2, e1, Res.bind_ok, boolD_bl, Res.bind_ok, if_neg n]
theorem dand {es : Exs} {R : Res (D × Hh)} (e : evA G true es r h = R) : evE G (.and es) r h = R := by rw [ev_and, e]
theorem dor {es : Exs} {R : Res (D × Hh)} (e : evA G false es r h = R) : evE G (.or es) r h = R := by rw [ev_or, e]
/-- and of two, where both may be asked -/
theorem dand2 {a a2 : Ex} {b c : Bool} (e1 : evE G a r h = .ok (.bl b, h)) (e2 : b = true → evE G a2 r h = .ok (.bl c, h)) : evE G (.and (.cons a (.cons a2 .nil))) r h = .ok (.bl (b && c), h) := by
  cases b with
  | true => exact dand (dat e1 (da1 (e2 rfl)))
  | false => exact dand (dax e1 Bool.false_ne_true)
theorem dor2 {a a2 : Ex} {b c : Bool} (e1 : evE G a r h = .ok (.bl b, h)) (e2 : b = false → evE G a2 r h = .ok (.bl c, h)) : evE G (.or (.cons a (.cons a2 .nil))) r h = .ok (.bl (b || c), h) := by
  cases b with
  | false => exact dor (dat e1 (da1 (e2 rfl)))
  | true => exact dor (dax e1 (fun z => by cases z))
theorem dif_t {c a b : Ex} {R : Res (D × Hh)} (e1 : evE G c r h = .ok (.bl true, h1)) (e2 : evE G a r h1 = R) : evE G (.ife c a b) r h = R := by
  rw [ev_ife, e1, Res.bind_ok, boolD_bl, Res.bind_ok, if_pos rfl, e2]
theorem dif_f {c a b : Ex} {R : Res (D × Hh)} (e1 : evE G c r h = .ok (.bl false, h1)) (e2 : evE G b r h1 = R) : evE G (.ife c a b) r h = R := by
  rw [ev_ife, e1, Res.bind_ok, boolD_bl, Res.bind_ok, if_neg Bool.false_ne_true, e2]
theorem dix {a i : Ex} {x y z : D} (e1 : evE G a r h = .ok (x, h1)) (e2 : evE G i r h1 = .ok (y, h2)) (e3 : ixD h2 x y = .ok z) : evE G (.ix a i) r h = .ok (z, h2) := by
  rw [ev_ix, e1, Res.bind_ok, e2, Res.bind_ok, e3, Res.bind_ok]
theorem don : evO G .none r h = .ok (none, h) := evO_n _ _ _
theorem dos {e : Ex} {i : Int} (a : evE G e r h = .ok (.int i, h1)) : evO G (.some e) r h = .ok (some i, h1) := evO_s _ _ _ a
theorem dsl {a : Ex} {lo hi : Ox} {x z : D} {u v : Option Int} (e1 : evE G a r h = .ok (x, h1)) (e2 : evO G lo r h1 = .ok (u, h2)) (e3 : evO G hi r h2 = .ok (v, h3)) (e4 : slD h3 x u v = .ok z) : evE G (.sl a lo hi) r h = .ok (z, h3) := by
  rw [ev_sl, e1, Res.bind_ok, e2, Res.bind_ok, e3, Res.bind_ok, e4, Res.bind_ok]
theorem disi {a : Ex} {t : Ty} {x z : D} (e1 : evE G a r h = .ok (x, h1)) (e2 : isiD h1 x t = .ok z) : evE G (.isi a t) r h = .ok (z, h1) := by
  rw [ev_isi, e1, Res.bind_ok, e2, Res.bind_ok]
theorem dbc {f : BF} {es : Exs} {xs : List D} {z : D} (e1 : evEs G es r h = .ok (xs, h1)) (e2 : bcallD f xs h1 = .ok z) : evE G (.bcall f es) r h = .ok (z, h1) := by
  rw [ev_bcall, e1, Res.bind_ok, e2, Res.bind_ok]
theorem dbm {m : BM} {a : Ex} {es : Exs} {x : D} {xs : List D} {R : Res (D × Hh)} (e1 : evE G a r h = .ok (x, h1)) (k : recvD h1 m x = true) (e2 : evEs G es r h1 = .ok (xs, h2)) (e3 : bmethD m x xs h2 = R) : evE G (.bmeth m a es) r h = R := by
  rw [ev_bmeth, e1, Res.bind_ok, if_pos k, e2, Res.bind_ok, e3]
theorem drange {e : Ex} {n : Nat} (a : evE G e r h = .ok (.int (n : Int), h1)) (hn : n ≤ 1000) : evI G (.range e) r h = .ok ((List.range n).map fun (i : Nat) => .int (i : Int), h1) := by
  have h1 : (0 : Int) ≤ (n : Int) := Int.natCast_nonneg n
  have h2 : (n : Int) ≤ 1000 := by omega
  have h3 : (n : Int) < 1099511627776 := Int.lt_of_le_of_lt h2 (by decide)
  rw [evI_rng, a, Res.bind_ok, rangeD_n h1 h3, Int.toNat_natCast]
theorem dlc {elt : Ex} {t : Tg} {it : It} {ifs : Exs} {own : List Nat} {xs ys : List D} (a : evI G it r h = .ok (xs, h1))
    (b : lcD (fun x h1 => (setT t x (wipeE r own)).bind fun r1 => (evTs G ifs r1 h1).bind fun b => if b.1 then (evE G elt r1 b.2).bind fun y => .ok (some y.1, y.2) else .ok (none, b.2)) xs [] h1 = .ok (ys, h2)) : evE G (.lc false elt t it ifs own) r h = .ok (.lst ys, h2) := by
  rw [ev_lc, a, Res.bind_ok, b, Res.bind_ok, if_neg Bool.false_ne_true]
theorem lc1000 {f : D → Hh → Res (Option D × Hh)} {F : D → Option D} {h : Hh} {xs : List D} (hf : ∀ x ∈ xs, f x h = .ok (F x, h)) (hl : xs.length ≤ 1000) : lcD f xs [] h = .ok (xs.filterMap F, h) := by
  have : ([] : List D).length + xs.length ≤ 16777216 := by
    rw [List.length_nil, Nat.zero_add]
    exact Nat.le_trans hl (by decide)
  have := lcD_map (acc := []) hf this
  rwa [List.nil_append] at this
/-! statements -/
theorem sset {i : Nat} {e : Ex} {d : D} (a : evE G e r h = .ok (d, h1)) : evS G (.set i e) r h = .ok (.nx (r.set i (some d)) h1) := by rw [evS_set, a, Res.bs_ok]
theorem spar {i j : Nat} {es : Exs} {x y : D} (a : evEs G es r h = .ok ([x, y], h1)) : evS G (.par i j es) r h = .ok (.nx ((r.set i (some x)).set j (some y)) h1) := by
  simp only [evS]
  rw [a, Res.bs_ok]
  rfl
theorem sasg {t : Tg} {e : Ex} {d : D} {r1 : Z9.Env} (a : evE G e r h = .ok (d, h1)) (b : setT t d r = .ok r1) : evS G (.asg t e) r h = .ok (.nx r1 h1) := by rw [evS_asg, a, Res.bs_ok, b, Res.bs_ok]
theorem sexp {e : Ex} {d : D} (a : evE G e r h = .ok (d, h1)) : evS G (.expr e) r h = .ok (.nx r h1) := by rw [evS_expr, a, Res.bs_ok]
theorem sret {e : Ex} {d : D} (a : evE G e r h = .ok (d, h1)) : evS G (.ret e) r h = .ok (.rt d h1) := by rw [evS_ret, a, Res.bs_ok]
theorem sit {c : Ex} {x y : Sms} {R : Res Out} (a : evE G c r h = .ok (.bl true, h1)) (b : evSs G x r h1 = R) : evS G (.iff c x y) r h = R := by rw [evS_iff, a, Res.bs_ok, boolD_bl, Res.bs_ok, if_pos rfl, b]
theorem sif {c : Ex} {x y : Sms} {R : Res Out} (a : evE G c r h = .ok (.bl false, h1)) (b : evSs G y r h1 = R) : evS G (.iff c x y) r h = R := by rw [evS_iff, a, Res.bs_ok, boolD_bl, Res.bs_ok, if_neg Bool.false_ne_true, b]
theorem sif0 {c : Ex} {x : Sms} (a : evE G c r h = .ok (.bl false, h1)) : evS G (.iff c x .nil) r h = .ok (.nx r h1) := sif a (evSs_n _ _ _)
theorem qnx {s : Sm} {ss : Sms} {r1 : Z9.Env} {R : Res Out} (a : evS G s r h = .ok (.nx r1 h1)) (b : evSs G ss r1 h1 = R) : evSs G (.cons s ss) r h = R := by rw [evSs_c, a, Res.bind_ok, thenS_nx, b]
theorem qrt {s : Sm} {ss : Sms} {d : D} (a : evS G s r h = .ok (.rt d h1)) : evSs G (.cons s ss) r h = .ok (.rt d h1) := by rw [evSs_c, a, Res.bind_ok, thenS_rt]
theorem qex {s : Sm} {ss : Sms} {c : Nat} {xs : List D} {r1 : Z9.Env} (a : evS G s r h = .ok (.ex c xs r1 h1)) : evSs G (.cons s ss) r h = .ok (.ex c xs r1 h1) := by rw [evSs_c, a, Res.bind_ok, thenS_ex]
theorem qct {s : Sm} {ss : Sms} {r1 : Z9.Env} (a : evS G s r h = .ok (.ct r1 h1)) : evSs G (.cons s ss) r h = .ok (.ct r1 h1) := by rw [evSs_c, a, Res.bind_ok, thenS_ct]
theorem qbk {s : Sm} {ss : Sms} {r1 : Z9.Env} (a : evS G s r h = .ok (.bk r1 h1)) : evSs G (.cons s ss) r h = .ok (.bk r1 h1) := by rw [evSs_c, a, Res.bind_ok, thenS_bk]
theorem qn : evSs G .nil r h = .ok (.nx r h) := evSs_n _ _ _
theorem run_rt {n : Nat} {b : Sms} {xs : List D} {d : D} {e : Z9.Env} (k : e = xs.map some ++ List.replicate (n - xs.length) none) (a : evSs G b e h = .ok (.rt d h1)) : runD G n b xs h = .ok (d, h1) := by
  rw [runD_eq, ← k, a, endD_rt]
theorem run_nx {n : Nat} {b : Sms} {xs : List D} {e r1 : Z9.Env} (k : e = xs.map some ++ List.replicate (n - xs.length) none) (a : evSs G b e h = .ok (.nx r1 h1)) : runD G n b xs h = .ok (.non, h1) := by
  rw [runD_eq, ← k, a, endD_nx]
theorem run_ex {n c : Nat} {b : Sms} {xs ys : List D} {e r1 : Z9.Env} (k : e = xs.map some ++ List.replicate (n - xs.length) none) (a : evSs G b e h = .ok (.ex c ys r1 h1)) : runD G n b xs h = .exc c ys h1 := by
  rw [runD_eq, ← k, a, endD_ex]
/-- the run of a for over numbers, that seeks -/
theorem forD_seek {b : Sms} {i : Nat} {I : Z9.Env → Prop} {P : Nat → Bool} {V : Nat → D} : ∀ {ns : List Nat} {r : Z9.Env}, (∀ q ∈ ns, ∀ r, I r → (P q = true → evSs G b (r.set i (some (.int (q : Int)))) h = .ok (.rt (V q) h)) ∧ (P q = false → ∃ r', evSs G b (r.set i (some (.int (q : Int)))) h = .ok (.nx r' h) ∧ I r')) → I r →
    (∀ q, ns.find? P = some q → forD (fun x r1 h1 => (setT (.var i) x r1).bs r1 fun r2 => evSs G b r2 h1) (ns.map fun (m : Nat) => .int (m : Int)) r h = .ok (.rt (V q) h)) ∧
    (ns.find? P = none → ∃ r', forD (fun x r1 h1 => (setT (.var i) x r1).bs r1 fun r2 => evSs G b r2 h1) (ns.map fun (m : Nat) => .int (m : Int)) r h = .ok (.nx r' h) ∧ I r')
  | [], r, _, hi => ⟨fun _ e => (by cases e), fun _ => ⟨r, rfl, hi⟩⟩
  | q :: ns, r, hf, hi => by
    have ih := fun r' i' => forD_seek (ns := ns) (r := r') (fun y m => hf y (List.mem_cons_of_mem _ m)) i'
    rw [List.map_cons, List.find?_cons]
    unfold forD
    rw [setT_v, Res.bs_ok]
    cases hb : P q with
    | true =>
      rw [(hf q List.mem_cons_self r hi).1 hb]
      exact ⟨fun y ey => by cases ey; rfl, fun ey => by cases ey⟩
    | false =>
      obtain ⟨r', e, i'⟩ := (hf q List.mem_cons_self r hi).2 hb
      rw [e]
      exact ih r' i'
end
end Z9

set_option Elab.async false
set_option linter.all false
set_option maxRecDepth 100000
set_option maxHeartbeats 4000000
/-! E21: what the printed texts use for errors that are values. -/
namespace Z9
open PySem PySem.Spec PyProof.Rows L2 PySem.W NdefX

/-- a def in a class -/
def inCls (st : Stmt) (j : Nat) : Stmt := match st with
  | .ClassDef _ _ _ body _ _ _ _ _ _ _ => body.getD j (.Pass ⟨0, 0, 0, 0⟩)
  | s => s
/-- the one class of this name -/
def uniqCls (K : PySem.W.Frag) (c : Str) : Option Addr := match K.filter (fun p => match p.2.data with
    | .cls cd => cd.name == c
    | _ => false) with
  | [p] => some p.1
  | _ => none
theorem lookup_mem {α : Type} : ∀ {l : List (Addr × α)} {k : Addr} {a : α}, l.lookup k = some a → (k, a) ∈ l
  | [], _, _, h => by cases h
  | (j, b) :: l, k, a, h => by
    rw [List.lookup_cons] at h
    split at h
    · rename_i e
      cases h
      rw [eq_of_beq e]
      exact List.mem_cons_self
    · exact List.mem_cons_of_mem _ (lookup_mem h)
theorem uniq_of {K : PySem.W.Frag} {c : Str} {C C' : Addr} (u : uniqCls K c = some C) (h : clsNm K C' = some c) : C' = C := by
  unfold clsNm at h
  obtain ⟨cd, hc, hn⟩ := Option.map_eq_some_iff.mp h
  unfold clsIn at hc
  split at hc
  · rename_i e
    cases hc
    have m := lookup_mem e
    unfold uniqCls at u
    have mf : (C', _) ∈ K.filter (fun p => match p.2.data with
        | .cls cd => cd.name == c
        | _ => false) := List.mem_filter.mpr ⟨m, (by show (_ == c) = true; rw [hn]; exact beq_self_eq_true _)⟩
    split at u
    · rename_i p ep
      rw [ep] at mf
      cases u
      rw [← List.mem_singleton.mp mf]
    · cases u
  · cases hc
theorem kit_own {K : PySem.W.Frag} {C D : Addr} {b : Bool} (r : subIn K (.ref C) (.ref C) = some true) (s : subIn K (.ref C) (.ref D) = some b) (cl : (clsIn K D).isSome = true) (ty : typeIn K (.ref D) = some (.type "type")) : kitOne K (.ref C) (.ref D) = some b := by
  unfold kitOne
  split
  · rename_i e
    have : Value.ref C = .ref D := eq_of_beq e
    rw [← this, r] at s
    exact s
  · unfold kitCls
    simp only [cl, ty]
    exact s
theorem kit_blt {K : PySem.W.Frag} {C : Addr} {T : String} {b : Bool} (m : kitMeta T = true) (s : subIn K (.ref C) (.type T) = some b) : kitOne K (.ref C) (.type T) = some b := by
  unfold kitOne
  split
  · rename_i e
    cases (eq_of_beq e : Value.ref C = .type T)
  · unfold kitCls
    simp only [m, if_true]
    exact s
theorem ec_mk {K : PySem.W.Frag} {C : Addr} (cl : (clsIn K C).isSome = true) (hg : findIn K (.ref C) "__getattribute__" = some (some (.builtin "BaseException.__getattribute__"))) (hk : findIn K (.ref C) "__getattr__" = some none)
    (hs : subIn K (.ref C) (.type "BaseException") = some true) (hd : hasDictIn K C = true) (ha : findIn K (.ref C) "__class__" = some (some (.builtin "object.__class__"))) (hn : specialIn K (.builtin "object.__class__") "__get__" = some (some (.builtin "getset_descriptor.__get__")))
    (ht : takesIn K (.builtin "object.__class__") = some true) (hm : mroIn K C (.type "object") = some true) : EcK K C := ⟨cl, hg, hk, hs, hd, ha, hn, ht, hm⟩
/-- the text of such an __init__ -/
def supB (st : Stmt) (slf part fld : Str) : Bool :=
  (match (defScope st).kind with | .function => true | _ => false) && !(defScope st).isCoroutine && !(defScope st).isGenerator && decide ([slf, part, ("__class__" : Str)].Nodup)
  && decide ((defScope st).names.lookup slf = some .local) && decide ((defScope st).names.lookup part = some .local) && decide ((defScope st).names.lookup ("__class__" : Str) = some .free)
  && (defScope st).names.all (fun y => decide (y.2 ≠ .cell) && (decide (y.2 ≠ .free) || y.1 == ("__class__" : Str)))
  && decide ((defScope st).names.lookup ("super" : Str) = some .globalImplicit)
  && (match ((defArgs st).posonlyargs ++ (defArgs st).args).head? with | some ar => ar.arg == slf | none => false)
  && okNm slf && okNm part
  && (match defBody st with
    | [.Expr (.Call (.Attribute (.Call (.Name sp _) [] [] _) ini p2) [.Name pt _] [] p4) _, .Assign [.Attribute (.Name s _) fl _] (.Name pt2 _) _] =>
      sp == ("super" : Str) && ini == ("__init__" : Str) && pt == part && s == slf && fl == fld && pt2 == part && p2.endLine == p4.line
    | _ => false)
theorem sup_of {P : Program} {K : PySem.W.Frag} {mg : Str → Option Value} {C f cell c : Addr} {st : Stmt} {slf part fld q : Str} {oI ocd : Value} {dI od : Option Addr} {slI sl : Array (Option Value)} {doc pm ct : Value} {vs : Array Value} {file : Str} {tf : Tok}
    {occ : Value} {occd : Option Addr} {occs : Array (Option Value)}
    (tx : supB st slf part fld = true) (lI : K.lookup f = some ⟨oI, dI, .func (fnX "__init__" q (defArgs st) (defBody st) (defScope st) [(("__class__" : Str), cell)] .none .none doc pm none (.ref c) ct), slI⟩)
    (cI : codeIn K (.ref c) q = true) (ce : K.lookup cell = some ⟨ocd, od, .cell (some (.ref C)), sl⟩) (co : K.lookup c = some ⟨occ, occd, .fields vs, occs⟩) (fi : vs[2]? = some (.str file tf)) (fe : (P.main.file == file) = true)
    (ns : (P.main.scope.names.lookup ("super" : Str)).isSome = false) (mgs : mg "super" = none) (oex : OexC K C) (sub : subIn K (.ref C) (.ref C) = some true) (sve : subIn K (.ref C) (.type "ValueError") = some true)
    (sup : ks_superIn K C C "__init__" = some (some (.builtin "ValueError.__init__"))) (opq : nsIn K cStatics "thirdparty.any" = some none) (exi : excInitIn K C bmVE "ValueError.__new__" = true) (fdf : findIn K (.ref C) fld = some none) :
    SupF P K mg C f ⟨"__init__", q, defArgs st, defBody st, defScope st, [(("__class__" : Str), cell)], c⟩ doc pm ct slf part fld := by
  unfold supB at tx
  simp only [Bool.and_eq_true, Bool.not_eq_true', decide_eq_true_eq] at tx
  obtain ⟨⟨⟨⟨⟨⟨⟨⟨⟨⟨⟨⟨t1, t2⟩, t3⟩, t4⟩, t5⟩, t6⟩, t7⟩, t8⟩, t9⟩, t10⟩, t11⟩, t12⟩, t13⟩ := tx
  have a1 := okNm_of t11
  have a2 := okNm_of t12
  have t8' := List.all_eq_true.mp t8
  refine ⟨⟨_, _, _, lI⟩, ⟨cell, _, _, _, rfl, ce⟩, cI, ⟨_, vs, file, tf, co, rfl, fi, fe⟩, ns, mgs, oex, sub, sve, sup, opq, exi, fdf, ⟨?_, t2, t3, t4, rfl, ?_, ?_, ?_, ?_⟩, t9, ?_, ⟨a1.1, a1.2.1⟩, ⟨a2.1, a2.2.1⟩, ?_⟩
  · show (defScope st).kind = _
    split at t1
    · assumption
    · cases t1
  · intro x m
    rcases List.mem_cons.mp m with rfl | m
    · exact t5
    · rw [List.mem_singleton.mp m]
      exact t6
  · intro y m
    have := t8' y m
    simp only [Bool.and_eq_true, decide_eq_true_eq] at this
    exact this.1
  · intro y m e
    have := t8' y m
    simp only [Bool.and_eq_true, Bool.or_eq_true, decide_eq_true_eq] at this
    rcases this.2 with h | h
    · exact absurd e h
    · rw [eq_of_beq h]
      exact List.mem_singleton.mpr rfl
  · intro x m
    rw [List.mem_singleton.mp m]
    exact t7
  · show ∃ ar, ((defArgs st).posonlyargs ++ (defArgs st).args).head? = some ar ∧ ar.arg = slf
    split at t10
    · rename_i ar e
      exact ⟨ar, e, eq_of_beq t10⟩
    · cases t10
  · show ∃ p0 p1 p2 p3 p4 p5 p6 p7 p8 p9, _ ∧ defBody st = _
    split at t13
    · rename_i e
      simp only [Bool.and_eq_true] at t13
      obtain ⟨⟨⟨⟨⟨⟨b1, b2⟩, b3⟩, b4⟩, b5⟩, b6⟩, b7⟩ := t13
      rw [e, eq_of_beq b1, eq_of_beq b2, eq_of_beq b3, eq_of_beq b4, eq_of_beq b5, eq_of_beq b6]
      exact ⟨_, _, _, _, _, _, _, _, _, _, b7, rfl⟩
    · cases t13
end Z9

set_option Elab.async false
set_option linter.all false
set_option maxRecDepth 100000
set_option maxHeartbeats 4000000
/-! E22: what forms give, by what is asked of it: one rule a form. -/
namespace Z9
open PySem PySem.Spec
/-- Q of what it gives, E of what it raises -/
def WP {α : Type} (R : Res (α × Hh)) (Q : α → Hh → Prop) (E : Nat → List D → Hh → Prop) : Prop := match R with
  | .ok p => Q p.1 p.2
  | .exc c xs h => E c xs h
  | .no => False
/-- Q of what an operation gives -/
def WD {α : Type} (R : Res α) (Q : α → Prop) : Prop := match R with
  | .ok d => Q d
  | _ => False
/-- nothing is raised -/
abbrev noE : Nat → List D → Hh → Prop := fun _ _ _ => False
section
variable {α β : Type} {E : Nat → List D → Hh → Prop}
theorem WP.bind {x : Res (α × Hh)} {f : α × Hh → Res (β × Hh)} {Q : β → Hh → Prop} (a : WP x (fun a h => WP (f (a, h)) Q E) E) : WP (x.bind f) Q E := by
  cases x with
  | ok p => exact a
  | exc => exact a
  | no => exact a
theorem WD.bind {x : Res α} {f : α → Res (β × Hh)} {Q : β → Hh → Prop} (a : WD x (fun d => WP (f d) Q E)) : WP (x.bind f) Q E := by
  cases x with
  | ok p => exact a
  | exc => exact a.elim
  | no => exact a.elim
theorem WP.mono {x : Res (α × Hh)} {Q Q' : α → Hh → Prop} {E E' : Nat → List D → Hh → Prop} (a : WP x Q E) (q : ∀ d h, Q d h → Q' d h) (e : ∀ c xs h, E c xs h → E' c xs h) : WP x Q' E' := by
  cases x with
  | ok p => exact q _ _ a
  | exc => exact e _ _ _ a
  | no => exact a
theorem WP.imp {x : Res (α × Hh)} {Q Q' : α → Hh → Prop} (a : WP x Q noE) (q : ∀ d h, Q d h → Q' d h) : WP x Q' E := a.mono q (fun _ _ _ z => z.elim)
theorem WP.eq {x : Res (α × Hh)} {X : α} {H : Hh} (a : WP x (fun d h => d = X ∧ h = H) noE) : x = .ok (X, H) := by
  cases x with
  | ok p =>
    obtain ⟨a1, a2⟩ := p
    obtain ⟨rfl, rfl⟩ := a
    rfl
  | exc => exact a.elim
  | no => exact a.elim
theorem WP.ex {x : Res (α × Hh)} {Q : α → Hh → Prop} (a : WP x Q noE) : ∃ d h, x = .ok (d, h) ∧ Q d h := by
  cases x with
  | ok p => exact ⟨_, _, rfl, a⟩
  | exc => exact a.elim
  | no => exact a.elim
theorem w_eq {R : Res (α × Hh)} {d : α} {h : Hh} {Q : α → Hh → Prop} (e : R = .ok (d, h)) (q : Q d h) : WP R Q E := by rw [e]; exact q
theorem w_exc {R : Res (α × Hh)} {c : Nat} {xs : List D} {h : Hh} {Q : α → Hh → Prop} (e : R = .exc c xs h) (q : E c xs h) : WP R Q E := by rw [e]; exact q
theorem wd {R : Res α} {d : α} {Q : α → Prop} (e : R = .ok d) (q : Q d) : WD R Q := by rw [e]; exact q
end
section
variable {G : Gam} {r : Z9.Env} {h : Hh} {Q : D → Hh → Prop} {E : Nat → List D → Hh → Prop}
theorem w_var {i : Nat} {d : D} (e : r[i]? = some (some d)) (q : Q d h) : WP (evE G (.var i) r h) Q E := w_eq (dvr e) q
theorem w_con {d : D} (q : Q d h) : WP (evE G (.con d) r h) Q E := w_eq (dcn d) q
theorem w_glob {k : Nat} {d : D} (e : G.con k = some d) (q : Q d h) : WP (evE G (.glob k) r h) Q E := w_eq (dgl e) q
theorem w_dic0 (q : Q (.dic [] []) h) : WP (evE G .dic0 r h) Q E := w_eq (ev_dic0 _ _ _) q
theorem w_neg {i : Int} (q : Q (.int (-i)) h) : WP (evE G (.neg (.con (.int i))) r h) Q E := w_eq (dnn i) q
theorem w_sn {Q : List D → Hh → Prop} (q : Q [] h) : WP (evEs G .nil r h) Q E := w_eq dsn q
theorem w_sc {e : Ex} {es : Exs} {Q : List D → Hh → Prop} (a : WP (evE G e r h) (fun x h1 => WP (evEs G es r h1) (fun xs h2 => Q (x :: xs) h2) E) E) : WP (evEs G (.cons e es) r h) Q E := by
  rw [evEs_c]
  exact .bind (a.mono (fun x h1 b => .bind (b.mono (fun _ _ q => q) (fun _ _ _ z => z))) (fun _ _ _ z => z))
theorem w_tup {es : Exs} (a : WP (evEs G es r h) (fun xs h1 => xs.length ≤ 1000 ∧ Q (.tup xs) h1) E) : WP (evE G (.tup es) r h) Q E := by
  rw [ev_tup]
  exact .bind (a.mono (fun xs h1 q => by rw [okN_of q.1]; exact q.2) (fun _ _ _ z => z))
theorem w_lst {es : Exs} (a : WP (evEs G es r h) (fun xs h1 => xs.length ≤ 1000 ∧ Q (.lst xs) h1) E) : WP (evE G (.lst es) r h) Q E := by
  rw [ev_lst]
  exact .bind (a.mono (fun xs h1 q => by rw [okN_of q.1]; exact q.2) (fun _ _ _ z => z))
theorem w_newl {es : Exs} (a : WP (evEs G es r h) (fun xs h1 => xs.length ≤ 1000 ∧ Q (.ref h1.length) (h1 ++ [.lst xs])) E) : WP (evE G (.newl es) r h) Q E := by
  rw [ev_newl]
  exact .bind (a.mono (fun xs h1 q => by rw [okN_of q.1]; exact q.2) (fun _ _ _ z => z))
theorem w_bin {o : Operator} {a b : Ex} (e : WP (evE G a r h) (fun x h1 => WP (evE G b r h1) (fun y h2 => WD (binD o x y) fun d => Q d h2) E) E) : WP (evE G (.bin o a b) r h) Q E := by
  rw [ev_bin]
  exact .bind (e.mono (fun x h1 f => .bind (f.mono (fun y h2 w => WD.bind w) (fun _ _ _ z => z))) (fun _ _ _ z => z))
theorem w_cmp {o : CmpOp} {a b : Ex} (e : WP (evE G a r h) (fun x h1 => WP (evE G b r h1) (fun y h2 => WD (cmpD o x y) fun d => Q d h2) E) E) : WP (evE G (.cmp o a b) r h) Q E := by
  rw [ev_cmp]
  exact .bind (e.mono (fun x h1 f => .bind (f.mono (fun y h2 w => WD.bind w) (fun _ _ _ z => z))) (fun _ _ _ z => z))
theorem boolW {d : D} {b : Bool} {α : Type} {f : Bool → Res (α × Hh)} {Q : α → Hh → Prop} (e : d = .bl b) (a : WP (f b) Q E) : WP ((boolD d).bind f) Q E := by rw [e, boolD_bl, Res.bind_ok]; exact a
/-- a two-fold comparison whose last part is asked of the state as it stands -/
theorem w_cmp2 {o o2 : CmpOp} {a b c : Ex} (e : WP (evE G a r h) (fun x h1 => WP (evE G b r h1) (fun y h2 => WD (cmpD o x y) fun d => ∃ t, d = .bl t ∧ WP (evE G c r h2) (fun z h3 => h3 = h2 ∧ WD (cmpD o2 y z) fun d2 => ∃ u, d2 = .bl u ∧ Q (.bl (t && u)) h2) noE) E) E) : WP (evE G (.cmp2 o o2 a b c) r h) Q E := by
  rw [ev_cmp2]
  refine .bind (e.mono (fun x h1 f => .bind (f.mono (fun y h2 w => WD.bind ?_) (fun _ _ _ z => z))) (fun _ _ _ z => z))
  show WD (cmpD o x y) _
  cases hc : cmpD o x y with
  | ok d =>
    rw [hc] at w
    obtain ⟨t, rfl, w⟩ := w
    refine boolW rfl ?_
    cases t with
    | true =>
      rw [if_pos rfl]
      refine .bind (w.mono (fun z h3 k => ?_) (fun _ _ _ z => z.elim))
      obtain ⟨rfl, k⟩ := k
      refine WD.bind ?_
      show WD (cmpD o2 y z) _
      cases hc2 : cmpD o2 y z with
      | ok d =>
        rw [hc2] at k
        obtain ⟨u, rfl, k⟩ := k
        rw [Bool.true_and] at k
        exact k
      | exc => rw [hc2] at k; exact k.elim
      | no => rw [hc2] at k; exact k.elim
    | false =>
      rw [if_neg Bool.false_ne_true]
      cases he : evE G c r h2 with
      | ok p =>
        rw [he] at w
        obtain ⟨_, k⟩ := w
        cases hc2 : cmpD o2 y p.1 with
        | ok d =>
          rw [hc2] at k
          obtain ⟨u, rfl, k⟩ := k
          rw [Bool.false_and] at k
          exact k
        | exc => rw [hc2] at k; exact k.elim
        | no => rw [hc2] at k; exact k.elim
      | exc c xs hh => rw [he] at w; exact w.elim
      | no => rw [he] at w; exact w.elim
  | exc => rw [hc] at w; exact w.elim
  | no => rw [hc] at w; exact w.elim

def isNon : D → Bool
  | .non => true
  | _ => false
theorem w_isn {a : Ex} (e : WP (evE G a r h) (fun x h1 => Q (.bl (isNon x)) h1) E) : WP (evE G (.isn a) r h) Q E := by
  simp only [evE]
  refine .bind (e.mono (fun x h1 q => ?_) (fun _ _ _ z => z))
  cases x <;> exact q
theorem w_notn {a : Ex} (e : WP (evE G a r h) (fun x h1 => Q (.bl (!isNon x)) h1) E) : WP (evE G (.notn a) r h) Q E := by
  simp only [evE]
  refine .bind (e.mono (fun x h1 q => ?_) (fun _ _ _ z => z))
  cases x <;> exact q
theorem w_and {es : Exs} (e : WP (evA G true es r h) Q E) : WP (evE G (.and es) r h) Q E := by rw [ev_and]; exact e
theorem w_or {es : Exs} (e : WP (evA G false es r h) Q E) : WP (evE G (.or es) r h) Q E := by rw [ev_or]; exact e
theorem w_a1 {k : Bool} {a : Ex} (e : WP (evE G a r h) (fun x h1 => ∃ b, x = .bl b ∧ Q (.bl b) h1) E) : WP (evA G k (.cons a .nil) r h) Q E := by
  rw [evA_1]
  refine .bind (e.mono (fun x h1 q => ?_) (fun _ _ _ z => z))
  obtain ⟨b, rfl, q⟩ := q
  exact boolW rfl q
theorem w_a2 {k : Bool} {a a2 : Ex} {as : Exs} (e : WP (evE G a r h) (fun x h1 => ∃ b, x = .bl b ∧ (b = k → WP (evA G k (.cons a2 as) r h1) Q E) ∧ (b = (!k) → Q (.bl (!k)) h1)) E) : WP (evA G k (.cons a (.cons a2 as)) r h) Q E := by
  rw [evA_2]
  refine .bind (e.mono (fun x h1 q => ?_) (fun _ _ _ z => z))
  obtain ⟨b, rfl, q1, q2⟩ := q
  refine boolW rfl ?_
  by_cases hb : b = k
  · rw [if_pos hb]
    exact q1 hb
  · rw [if_neg hb]
    have : b = (!k) := by cases b <;> cases k <;> first | rfl | exact absurd rfl hb
    rw [this]
    exact q2 this
theorem w_not {a : Ex} (e : WP (evE G a r h) (fun x h1 => ∃ b, x = .bl b ∧ Q (.bl (!b)) h1) E) : WP (evE G (.not a) r h) Q E := by
  rw [ev_not]
  refine .bind (e.mono (fun x h1 q => ?_) (fun _ _ _ z => z))
  obtain ⟨b, rfl, q⟩ := q
  exact boolW rfl q
theorem w_ife {c a b : Ex} (e : WP (evE G c r h) (fun x h1 => ∃ t, x = .bl t ∧ (t = true → WP (evE G a r h1) Q E) ∧ (t = false → WP (evE G b r h1) Q E)) E) : WP (evE G (.ife c a b) r h) Q E := by
  rw [ev_ife]
  refine .bind (e.mono (fun x h1 q => ?_) (fun _ _ _ z => z))
  obtain ⟨t, rfl, q1, q2⟩ := q
  refine boolW rfl ?_
  cases t with
  | true => rw [if_pos rfl]; exact q1 rfl
  | false => rw [if_neg Bool.false_ne_true]; exact q2 rfl
theorem w_ix {a i : Ex} (e : WP (evE G a r h) (fun x h1 => WP (evE G i r h1) (fun y h2 => WD (ixD h2 x y) fun d => Q d h2) E) E) : WP (evE G (.ix a i) r h) Q E := by
  rw [ev_ix]
  exact .bind (e.mono (fun x h1 f => .bind (f.mono (fun y h2 w => WD.bind w) (fun _ _ _ z => z))) (fun _ _ _ z => z))
theorem w_on {Q : Option Int → Hh → Prop} (q : Q none h) : WP (evO G .none r h) Q E := w_eq don q
theorem w_os {e : Ex} {Q : Option Int → Hh → Prop} (a : WP (evE G e r h) (fun d h1 => ∃ i, d = .int i ∧ Q (some i) h1) E) : WP (evO G (.some e) r h) Q E := by
  simp only [evO]
  refine .bind (a.mono (fun x h1 q => ?_) (fun _ _ _ z => z))
  obtain ⟨i, rfl, q⟩ := q
  exact q
theorem w_sl {a : Ex} {lo hi : Ox} (e : WP (evE G a r h) (fun x h1 => WP (evO G lo r h1) (fun u h2 => WP (evO G hi r h2) (fun v h3 => WD (slD h3 x u v) fun d => Q d h3) E) E) E) : WP (evE G (.sl a lo hi) r h) Q E := by
  rw [ev_sl]
  exact .bind (e.mono (fun x h1 f => .bind (f.mono (fun u h2 f => .bind (f.mono (fun v h3 w => WD.bind w) (fun _ _ _ z => z))) (fun _ _ _ z => z))) (fun _ _ _ z => z))
theorem w_isi {a : Ex} {t : Ty} (e : WP (evE G a r h) (fun x h1 => WD (isiD h1 x t) fun d => Q d h1) E) : WP (evE G (.isi a t) r h) Q E := by
  rw [ev_isi]
  exact .bind (e.mono (fun x h1 w => WD.bind w) (fun _ _ _ z => z))
theorem w_fld {a : Ex} {n : Str} (e : WP (evE G a r h) (fun x h1 => WD (fldD G h1 x n) fun d => Q d h1) E) : WP (evE G (.fld a n) r h) Q E := by
  rw [ev_fld]
  exact .bind (e.mono (fun x h1 w => WD.bind w) (fun _ _ _ z => z))
theorem w_isc {a : Ex} {k : Nat} (e : WP (evE G a r h) (fun x h1 => WD (iscD G x k) fun d => Q d h1) E) : WP (evE G (.isc a k) r h) Q E := by
  rw [ev_isc]
  exact .bind (e.mono (fun x h1 w => WD.bind w) (fun _ _ _ z => z))
theorem w_bcall {f : BF} {es : Exs} (e : WP (evEs G es r h) (fun xs h1 => WD (bcallD f xs h1) fun d => Q d h1) E) : WP (evE G (.bcall f es) r h) Q E := by
  rw [ev_bcall]
  exact .bind (e.mono (fun x h1 w => WD.bind w) (fun _ _ _ z => z))
theorem w_bmeth {m : BM} {a : Ex} {es : Exs} (e : WP (evE G a r h) (fun x h1 => recvD h1 m x = true ∧ WP (evEs G es r h1) (fun xs h2 => WP (bmethD m x xs h2) Q E) E) E) : WP (evE G (.bmeth m a es) r h) Q E := by
  rw [ev_bmeth]
  refine .bind (e.mono (fun x h1 w => ?_) (fun _ _ _ z => z))
  show WP (if _ then _ else _) _ _
  rw [if_pos w.1]
  exact .bind w.2
theorem w_call {k n : Nat} {g : Fn} {es : Exs} (f : G.fn k = some (n, g)) (e : WP (evEs G es r h) (fun xs h1 => xs.length = n ∧ WP (g xs h1) Q E) E) : WP (evE G (.call k es) r h) Q E := by
  rw [ev_call _ _ _ f]
  refine .bind (e.mono (fun x h1 w => ?_) (fun _ _ _ z => z))
  show WP (if _ then _ else _) _ _
  rw [if_pos w.1]
  exact w.2
theorem w_new {k n : Nat} {c : Str} {g : Fn} {es : Exs} (f : G.ini k = some (n, c, g)) (e : WP (evEs G es r h) (fun xs h1 => xs.length = n ∧ WP (g (.ref h1.length :: xs) (h1 ++ [.ins c [] []])) (fun d h2 => d = .non ∧ Q (.ref h1.length) h2) E) E) : WP (evE G (.new k es) r h) Q E := by
  simp only [evE, f]
  refine .bind (e.mono (fun x h1 w => ?_) (fun _ _ _ z => z))
  show WP (if _ then _ else _) _ _
  rw [if_pos w.1]
  refine .bind (w.2.mono (fun d h2 q => ?_) (fun _ _ _ z => z))
  obtain ⟨rfl, q⟩ := q
  exact q
theorem w_meth {a : Ex} {m : Str} {es : Exs} (e : WP (evE G a r h) (fun x h1 => ∃ n g, methD G h1 x m = some (n, g) ∧ WP (evEs G es r h1) (fun xs h2 => xs.length = n ∧ WP (g (x :: xs) h2) Q E) E) E) : WP (evE G (.meth a m es) r h) Q E := by
  simp only [evE]
  refine .bind (e.mono (fun x h1 w => ?_) (fun _ _ _ z => z))
  obtain ⟨n, g, e1, w⟩ := w
  simp only [e1]
  refine .bind (w.mono (fun x h1 w => ?_) (fun _ _ _ z => z))
  show WP (if _ then _ else _) _ _
  rw [if_pos w.1]
  exact w.2
theorem w_lof {e : Ex} (a : WP (evE G e r h) (fun x h1 => ∃ xs, (lookD h1 x = .lst xs ∨ lookD h1 x = .tup xs) ∧ Q (.ref h1.length) (h1 ++ [.lst xs])) E) : WP (evE G (.lof e) r h) Q E := by
  simp only [evE]
  refine .bind (a.mono (fun x h1 w => ?_) (fun _ _ _ z => z))
  obtain ⟨xs, k, q⟩ := w
  rcases k with k | k
  · simp only [k]; exact q
  · simp only [k]; exact q
theorem w_lor {e : Ex} (a : WP (evE G e r h) (fun x h1 => ∃ n : Nat, x = .int (n : Int) ∧ n ≤ 1000 ∧ Q (.lst ((List.range n).map fun (i : Nat) => .int (i : Int))) h1) E) : WP (evE G (.lor false e) r h) Q E := by
  simp only [evE]
  refine .bind (a.mono (fun x h1 w => ?_) (fun _ _ _ z => z))
  refine Exists.elim w fun n w => ?_
  have e0 := w.1
  have hn := w.2.1
  have q := w.2.2
  simp only [e0]
  have h1 : decide (-1000000 < (n : Int)) = true := decide_eq_true (by omega)
  have h2 : decide ((n : Int) < 1000000) = true := decide_eq_true (by omega)
  simp only [h1, h2, Bool.and_self, if_true, Bool.false_eq_true, if_false, Int.toNat_natCast, Int.zero_add]
  exact q
theorem w_sset {e : Ex} (a : WP (evE G e r h) (fun x h1 => WD (ssetD x) fun d => Q d h1) E) : WP (evE G (.sset e) r h) Q E := by
  simp only [evE]
  exact .bind (a.mono (fun x h1 w => WD.bind w) (fun _ _ _ z => z))
theorem refL_of {H : Hh} {i : Nat} {ys : List D} (e : H[i]? = some (.lst ys)) : refL H (.ref i) = some (i, ys) := by
  unfold refL
  simp only [e]
theorem w_inr {neg : Bool} {a b : Ex} (e : WP (evE G a r h) (fun x h1 => WP (evE G b r h1) (fun y h2 => ∃ i ys, y = .ref i ∧ h2[i]? = some (.lst ys) ∧ WD (cmpD (if neg then .NotIn else .In) x (.lst ys)) fun d => Q d h2) E) E) : WP (evE G (.inr neg a b) r h) Q E := by
  simp only [evE]
  refine .bind (e.mono (fun x h1 f => .bind (f.mono (fun y h2 w => ?_) (fun _ _ _ z => z))) (fun _ _ _ z => z))
  obtain ⟨i, ys, rfl, e1, w⟩ := w
  simp only [refL_of e1]
  exact WD.bind w
/-! what a loop goes through -/
theorem w_seq {e : Ex} {Q : List D → Hh → Prop} (a : WP (evE G e r h) (fun x h1 => ∃ xs, (x = .lst xs ∨ x = .tup xs) ∧ Q xs h1) E) : WP (evI G (.seq e) r h) Q E := by
  simp only [evI]
  refine .bind (a.mono (fun x h1 w => ?_) (fun _ _ _ z => z))
  obtain ⟨xs, k, q⟩ := w
  rcases k with rfl | rfl <;> exact q
theorem w_seqS {e : Ex} {Q : List D → Hh → Prop} (a : WP (evE G e r h) (fun x h1 => ∃ s, x = .str s ∧ Q (s.map fun c => .str [c]) h1) E) : WP (evI G (.seq e) r h) Q E := by
  simp only [evI]
  refine .bind (a.mono (fun x h1 w => ?_) (fun _ _ _ z => z))
  obtain ⟨xs, rfl, q⟩ := w
  exact q
theorem w_range {e : Ex} {Q : List D → Hh → Prop} (a : WP (evE G e r h) (fun x h1 => ∃ n : Nat, x = .int (n : Int) ∧ n ≤ 100000 ∧ Q ((List.range n).map fun (i : Nat) => .int (i : Int)) h1) E) : WP (evI G (.range e) r h) Q E := by
  simp only [evI]
  refine .bind (a.mono (fun x h1 w => ?_) (fun _ _ _ z => z))
  refine Exists.elim w fun n w => ?_
  have e0 := w.1
  have hn := w.2.1
  have q := w.2.2
  subst e0
  have h1 : decide (-1099511627776 < (n : Int)) = true := decide_eq_true (by omega)
  have h2 : decide ((n : Int) < 1099511627776) = true := decide_eq_true (by omega)
  simp only [h1, h2, Bool.and_self, ofB_true, Int.toNat_natCast, Int.zero_add]
  exact q
/-! comprehensions: an invariant of what is left, what is there, the state -/
theorem lcD_run {f : D → Hh → Res (Option D × Hh)} {I : List D → List D → Hh → Prop} {Q : List D → Hh → Prop} (step : ∀ x xs acc h, I (x :: xs) acc h → WP (f x h) (fun o h' => match o with | some y => I xs (acc ++ [y]) h' | none => I xs acc h') noE) (fin : ∀ ys h, I [] ys h → Q ys h) :
    ∀ {xs acc : List D} {h : Hh}, acc.length + xs.length ≤ 16777216 → I xs acc h → WP (lcD f xs acc h) Q E
  | [], acc, h, _, i => fin _ _ i
  | x :: xs, acc, h, l, i => by
    have s := step x xs acc h i
    rw [List.length_cons] at l
    unfold lcD
    cases e : f x h with
    | ok p =>
      rw [e] at s
      obtain ⟨o, h'⟩ := p
      cases o with
      | some y =>
        simp only
        rw [if_pos (by omega)]
        exact lcD_run step fin (by rw [List.length_append, List.length_singleton]; omega) s
      | none => exact lcD_run step fin (by omega) s
    | exc => rw [e] at s; exact s.elim
    | no => rw [e] at s; exact s.elim
/-- all tests -/
theorem w_tn {Q : Bool → Hh → Prop} (q : Q true h) : WP (evTs G .nil r h) Q E := w_eq (evTs_n _ _ _) q
theorem w_tc {e : Ex} {es : Exs} {Q : Bool → Hh → Prop} (a : WP (evE G e r h) (fun x h1 => ∃ b, x = .bl b ∧ (b = true → WP (evTs G es r h1) Q E) ∧ (b = false → Q false h1)) E) : WP (evTs G (.cons e es) r h) Q E := by
  rw [evTs_c]
  refine .bind (a.mono (fun x h1 w => ?_) (fun _ _ _ z => z))
  obtain ⟨b, rfl, q1, q2⟩ := w
  refine boolW rfl ?_
  cases b with
  | true => rw [if_pos rfl]; exact q1 rfl
  | false => rw [if_neg Bool.false_ne_true]; exact q2 rfl
theorem turn_ok {elt : Ex} {t : Tg} {ifs : Exs} {r0 r1 : Z9.Env} {x : D} {Q : Option D → Hh → Prop} (e : setT t x r0 = .ok r1) (a : WP (evTs G ifs r1 h) (fun b h1 => (b = true → WP (evE G elt r1 h1) (fun y h2 => Q (some y) h2) noE) ∧ (b = false → Q none h1)) noE) :
    WP ((setT t x r0).bind fun r1 => (evTs G ifs r1 h).bind fun b => if b.1 then (evE G elt r1 b.2).bind fun y => .ok (some y.1, y.2) else .ok (none, b.2)) Q noE := by
  rw [e, Res.bind_ok]
  refine .bind (a.mono (fun b h1 w => ?_) (fun _ _ _ z => z))
  cases b with
  | true =>
    show WP (if true = true then _ else _) _ _
    rw [if_pos rfl]
    exact .bind ((w.1 rfl).mono (fun _ _ q => q) (fun _ _ _ z => z))
  | false => exact w.2 rfl
theorem w_lcI (I : List D → List D → Hh → Prop) {new : Bool} {elt : Ex} {t : Tg} {it : It} {ifs : Exs} {own : List Nat}
    (a : WP (evI G it r h) (fun xs h1 => xs.length ≤ 16777216 ∧ I xs [] h1 ∧ ∀ ys h2, I [] ys h2 → if new = true then Q (.ref h2.length) (h2 ++ [.lst ys]) else Q (.lst ys) h2) E)
    (step : ∀ x xs acc h, I (x :: xs) acc h → ∃ r1, setT t x (wipeE r own) = .ok r1 ∧ WP (evTs G ifs r1 h) (fun b h1 => (b = true → WP (evE G elt r1 h1) (fun y h2 => I xs (acc ++ [y]) h2) noE) ∧ (b = false → I xs acc h1)) noE) :
    WP (evE G (.lc new elt t it ifs own) r h) Q E := by
  rw [ev_lc]
  refine .bind (a.mono (fun xs h1 w => .bind (lcD_run (I := I) (fun x xs acc h i => ?_) (fun ys h2 i => ?_) (by rw [List.length_nil, Nat.zero_add]; exact w.1) w.2.1)) (fun _ _ _ z => z))
  · obtain ⟨r1, e1, w⟩ := step x xs acc h i
    exact turn_ok e1 w
  · have := w.2.2 ys h2 i
    cases new with
    | true => rw [if_pos rfl] at this; show WP (if true = true then _ else _) _ _; rw [if_pos rfl]; exact this
    | false => rw [if_neg Bool.false_ne_true] at this; exact this
/-- a comprehension that changes nothing -/
theorem w_lcF (F : D → D) {elt : Ex} {t : Tg} {it : It} {own : List Nat}
    (a : WP (evI G it r h) (fun xs h1 => xs.length ≤ 16777216 ∧ (∀ x ∈ xs, ∃ r1, setT t x (wipeE r own) = .ok r1 ∧ evE G elt r1 h1 = .ok (F x, h1)) ∧ Q (.lst (xs.map F)) h1) E) :
    WP (evE G (.lc false elt t it .nil own) r h) Q E := by
  rw [ev_lc]
  refine .bind (a.mono (fun xs h1 w => .bind (lcD_run (I := fun zs acc h2 => h2 = h1 ∧ (∀ x ∈ zs, x ∈ xs) ∧ acc ++ zs.map F = xs.map F) (fun x zs acc h2 i => ?_) (fun ys h2 i => ?_) (by rw [List.length_nil, Nat.zero_add]; exact w.1) ⟨rfl, fun _ m => m, rfl⟩)) (fun _ _ _ z => z))
  · obtain ⟨rfl, i1, i2⟩ := i
    obtain ⟨r1, e1, e2⟩ := w.2.1 x (i1 x List.mem_cons_self)
    refine turn_ok e1 (w_tn ⟨fun _ => w_eq e2 ⟨rfl, fun y m => i1 y (List.mem_cons_of_mem _ m), ?_⟩, fun z => by cases z⟩)
    rw [List.append_assoc]
    exact i2
  · obtain ⟨rfl, _, i2⟩ := i
    rw [List.map_nil, List.append_nil] at i2
    show WP (if false = true then _ else _) _ _
    rw [if_neg Bool.false_ne_true, i2]
    exact w.2.2
end
/-! statements -/
def WS (R : Res Out) (N : Z9.Env → Hh → Prop) (T : D → Hh → Prop) (O : Out → Prop) : Prop := match R with
  | .ok (.nx r h) => N r h
  | .ok (.rt d h) => T d h
  | .ok o => O o
  | _ => False
section
variable {G : Gam} {r : Z9.Env} {h : Hh} {N : Z9.Env → Hh → Prop} {T : D → Hh → Prop} {O : Out → Prop}
theorem WS.imp {R : Res Out} {N' : Z9.Env → Hh → Prop} {T' : D → Hh → Prop} {O' : Out → Prop} (a : WS R N T O) (n : ∀ r h, N r h → N' r h) (t : ∀ d h, T d h → T' d h) (o : ∀ x, O x → O' x) : WS R N' T' O' := by
  cases R with
  | ok x => cases x with
    | nx => exact n _ _ a
    | rt => exact t _ _ a
    | bk => exact o _ a
    | ct => exact o _ a
    | ex => exact o _ a
  | exc => exact a
  | no => exact a
theorem bsW {α : Type} {x : Res (α × Hh)} {f : α × Hh → Res Out} (a : WP x (fun d h1 => WS (f (d, h1)) N T O) (fun c xs h1 => O (.ex c xs r h1))) : WS (x.bs r f) N T O := by
  cases x with
  | ok p => exact a
  | exc => exact a
  | no => exact a
theorem bsD {α : Type} {x : Res α} {d : α} {f : α → Res Out} (e : x = .ok d) (a : WS (f d) N T O) : WS (x.bs r f) N T O := by rw [e]; exact a
theorem s_nil (n : N r h) : WS (evSs G .nil r h) N T O := by rw [evSs_n]; exact n
theorem s_cons {s : Sm} {ss : Sms} (a : WS (evS G s r h) (fun r1 h1 => WS (evSs G ss r1 h1) N T O) T O) : WS (evSs G (.cons s ss) r h) N T O := by
  rw [evSs_c]
  cases e : evS G s r h with
  | ok x =>
    rw [e] at a
    cases x with
    | nx => exact a
    | rt => exact a
    | bk => exact a
    | ct => exact a
    | ex => exact a
  | exc => rw [e] at a; exact a.elim
  | no => rw [e] at a; exact a.elim
theorem s_set {i : Nat} {e : Ex} (a : WP (evE G e r h) (fun d h1 => N (r.set i (some d)) h1) (fun c xs h1 => O (.ex c xs r h1))) : WS (evS G (.set i e) r h) N T O := by
  rw [evS_set]
  exact bsW (a.mono (fun _ _ q => q) (fun _ _ _ z => z))
theorem s_asg {t : Tg} {e : Ex} (a : WP (evE G e r h) (fun d h1 => ∃ r1, setT t d r = .ok r1 ∧ N r1 h1) (fun c xs h1 => O (.ex c xs r h1))) : WS (evS G (.asg t e) r h) N T O := by
  rw [evS_asg]
  refine bsW (a.mono (fun _ _ q => ?_) (fun _ _ _ z => z))
  obtain ⟨r1, e1, q⟩ := q
  exact bsD e1 q
theorem s_seti {o i e : Ex} (a : WP (evE G e r h) (fun v h1 => WP (evE G o r h1) (fun x h2 => WP (evE G i r h2) (fun y h3 => ∃ h4, setiD x y v h3 = .ok h4 ∧ N r h4) (fun c xs h1 => O (.ex c xs r h1))) (fun c xs h1 => O (.ex c xs r h1))) (fun c xs h1 => O (.ex c xs r h1))) : WS (evS G (.seti o i e) r h) N T O := by
  rw [evS_seti]
  refine bsW (a.mono (fun v h1 a => bsW (a.mono (fun x h2 a => bsW (a.mono (fun y h3 q => ?_) (fun _ _ _ z => z))) (fun _ _ _ z => z))) (fun _ _ _ z => z))
  obtain ⟨h4, e1, q⟩ := q
  exact bsD e1 q
theorem s_setf {o : Ex} {n : Str} {e : Ex} (a : WP (evE G e r h) (fun v h1 => WP (evE G o r h1) (fun x h2 => ∃ h4, setfD G h2 x n v = .ok h4 ∧ N r h4) (fun c xs h1 => O (.ex c xs r h1))) (fun c xs h1 => O (.ex c xs r h1))) : WS (evS G (.setf o n e) r h) N T O := by
  rw [evS_setf]
  refine bsW (a.mono (fun v h1 a => bsW (a.mono (fun x h2 q => ?_) (fun _ _ _ z => z))) (fun _ _ _ z => z))
  obtain ⟨h4, e1, q⟩ := q
  exact bsD e1 q
theorem s_aug {i : Nat} {o : Operator} {e : Ex} {d0 : D} (k : getV r i = .ok d0) (a : WP (evE G e r h) (fun d h1 => ∃ y, augD d0 d = .ok y ∧ N (r.set i (some y)) h1) (fun c xs h1 => O (.ex c xs r h1))) : WS (evS G (.aug i o e) r h) N T O := by
  rw [evS_aug]
  refine bsD k (bsW (a.mono (fun v h1 q => ?_) (fun _ _ _ z => z)))
  obtain ⟨y, e1, q⟩ := q
  exact bsD e1 q
theorem s_expr {e : Ex} (a : WP (evE G e r h) (fun _ h1 => N r h1) (fun c xs h1 => O (.ex c xs r h1))) : WS (evS G (.expr e) r h) N T O := by
  rw [evS_expr]
  exact bsW (a.mono (fun _ _ q => q) (fun _ _ _ z => z))
theorem s_ret {e : Ex} (a : WP (evE G e r h) T (fun c xs h1 => O (.ex c xs r h1))) : WS (evS G (.ret e) r h) N T O := by
  rw [evS_ret]
  exact bsW (a.mono (fun _ _ q => q) (fun _ _ _ z => z))
theorem s_retn (t : T .non h) : WS (evS G .retn r h) N T O := by rw [evS_retn]; exact t
theorem s_pass (n : N r h) : WS (evS G .pass r h) N T O := by rw [evS_pass]; exact n
theorem s_iff {c : Ex} {a b : Sms} (e : WP (evE G c r h) (fun x h1 => ∃ t, x = .bl t ∧ (t = true → WS (evSs G a r h1) N T O) ∧ (t = false → WS (evSs G b r h1) N T O)) (fun c xs h1 => O (.ex c xs r h1))) : WS (evS G (.iff c a b) r h) N T O := by
  rw [evS_iff]
  refine bsW (e.mono (fun _ _ q => ?_) (fun _ _ _ z => z))
  obtain ⟨t, rfl, q1, q2⟩ := q
  refine bsD (boolD_bl _) ?_
  cases t with
  | true => rw [if_pos rfl]; exact q1 rfl
  | false => rw [if_neg Bool.false_ne_true]; exact q2 rfl
theorem s_rai1 {k : Nat} {c f : Str} {e : Ex} (m : G.mkc k = some (c, some f)) (a : WP (evE G e r h) (fun d h1 => O (.ex k [.exc c [f] [d]] r h1)) (fun c xs h1 => O (.ex c xs r h1))) : WS (evS G (.rai1 k e) r h) N T O := by
  rw [evS_rai1 _ _ _ m]
  exact bsW (a.mono (fun _ _ q => q) (fun _ _ _ z => z))
theorem forD_run {f : D → Z9.Env → Hh → Res Out} {I : List D → Z9.Env → Hh → Prop} (step : ∀ x xs r h, I (x :: xs) r h → WS (f x r h) (fun r' h' => I xs r' h') T (fun o => match o with | .ct r' h' => I xs r' h' | .bk r' h' => N r' h' | o => O o)) (fin : ∀ r h, I [] r h → N r h) :
    ∀ {xs : List D} {r : Z9.Env} {h : Hh}, I xs r h → WS (forD f xs r h) N T O
  | [], r, h, i => fin _ _ i
  | x :: xs, r, h, i => by
    have s := step x xs r h i
    unfold forD
    cases e : f x r h with
    | ok o =>
      rw [e] at s
      cases o with
      | nx => exact forD_run step fin s
      | rt => exact s
      | bk => exact s
      | ct => exact forD_run step fin s
      | ex => exact s
    | exc => rw [e] at s; exact s.elim
    | no => rw [e] at s; exact s.elim
theorem s_for (I : List D → Z9.Env → Hh → Prop) {t : Tg} {it : It} {b : Sms} (a : WP (evI G it r h) (fun xs h1 => I xs r h1) (fun c xs h1 => O (.ex c xs r h1)))
    (step : ∀ x xs r h, I (x :: xs) r h → ∃ r1, setT t x r = .ok r1 ∧ WS (evSs G b r1 h) (fun r' h' => I xs r' h') T (fun o => match o with | .ct r' h' => I xs r' h' | .bk r' h' => N r' h' | o => O o)) (fin : ∀ r h, I [] r h → N r h) : WS (evS G (.forr t it b) r h) N T O := by
  rw [evS_for]
  refine bsW (a.mono (fun xs h1 i => forD_run (I := I) (fun x xs r h i => ?_) fin i) (fun _ _ _ z => z))
  obtain ⟨r1, e1, w⟩ := step x xs r h i
  exact bsD e1 w
theorem s_tryx {b : Sms} {k v : Nat} {ss : List Xs} (m : G.cls k = true) (a : WS (evSs G b r h) N T (fun o => match o with
    | .ex c xs r' h' => (G.sub c k = some true ∧ ∃ cn ns ds o, xs = [.exc cn ns ds] ∧ v < r'.length ∧ evXl G (.exc cn ns ds) ss (r'.set v none) h' = .ok o ∧ WS (.ok (goneX v o)) N T O) ∨ (G.sub c k = some false ∧ O (.ex c xs r' h'))
    | o => O o)) : WS (evS G (.tryx b k v ss) r h) N T O := by
  simp only [evS, m, if_true]
  cases e : evSs G b r h with
  | ok o =>
    rw [e] at a
    cases o with
    | nx => exact a
    | rt => exact a
    | bk => exact a
    | ct => exact a
    | ex c xs r' h' =>
      rcases a with ⟨a1, cn, ns, ds, o, rfl, hv, a2, a3⟩ | ⟨a1, a2⟩
      · simp only [a1, hv, if_true, a2, Res.bind_ok]
        exact a3
      · simp only [a1]
        exact a2
  | exc => rw [e] at a; exact a.elim
  | no => rw [e] at a; exact a.elim
/-- a body run -/
theorem r_run {n : Nat} {b : Sms} {xs : List D} {e : Z9.Env} {Q : D → Hh → Prop} {E : Nat → List D → Hh → Prop} (k : e = xs.map some ++ List.replicate (n - xs.length) none) (a : WS (evSs G b e h) (fun _ h1 => Q .non h1) Q (fun o => match o with | .ex c ys _ h1 => E c ys h1 | _ => False)) : WP (runD G n b xs h) Q E := by
  rw [runD_eq, ← k]
  cases q : evSs G b e h with
  | ok o =>
    rw [q] at a
    cases o with
    | nx => exact a
    | rt => exact a
    | bk => exact a
    | ct => exact a
    | ex => exact a
  | exc => rw [q] at a; exact a
  | no => rw [q] at a; exact a
theorem r_pure {g : Fn} {ds : List D} {Q : D → Hh → Prop} {E : Nat → List D → Hh → Prop} (p : pureDs ds = true) (a : WP (g ds []) (fun d _ => pureD d = true ∧ Q d h) (fun c xs _ => pureDs xs = true ∧ E c xs h)) : WP (pureF g ds h) Q E := by
  cases q : g ds [] with
  | ok o =>
    rw [q] at a
    exact w_eq (pureF_ok p q a.1) a.2
  | exc c xs h' =>
    rw [q] at a
    exact w_exc (pureF_exc p q a.1) a.2
  | no => rw [q] at a; exact a.elim
end

/-! a truth value that is known -/
theorem br_t {A B : Prop} {b : Bool} (e : b = true) (a : A) : (b = true → A) ∧ (b = false → B) := ⟨fun _ => a, fun z => nomatch e.symm.trans z⟩
theorem br_f {A B : Prop} {b : Bool} (e : b = false) (a : B) : (b = true → A) ∧ (b = false → B) := ⟨fun z => (nomatch e.symm.trans z), fun _ => a⟩
theorem br_ft {A B : Prop} {b : Bool} (e : b = true) (a : B) : (b = false → A) ∧ (b = true → B) := ⟨fun z => (nomatch e.symm.trans z), fun _ => a⟩
theorem br_ff {A B : Prop} {b : Bool} (e : b = false) (a : A) : (b = false → A) ∧ (b = true → B) := ⟨fun _ => a, fun z => nomatch e.symm.trans z⟩
theorem bools_map {α : Type} (f : α → Bool) : ∀ xs : List α, bools? (xs.map fun x => D.bl (f x)) = some (xs.map f)
  | [] => rfl
  | x :: xs => by
    simp only [List.map_cons, bools?, bools_map f xs]
    rfl
theorem all_map {α : Type} (f : α → Bool) (xs : List α) (h : Hh) : bcallD .all [.lst (xs.map fun x => D.bl (f x))] h = .ok (.bl (xs.all f)) := by
  show (ofO (bools? _)).bind _ = _
  rw [bools_map]
  simp [List.all_map]
/-! data -/
theorem okN_b {n : Nat} (h : n ≤ 1000000) : okN n = true := by
  unfold okN
  exact decide_eq_true (by omega)
theorem bin_tt {xs ys : List D} (l : xs.length + ys.length ≤ 1000000) : binD .Add (.tup xs) (.tup ys) = .ok (.tup (xs ++ ys)) := by
  show ofB (okN _) _ = _
  rw [okN_b l]
  rfl
end Z9

set_option Elab.async false
set_option linter.all false
set_option maxRecDepth 100000
set_option maxHeartbeats 400000
/-! E23: the rules over folded heads. Printed by mke23.py. -/
namespace Z9
open PySem PySem.Spec
@[irreducible] def WE (G : Gam) (e : Ex) (r : Z9.Env) (h : Hh) (Q : D → Hh → Prop) (E : Nat → List D → Hh → Prop) : Prop := WP (evE G e r h) Q E
@[irreducible] def WEs (G : Gam) (e : Exs) (r : Z9.Env) (h : Hh) (Q : List D → Hh → Prop) (E : Nat → List D → Hh → Prop) : Prop := WP (evEs G e r h) Q E
@[irreducible] def WA (G : Gam) (k : Bool) (e : Exs) (r : Z9.Env) (h : Hh) (Q : D → Hh → Prop) (E : Nat → List D → Hh → Prop) : Prop := WP (evA G k e r h) Q E
@[irreducible] def WT (G : Gam) (e : Exs) (r : Z9.Env) (h : Hh) (Q : Bool → Hh → Prop) (E : Nat → List D → Hh → Prop) : Prop := WP (evTs G e r h) Q E
@[irreducible] def WO (G : Gam) (e : Ox) (r : Z9.Env) (h : Hh) (Q : Option Int → Hh → Prop) (E : Nat → List D → Hh → Prop) : Prop := WP (evO G e r h) Q E
@[irreducible] def WI (G : Gam) (e : It) (r : Z9.Env) (h : Hh) (Q : List D → Hh → Prop) (E : Nat → List D → Hh → Prop) : Prop := WP (evI G e r h) Q E
@[irreducible] def WSt (G : Gam) (s : Sm) (r : Z9.Env) (h : Hh) (N : Z9.Env → Hh → Prop) (T : D → Hh → Prop) (O : Out → Prop) : Prop := WS (evS G s r h) N T O
@[irreducible] def WSs (G : Gam) (s : Sms) (r : Z9.Env) (h : Hh) (N : Z9.Env → Hh → Prop) (T : D → Hh → Prop) (O : Out → Prop) : Prop := WS (evSs G s r h) N T O
@[irreducible] def WC (R : Res (D × Hh)) (Q : D → Hh → Prop) (E : Nat → List D → Hh → Prop) : Prop := WP R Q E
@[irreducible] def WV (R : Res D) (Q : D → Prop) : Prop := WD R Q
section
variable {G : Gam} {r : Z9.Env} {h : Hh} {Q : D → Hh → Prop} {E : Nat → List D → Hh → Prop} {N : Z9.Env → Hh → Prop} {T : D → Hh → Prop} {O : Out → Prop}
theorem w_var' {i : Nat} {d : D} (e : r[i]? = some (some d)) (q : Q d h)  : WE G (.var i) r h Q E := by
  simp only [WE, WEs, WA, WT, WO, WI, WSt, WSs, WC, WV] at *
  exact w_var e q
theorem w_con' {d : D} (q : Q d h)  : WE G (.con d) r h Q E := by
  simp only [WE, WEs, WA, WT, WO, WI, WSt, WSs, WC, WV] at *
  exact w_con q
theorem w_glob' {k : Nat} {d : D} (e : G.con k = some d) (q : Q d h)  : WE G (.glob k) r h Q E := by
  simp only [WE, WEs, WA, WT, WO, WI, WSt, WSs, WC, WV] at *
  exact w_glob e q
theorem w_dic0' (q : Q (.dic [] []) h)  : WE G .dic0 r h Q E := by
  simp only [WE, WEs, WA, WT, WO, WI, WSt, WSs, WC, WV] at *
  exact w_dic0 q
theorem w_neg' {i : Int} (q : Q (.int (-i)) h)  : WE G (.neg (.con (.int i))) r h Q E := by
  simp only [WE, WEs, WA, WT, WO, WI, WSt, WSs, WC, WV] at *
  exact w_neg q
theorem w_sn' {Q : List D → Hh → Prop} (q : Q [] h)  : WEs G .nil r h Q E := by
  simp only [WE, WEs, WA, WT, WO, WI, WSt, WSs, WC, WV] at *
  exact w_sn q
theorem w_sc' {e : Ex} {es : Exs} {Q : List D → Hh → Prop} (a : WE G e r h (fun x h1 => WEs G es r h1 (fun xs h2 => Q (x :: xs) h2) E) E)  : WEs G (.cons e es) r h Q E := by
  simp only [WE, WEs, WA, WT, WO, WI, WSt, WSs, WC, WV] at *
  exact w_sc a
theorem w_tup' {es : Exs} (a : WEs G es r h (fun xs h1 => xs.length ≤ 1000 ∧ Q (.tup xs) h1) E)  : WE G (.tup es) r h Q E := by
  simp only [WE, WEs, WA, WT, WO, WI, WSt, WSs, WC, WV] at *
  exact w_tup a
theorem w_lst' {es : Exs} (a : WEs G es r h (fun xs h1 => xs.length ≤ 1000 ∧ Q (.lst xs) h1) E)  : WE G (.lst es) r h Q E := by
  simp only [WE, WEs, WA, WT, WO, WI, WSt, WSs, WC, WV] at *
  exact w_lst a
theorem w_newl' {es : Exs} (a : WEs G es r h (fun xs h1 => xs.length ≤ 1000 ∧ Q (.ref h1.length) (h1 ++ [.lst xs])) E)  : WE G (.newl es) r h Q E := by
  simp only [WE, WEs, WA, WT, WO, WI, WSt, WSs, WC, WV] at *
  exact w_newl a
theorem w_bin' {o : Operator} {a b : Ex} (e : WE G a r h (fun x h1 => WE G b r h1 (fun y h2 => WV (binD o x y) fun d => Q d h2) E) E)  : WE G (.bin o a b) r h Q E := by
  simp only [WE, WEs, WA, WT, WO, WI, WSt, WSs, WC, WV] at *
  exact w_bin e
theorem w_cmp' {o : CmpOp} {a b : Ex} (e : WE G a r h (fun x h1 => WE G b r h1 (fun y h2 => WV (cmpD o x y) fun d => Q d h2) E) E)  : WE G (.cmp o a b) r h Q E := by
  simp only [WE, WEs, WA, WT, WO, WI, WSt, WSs, WC, WV] at *
  exact w_cmp e
theorem w_cmp2' {o o2 : CmpOp} {a b c : Ex} (e : WE G a r h (fun x h1 => WE G b r h1 (fun y h2 => WV (cmpD o x y) fun d => ∃ t, d = .bl t ∧ WE G c r h2 (fun z h3 => h3 = h2 ∧ WV (cmpD o2 y z) fun d2 => ∃ u, d2 = .bl u ∧ Q (.bl (t && u)) h2) noE) E) E)  : WE G (.cmp2 o o2 a b c) r h Q E := by
  simp only [WE, WEs, WA, WT, WO, WI, WSt, WSs, WC, WV] at *
  exact w_cmp2 e
theorem w_isn' {a : Ex} (e : WE G a r h (fun x h1 => Q (.bl (isNon x)) h1) E)  : WE G (.isn a) r h Q E := by
  simp only [WE, WEs, WA, WT, WO, WI, WSt, WSs, WC, WV] at *
  exact w_isn e
theorem w_notn' {a : Ex} (e : WE G a r h (fun x h1 => Q (.bl (!isNon x)) h1) E)  : WE G (.notn a) r h Q E := by
  simp only [WE, WEs, WA, WT, WO, WI, WSt, WSs, WC, WV] at *
  exact w_notn e
theorem w_and' {es : Exs} (e : WA G true es r h Q E)  : WE G (.and es) r h Q E := by
  simp only [WE, WEs, WA, WT, WO, WI, WSt, WSs, WC, WV] at *
  exact w_and e
theorem w_or' {es : Exs} (e : WA G false es r h Q E)  : WE G (.or es) r h Q E := by
  simp only [WE, WEs, WA, WT, WO, WI, WSt, WSs, WC, WV] at *
  exact w_or e
theorem w_a1' {k : Bool} {a : Ex} (e : WE G a r h (fun x h1 => ∃ b, x = .bl b ∧ Q (.bl b) h1) E)  : WA G k (.cons a .nil) r h Q E := by
  simp only [WE, WEs, WA, WT, WO, WI, WSt, WSs, WC, WV] at *
  exact w_a1 e
theorem w_a2' {k : Bool} {a a2 : Ex} {as : Exs} (e : WE G a r h (fun x h1 => ∃ b, x = .bl b ∧ (b = k → WA G k (.cons a2 as) r h1 Q E) ∧ (b = (!k) → Q (.bl (!k)) h1)) E)  : WA G k (.cons a (.cons a2 as)) r h Q E := by
  simp only [WE, WEs, WA, WT, WO, WI, WSt, WSs, WC, WV] at *
  exact w_a2 e
theorem w_not' {a : Ex} (e : WE G a r h (fun x h1 => ∃ b, x = .bl b ∧ Q (.bl (!b)) h1) E)  : WE G (.not a) r h Q E := by
  simp only [WE, WEs, WA, WT, WO, WI, WSt, WSs, WC, WV] at *
  exact w_not e
theorem w_ife' {c a b : Ex} (e : WE G c r h (fun x h1 => ∃ t, x = .bl t ∧ (t = true → WE G a r h1 Q E) ∧ (t = false → WE G b r h1 Q E)) E)  : WE G (.ife c a b) r h Q E := by
  simp only [WE, WEs, WA, WT, WO, WI, WSt, WSs, WC, WV] at *
  exact w_ife e
theorem w_ix' {a i : Ex} (e : WE G a r h (fun x h1 => WE G i r h1 (fun y h2 => WV (ixD h2 x y) fun d => Q d h2) E) E)  : WE G (.ix a i) r h Q E := by
  simp only [WE, WEs, WA, WT, WO, WI, WSt, WSs, WC, WV] at *
  exact w_ix e
theorem w_on' {Q : Option Int → Hh → Prop} (q : Q none h)  : WO G .none r h Q E := by
  simp only [WE, WEs, WA, WT, WO, WI, WSt, WSs, WC, WV] at *
  exact w_on q
theorem w_os' {e : Ex} {Q : Option Int → Hh → Prop} (a : WE G e r h (fun d h1 => ∃ i, d = .int i ∧ Q (some i) h1) E)  : WO G (.some e) r h Q E := by
  simp only [WE, WEs, WA, WT, WO, WI, WSt, WSs, WC, WV] at *
  exact w_os a
theorem w_sl' {a : Ex} {lo hi : Ox} (e : WE G a r h (fun x h1 => WO G lo r h1 (fun u h2 => WO G hi r h2 (fun v h3 => WV (slD h3 x u v) fun d => Q d h3) E) E) E)  : WE G (.sl a lo hi) r h Q E := by
  simp only [WE, WEs, WA, WT, WO, WI, WSt, WSs, WC, WV] at *
  exact w_sl e
theorem w_isi' {a : Ex} {t : Ty} (e : WE G a r h (fun x h1 => WV (isiD h1 x t) fun d => Q d h1) E)  : WE G (.isi a t) r h Q E := by
  simp only [WE, WEs, WA, WT, WO, WI, WSt, WSs, WC, WV] at *
  exact w_isi e
theorem w_fld' {a : Ex} {n : Str} (e : WE G a r h (fun x h1 => WV (fldD G h1 x n) fun d => Q d h1) E)  : WE G (.fld a n) r h Q E := by
  simp only [WE, WEs, WA, WT, WO, WI, WSt, WSs, WC, WV] at *
  exact w_fld e
theorem w_isc' {a : Ex} {k : Nat} (e : WE G a r h (fun x h1 => WV (iscD G x k) fun d => Q d h1) E)  : WE G (.isc a k) r h Q E := by
  simp only [WE, WEs, WA, WT, WO, WI, WSt, WSs, WC, WV] at *
  exact w_isc e
theorem w_bcall' {f : BF} {es : Exs} (e : WEs G es r h (fun xs h1 => WV (bcallD f xs h1) fun d => Q d h1) E)  : WE G (.bcall f es) r h Q E := by
  simp only [WE, WEs, WA, WT, WO, WI, WSt, WSs, WC, WV] at *
  exact w_bcall e
theorem w_bmeth' {m : BM} {a : Ex} {es : Exs} (e : WE G a r h (fun x h1 => recvD h1 m x = true ∧ WEs G es r h1 (fun xs h2 => WC (bmethD m x xs h2) Q E) E) E)  : WE G (.bmeth m a es) r h Q E := by
  simp only [WE, WEs, WA, WT, WO, WI, WSt, WSs, WC, WV] at *
  exact w_bmeth e
theorem w_call' {k n : Nat} {g : Fn} {es : Exs} (f : G.fn k = some (n, g)) (e : WEs G es r h (fun xs h1 => xs.length = n ∧ WC (g xs h1) Q E) E)  : WE G (.call k es) r h Q E := by
  simp only [WE, WEs, WA, WT, WO, WI, WSt, WSs, WC, WV] at *
  exact w_call f e
theorem w_new' {k n : Nat} {c : Str} {g : Fn} {es : Exs} (f : G.ini k = some (n, c, g)) (e : WEs G es r h (fun xs h1 => xs.length = n ∧ WC (g (.ref h1.length :: xs) (h1 ++ [.ins c [] []])) (fun d h2 => d = .non ∧ Q (.ref h1.length) h2) E) E)  : WE G (.new k es) r h Q E := by
  simp only [WE, WEs, WA, WT, WO, WI, WSt, WSs, WC, WV] at *
  exact w_new f e
theorem w_meth' {a : Ex} {m : Str} {es : Exs} (e : WE G a r h (fun x h1 => ∃ n g, methD G h1 x m = some (n, g) ∧ WEs G es r h1 (fun xs h2 => xs.length = n ∧ WC (g (x :: xs) h2) Q E) E) E)  : WE G (.meth a m es) r h Q E := by
  simp only [WE, WEs, WA, WT, WO, WI, WSt, WSs, WC, WV] at *
  exact w_meth e
theorem w_lof' {e : Ex} (a : WE G e r h (fun x h1 => ∃ xs, (lookD h1 x = .lst xs ∨ lookD h1 x = .tup xs) ∧ Q (.ref h1.length) (h1 ++ [.lst xs])) E)  : WE G (.lof e) r h Q E := by
  simp only [WE, WEs, WA, WT, WO, WI, WSt, WSs, WC, WV] at *
  exact w_lof a
theorem w_lor' {e : Ex} (a : WE G e r h (fun x h1 => ∃ n : Nat, x = .int (n : Int) ∧ n ≤ 1000 ∧ Q (.lst ((List.range n).map fun (i : Nat) => .int (i : Int))) h1) E)  : WE G (.lor false e) r h Q E := by
  simp only [WE, WEs, WA, WT, WO, WI, WSt, WSs, WC, WV] at *
  exact w_lor a
theorem w_sset' {e : Ex} (a : WE G e r h (fun x h1 => WV (ssetD x) fun d => Q d h1) E)  : WE G (.sset e) r h Q E := by
  simp only [WE, WEs, WA, WT, WO, WI, WSt, WSs, WC, WV] at *
  exact w_sset a
theorem w_inr' {neg : Bool} {a b : Ex} (e : WE G a r h (fun x h1 => WE G b r h1 (fun y h2 => ∃ i ys, y = .ref i ∧ h2[i]? = some (.lst ys) ∧ WV (cmpD (if neg then .NotIn else .In) x (.lst ys)) fun d => Q d h2) E) E)  : WE G (.inr neg a b) r h Q E := by
  simp only [WE, WEs, WA, WT, WO, WI, WSt, WSs, WC, WV] at *
  exact w_inr e
theorem w_seq' {e : Ex} {Q : List D → Hh → Prop} (a : WE G e r h (fun x h1 => ∃ xs, (x = .lst xs ∨ x = .tup xs) ∧ Q xs h1) E)  : WI G (.seq e) r h Q E := by
  simp only [WE, WEs, WA, WT, WO, WI, WSt, WSs, WC, WV] at *
  exact w_seq a
theorem w_seqS' {e : Ex} {Q : List D → Hh → Prop} (a : WE G e r h (fun x h1 => ∃ s, x = .str s ∧ Q (s.map fun c => .str [c]) h1) E)  : WI G (.seq e) r h Q E := by
  simp only [WE, WEs, WA, WT, WO, WI, WSt, WSs, WC, WV] at *
  exact w_seqS a
theorem w_range' {e : Ex} {Q : List D → Hh → Prop} (a : WE G e r h (fun x h1 => ∃ n : Nat, x = .int (n : Int) ∧ n ≤ 100000 ∧ Q ((List.range n).map fun (i : Nat) => .int (i : Int)) h1) E)  : WI G (.range e) r h Q E := by
  simp only [WE, WEs, WA, WT, WO, WI, WSt, WSs, WC, WV] at *
  exact w_range a
theorem w_tn' {Q : Bool → Hh → Prop} (q : Q true h)  : WT G .nil r h Q E := by
  simp only [WE, WEs, WA, WT, WO, WI, WSt, WSs, WC, WV] at *
  exact w_tn q
theorem w_tc' {e : Ex} {es : Exs} {Q : Bool → Hh → Prop} (a : WE G e r h (fun x h1 => ∃ b, x = .bl b ∧ (b = true → WT G es r h1 Q E) ∧ (b = false → Q false h1)) E)  : WT G (.cons e es) r h Q E := by
  simp only [WE, WEs, WA, WT, WO, WI, WSt, WSs, WC, WV] at *
  exact w_tc a
theorem w_lcI' (I : List D → List D → Hh → Prop) {new : Bool} {elt : Ex} {t : Tg} {it : It} {ifs : Exs} {own : List Nat}
    (a : WI G it r h (fun xs h1 => xs.length ≤ 16777216 ∧ I xs [] h1 ∧ ∀ ys h2, I [] ys h2 → if new = true then Q (.ref h2.length) (h2 ++ [.lst ys]) else Q (.lst ys) h2) E)
    (step : ∀ x xs acc h, I (x :: xs) acc h → ∃ r1, setT t x (wipeE r own) = .ok r1 ∧ WT G ifs r1 h (fun b h1 => (b = true → WE G elt r1 h1 (fun y h2 => I xs (acc ++ [y]) h2) noE) ∧ (b = false → I xs acc h1)) noE)  : WE G (.lc new elt t it ifs own) r h Q E := by
  simp only [WE, WEs, WA, WT, WO, WI, WSt, WSs, WC, WV] at *
  exact w_lcI I a step
theorem w_lcF' (F : D → D) {elt : Ex} {t : Tg} {it : It} {own : List Nat}
    (a : WI G it r h (fun xs h1 => xs.length ≤ 16777216 ∧ (∀ x ∈ xs, ∃ r1, setT t x (wipeE r own) = .ok r1 ∧ evE G elt r1 h1 = .ok (F x, h1)) ∧ Q (.lst (xs.map F)) h1) E)  : WE G (.lc false elt t it .nil own) r h Q E := by
  simp only [WE, WEs, WA, WT, WO, WI, WSt, WSs, WC, WV] at *
  exact w_lcF F a
theorem s_nil' (n : N r h)  : WSs G .nil r h N T O := by
  simp only [WE, WEs, WA, WT, WO, WI, WSt, WSs, WC, WV] at *
  exact s_nil n
theorem s_cons' {s : Sm} {ss : Sms} (a : WSt G s r h (fun r1 h1 => WSs G ss r1 h1 N T O) T O)  : WSs G (.cons s ss) r h N T O := by
  simp only [WE, WEs, WA, WT, WO, WI, WSt, WSs, WC, WV] at *
  exact s_cons a
theorem s_set' {i : Nat} {e : Ex} (a : WE G e r h (fun d h1 => N (r.set i (some d)) h1) (fun c xs h1 => O (.ex c xs r h1)))  : WSt G (.set i e) r h N T O := by
  simp only [WE, WEs, WA, WT, WO, WI, WSt, WSs, WC, WV] at *
  exact s_set a
theorem s_asg' {t : Tg} {e : Ex} (a : WE G e r h (fun d h1 => ∃ r1, setT t d r = .ok r1 ∧ N r1 h1) (fun c xs h1 => O (.ex c xs r h1)))  : WSt G (.asg t e) r h N T O := by
  simp only [WE, WEs, WA, WT, WO, WI, WSt, WSs, WC, WV] at *
  exact s_asg a
theorem s_seti' {o i e : Ex} (a : WE G e r h (fun v h1 => WE G o r h1 (fun x h2 => WE G i r h2 (fun y h3 => ∃ h4, setiD x y v h3 = .ok h4 ∧ N r h4) (fun c xs h1 => O (.ex c xs r h1))) (fun c xs h1 => O (.ex c xs r h1))) (fun c xs h1 => O (.ex c xs r h1)))  : WSt G (.seti o i e) r h N T O := by
  simp only [WE, WEs, WA, WT, WO, WI, WSt, WSs, WC, WV] at *
  exact s_seti a
theorem s_setf' {o : Ex} {n : Str} {e : Ex} (a : WE G e r h (fun v h1 => WE G o r h1 (fun x h2 => ∃ h4, setfD G h2 x n v = .ok h4 ∧ N r h4) (fun c xs h1 => O (.ex c xs r h1))) (fun c xs h1 => O (.ex c xs r h1)))  : WSt G (.setf o n e) r h N T O := by
  simp only [WE, WEs, WA, WT, WO, WI, WSt, WSs, WC, WV] at *
  exact s_setf a
theorem s_aug' {i : Nat} {o : Operator} {e : Ex} {d0 : D} (k : getV r i = .ok d0) (a : WE G e r h (fun d h1 => ∃ y, augD d0 d = .ok y ∧ N (r.set i (some y)) h1) (fun c xs h1 => O (.ex c xs r h1)))  : WSt G (.aug i o e) r h N T O := by
  simp only [WE, WEs, WA, WT, WO, WI, WSt, WSs, WC, WV] at *
  exact s_aug k a
theorem s_expr' {e : Ex} (a : WE G e r h (fun _ h1 => N r h1) (fun c xs h1 => O (.ex c xs r h1)))  : WSt G (.expr e) r h N T O := by
  simp only [WE, WEs, WA, WT, WO, WI, WSt, WSs, WC, WV] at *
  exact s_expr a
theorem s_ret' {e : Ex} (a : WE G e r h T (fun c xs h1 => O (.ex c xs r h1)))  : WSt G (.ret e) r h N T O := by
  simp only [WE, WEs, WA, WT, WO, WI, WSt, WSs, WC, WV] at *
  exact s_ret a
theorem s_retn' (t : T .non h)  : WSt G .retn r h N T O := by
  simp only [WE, WEs, WA, WT, WO, WI, WSt, WSs, WC, WV] at *
  exact s_retn t
theorem s_pass' (n : N r h)  : WSt G .pass r h N T O := by
  simp only [WE, WEs, WA, WT, WO, WI, WSt, WSs, WC, WV] at *
  exact s_pass n
theorem s_iff' {c : Ex} {a b : Sms} (e : WE G c r h (fun x h1 => ∃ t, x = .bl t ∧ (t = true → WSs G a r h1 N T O) ∧ (t = false → WSs G b r h1 N T O)) (fun c xs h1 => O (.ex c xs r h1)))  : WSt G (.iff c a b) r h N T O := by
  simp only [WE, WEs, WA, WT, WO, WI, WSt, WSs, WC, WV] at *
  exact s_iff e
theorem s_rai1' {k : Nat} {c f : Str} {e : Ex} (m : G.mkc k = some (c, some f)) (a : WE G e r h (fun d h1 => O (.ex k [.exc c [f] [d]] r h1)) (fun c xs h1 => O (.ex c xs r h1)))  : WSt G (.rai1 k e) r h N T O := by
  simp only [WE, WEs, WA, WT, WO, WI, WSt, WSs, WC, WV] at *
  exact s_rai1 m a
theorem s_for' (I : List D → Z9.Env → Hh → Prop) {t : Tg} {it : It} {b : Sms} (a : WI G it r h (fun xs h1 => I xs r h1) (fun c xs h1 => O (.ex c xs r h1)))
    (step : ∀ x xs r h, I (x :: xs) r h → ∃ r1, setT t x r = .ok r1 ∧ WSs G b r1 h (fun r' h' => I xs r' h') T (fun o => match o with | .ct r' h' => I xs r' h' | .bk r' h' => N r' h' | o => O o)) (fin : ∀ r h, I [] r h → N r h)  : WSt G (.forr t it b) r h N T O := by
  simp only [WE, WEs, WA, WT, WO, WI, WSt, WSs, WC, WV] at *
  exact s_for I a step fin
theorem s_tryx' {b : Sms} {k v : Nat} {ss : List Xs} (m : G.cls k = true) (a : WSs G b r h N T (fun o => match o with
    | .ex c xs r' h' => (G.sub c k = some true ∧ ∃ cn ns ds o, xs = [.exc cn ns ds] ∧ v < r'.length ∧ evXl G (.exc cn ns ds) ss (r'.set v none) h' = .ok o ∧ WS (.ok (goneX v o)) N T O) ∨ (G.sub c k = some false ∧ O (.ex c xs r' h'))
    | o => O o))  : WSt G (.tryx b k v ss) r h N T O := by
  simp only [WE, WEs, WA, WT, WO, WI, WSt, WSs, WC, WV] at *
  exact s_tryx m a
theorem r_run' {n : Nat} {b : Sms} {xs : List D} {e : Z9.Env} {Q : D → Hh → Prop} {E : Nat → List D → Hh → Prop} (k : e = xs.map some ++ List.replicate (n - xs.length) none) (a : WSs G b e h (fun _ h1 => Q .non h1) Q (fun o => match o with | .ex c ys _ h1 => E c ys h1 | _ => False))  : WP (runD G n b xs h) Q E := by
  simp only [WE, WEs, WA, WT, WO, WI, WSt, WSs, WC, WV] at *
  exact r_run k a
theorem w_of' {e : Ex} (a : WP (evE G e r h) Q E) : WE G e r h Q E := by
  simp only [WE]
  exact a
theorem WE.of {e : Ex} (a : WE G e r h Q E) : WP (evE G e r h) Q E := by
  simp only [WE] at a
  exact a
theorem WE.eq {e : Ex} {X : D} {H : Hh} (a : WE G e r h (fun d h => d = X ∧ h = H) noE) : evE G e r h = .ok (X, H) := WP.eq (WE.of a)
theorem w_eq' {e : Ex} {d : D} {h1 : Hh} (k : evE G e r h = .ok (d, h1)) (q : Q d h1) : WE G e r h Q E := w_of' (w_eq k q)
theorem wd' {R : Res D} {d : D} {Q : D → Prop} (e : R = .ok d) (q : Q d) : WV R Q := by
  simp only [WV]
  exact wd e q
theorem w_C {R : Res (D × Hh)} (a : WP R Q E) : WC R Q E := by
  simp only [WC]
  exact a
theorem w_ceq {R : Res (D × Hh)} {d : D} {h : Hh} (e : R = .ok (d, h)) (q : Q d h) : WC R Q E := w_C (w_eq e q)
end
end Z9

set_option Elab.async false
set_option linter.all false
set_option maxRecDepth 100000
set_option maxHeartbeats 4000000
namespace Z9
open PySem PySem.Spec PyProof.Rows L2
def topS (i : Nat) : Stmt := PySem.Challenge.pw_wholewalks_k16_programs_judged.main.body.getD i (.Pass ⟨0, 0, 0, 0⟩)
abbrev nmL : List Str := [("is_integer" : Str), ("is_within" : Str), ("is_string_of" : Str), ("is_word" : Str), ("are_nexts" : Str), ("is_say" : Str), ("is_dealing" : Str), ("hands_of" : Str), ("is_depth" : Str), ("is_program_item" : Str), ("_law_dice" : Str), ("_law_draw" : Str), ("_law_shuffled" : Str), ("_law_dealing" : Str), ("_law_item" : Str), ("_law_program" : Str), ("_law_is_number" : Str), ("_law_are_nexts" : Str), ("_law_is_word" : Str), ("_law_is_item" : Str), ("_law_is_dealing" : Str), ("_law_wrong" : Str), ("_law_odd" : Str), ("_law_item_changed" : Str), ("_law_changed" : Str), ("_law_refused" : Str), ("law" : Str), ("WalkError" : Str), ("BadProgram" : Str), ("Program" : Str), ("LETTERS" : Str), ("SMALL" : Str), ("MOST_ROWS" : Str), ("MOST_ITEMS" : Str), ("MOST_DEPTH" : Str), ("ValueError" : Str)]
/-- constants, classes of errors, those that are raised -/
abbrev consL : List (Nat × D) := [(30, (.str [97, 98, 99])), (31, (.str [97, 98, 99, 100, 101, 102, 103, 104, 105, 106, 107, 108, 109, 110, 111, 112, 113, 114, 115, 116, 117, 118, 119, 120, 121, 122])), (32, (.int 6)), (33, (.int 20000)), (34, (.int 60))]
abbrev tabL : List (Nat × List Nat) := [(27, [27]), (28, [28, 27])]
abbrev exL : List Nat := []
/-- errors that are values: made, asked of, fields -/
abbrev xtL : XTab := { mks := [(28, ("BadProgram" : Str), some ("part" : Str))], ks := [28, 35], cs := [(("BadProgram" : Str), [28, 35])], fl := [(("BadProgram" : Str), ("part" : Str))] }
/-! is_integer -/
abbrev N_is_integer : List Str := ["thing"]
def ir_is_integer : Sms := (.cons (.ret (.and (.cons (.isi (.var 0) .int) (.cons (.not (.isi (.var 0) .bool)) .nil)))) .nil)
theorem m_is_integer : mSs ⟨N_is_integer, nmL⟩ (defScope (topS 6)) ir_is_integer (defBody (topS 6)) = true := by decide +kernel
theorem sc_is_integer : FnScope N_is_integer ["thing"] (defScope (topS 6)) := ⟨rfl, rfl, rfl, by decide +kernel, rfl, by decide +kernel, by decide +kernel⟩
noncomputable def G_is_integer : Gam := mkG [] consL tabL exL xtL
noncomputable def r_is_integer : Fn := runD G_is_integer 1 ir_is_integer
noncomputable def g_is_integer : Fn := pureF r_is_integer
/-! is_string_of -/
abbrev N_is_string_of : List Str := ["thing", "signs", "sign"]
def ir_is_string_of : Sms := (.cons (.iff (.not (.isi (.var 0) .str)) (.cons (.ret (.con (.bl false))) .nil) .nil) (.cons (.forr (.var 2) (.seq (.var 0)) (.cons (.iff (.cmp .NotIn (.var 2) (.var 1)) (.cons (.ret (.con (.bl false))) .nil) .nil) .nil)) (.cons (.ret (.con (.bl true))) .nil)))
theorem m_is_string_of : mSs ⟨N_is_string_of, nmL⟩ (defScope (topS 8)) ir_is_string_of (defBody (topS 8)) = true := by decide +kernel
theorem sc_is_string_of : FnScope N_is_string_of ["thing", "signs"] (defScope (topS 8)) := ⟨rfl, rfl, rfl, by decide +kernel, rfl, by decide +kernel, by decide +kernel⟩
noncomputable def G_is_string_of : Gam := mkG [] consL tabL exL xtL
noncomputable def r_is_string_of : Fn := runD G_is_string_of 3 ir_is_string_of
noncomputable def g_is_string_of : Fn := pureF r_is_string_of
/-! hands_of -/
abbrev N_hands_of : List Str := ["dealing"]
def ir_hands_of : Sms := (.cons (.ret (.bin .Add (.bcall .max (.cons (.var 0) .nil)) (.con (.int 1)))) .nil)
theorem m_hands_of : mSs ⟨N_hands_of, nmL⟩ (defScope (topS 18)) ir_hands_of (defBody (topS 18)) = true := by decide +kernel
theorem sc_hands_of : FnScope N_hands_of ["dealing"] (defScope (topS 18)) := ⟨rfl, rfl, rfl, by decide +kernel, rfl, by decide +kernel, by decide +kernel⟩
noncomputable def G_hands_of : Gam := mkG [] consL tabL exL xtL
noncomputable def r_hands_of : Fn := runD G_hands_of 1 ir_hands_of
noncomputable def g_hands_of : Fn := pureF r_hands_of
/-! _law_dice -/
abbrev N_law_dice : List Str := ["_law_script", "_law_cell"]
def ir_law_dice : Sms := (.cons (.ret (.newl (.cons (.lc false (.bcall .abs (.cons (.bcall .int (.cons (.var 1) .nil)) .nil)) (.var 1) (.seq (.sl (.var 0) .none (.some (.con (.int 63))))) .nil [1]) (.cons (.con (.int 0)) (.cons (.con (.int 0)) (.cons (.con (.int 1)) (.cons (.con (.int 0)) .nil))))))) .nil)
theorem m_law_dice : mSs ⟨N_law_dice, nmL⟩ (defScope (topS 23)) ir_law_dice (defBody (topS 23)) = true := by decide +kernel
theorem sc_law_dice : FnScope N_law_dice ["_law_script"] (defScope (topS 23)) := ⟨rfl, rfl, rfl, by decide +kernel, rfl, by decide +kernel, by decide +kernel⟩
noncomputable def G_law_dice : Gam := mkG [] consL tabL exL xtL
noncomputable def r_law_dice : Fn := runD G_law_dice 2 ir_law_dice
noncomputable def g_law_dice : Fn := r_law_dice
/-! _law_draw -/
abbrev N_law_draw : List Str := ["_law_dice_here", "_law_sides", "_law_mixed", "_law_cell", "_law_digit"]
def ir_law_draw : Sms := (.cons (.iff (.and (.cons (.cmp .Eq (.ix (.var 0) (.con (.int 2))) (.con (.int 0))) (.cons (.cmp .Lt (.ix (.var 0) (.con (.int 1))) (.bcall .len (.cons (.ix (.var 0) (.con (.int 0))) .nil))) .nil))) (.cons (.set 3 (.ix (.ix (.var 0) (.con (.int 0))) (.ix (.var 0) (.con (.int 1))))) (.cons (.seti (.var 0) (.con (.int 1)) (.bin .Add (.ix (.var 0) (.con (.int 1))) (.con (.int 1)))) (.cons (.iff (.cmp .GtE (.var 3) (.bin .Pow (.con (.int 10)) (.con (.int 18)))) (.cons (.seti (.var 0) (.con (.int 2)) (.var 3)) .nil) (.cons (.seti (.var 0) (.con (.int 3)) (.bin .Mod (.bcall .int (.cons (.bin .Add (.bin .Add (.bin .Mult (.ix (.var 0) (.con (.int 3))) (.con (.int 69621))) (.bin .Mult (.var 3) (.con (.int 40692)))) (.ix (.var 0) (.con (.int 1)))) .nil)) (.con (.int 2147483647)))) .nil)) .nil))) .nil) (.cons (.iff (.cmp .Gt (.ix (.var 0) (.con (.int 2))) (.con (.int 0))) (.cons (.set 4 (.bin .Mod (.bcall .int (.cons (.ix (.var 0) (.con (.int 2))) .nil)) (.var 1))) (.cons (.seti (.var 0) (.con (.int 2)) (.bin .FloorDiv (.bcall .int (.cons (.ix (.var 0) (.con (.int 2))) .nil)) (.var 1))) (.cons (.ret (.var 4)) .nil))) .nil) (.cons (.seti (.var 0) (.con (.int 4)) (.bin .Add (.ix (.var 0) (.con (.int 4))) (.con (.int 1)))) (.cons (.seti (.var 0) (.con (.int 3)) (.bin .Mod (.bcall .int (.cons (.bin .Add (.bin .Add (.bin .Mult (.ix (.var 0) (.con (.int 3))) (.con (.int 48271))) (.bin .Mult (.ix (.var 0) (.con (.int 4))) (.con (.int 7919)))) (.con (.int 1))) .nil)) (.con (.int 2147483647)))) (.cons (.set 2 (.bin .Mod (.bcall .int (.cons (.bin .Mult (.ix (.var 0) (.con (.int 3))) (.bin .Add (.bin .FloorDiv (.ix (.var 0) (.con (.int 3))) (.con (.int 1009))) (.con (.int 69623)))) .nil)) (.con (.int 2147483399)))) (.cons (.set 2 (.bin .Mod (.bcall .int (.cons (.bin .Mult (.var 2) (.bin .Add (.bin .FloorDiv (.var 2) (.con (.int 2003))) (.con (.int 40693)))) .nil)) (.con (.int 2147483563)))) (.cons (.ret (.bin .Mod (.bcall .int (.cons (.bin .FloorDiv (.var 2) (.con (.int 16))) .nil)) (.var 1))) .nil)))))))
theorem m_law_draw : mSs ⟨N_law_draw, nmL⟩ (defScope (topS 24)) ir_law_draw (defBody (topS 24)) = true := by decide +kernel
theorem sc_law_draw : FnScope N_law_draw ["_law_dice_here", "_law_sides"] (defScope (topS 24)) := ⟨rfl, rfl, rfl, by decide +kernel, rfl, by decide +kernel, by decide +kernel⟩
noncomputable def G_law_draw : Gam := mkG [] consL tabL exL xtL
noncomputable def r_law_draw : Fn := runD G_law_draw 5 ir_law_draw
noncomputable def g_law_draw : Fn := r_law_draw
/-! _law_is_number -/
abbrev N_law_is_number : List Str := ["_law_thing", "_law_least", "_law_most"]
def ir_law_is_number : Sms := (.cons (.ret (.and (.cons (.isi (.var 0) .int) (.cons (.not (.isi (.var 0) .bool)) (.cons (.cmp2 .LtE .LtE (.var 1) (.var 0) (.var 2)) .nil))))) .nil)
theorem m_law_is_number : mSs ⟨N_law_is_number, nmL⟩ (defScope (topS 29)) ir_law_is_number (defBody (topS 29)) = true := by decide +kernel
theorem sc_law_is_number : FnScope N_law_is_number ["_law_thing", "_law_least", "_law_most"] (defScope (topS 29)) := ⟨rfl, rfl, rfl, by decide +kernel, rfl, by decide +kernel, by decide +kernel⟩
noncomputable def G_law_is_number : Gam := mkG [] consL tabL exL xtL
noncomputable def r_law_is_number : Fn := runD G_law_is_number 3 ir_law_is_number
noncomputable def g_law_is_number : Fn := pureF r_law_is_number
/-! _law_is_word -/
abbrev N_law_is_word : List Str := ["_law_thing", "_law_letter"]
def ir_law_is_word : Sms := (.cons (.iff (.or (.cons (.not (.isi (.var 0) .str)) (.cons (.not (.cmp2 .LtE .LtE (.con (.int 1)) (.bcall .len (.cons (.var 0) .nil)) (.con (.int 8)))) .nil))) (.cons (.ret (.con (.bl false))) .nil) .nil) (.cons (.ret (.bcall .all (.cons (.lc false (.cmp .In (.var 1) (.con (.str [97, 98, 99, 100, 101, 102, 103, 104, 105, 106, 107, 108, 109, 110, 111, 112, 113, 114, 115, 116, 117, 118, 119, 120, 121, 122]))) (.var 1) (.seq (.var 0)) .nil [1]) .nil))) .nil))
theorem m_law_is_word : mSs ⟨N_law_is_word, nmL⟩ (defScope (topS 31)) ir_law_is_word (defBody (topS 31)) = true := by decide +kernel
theorem sc_law_is_word : FnScope N_law_is_word ["_law_thing"] (defScope (topS 31)) := ⟨rfl, rfl, rfl, by decide +kernel, rfl, by decide +kernel, by decide +kernel⟩
noncomputable def G_law_is_word : Gam := mkG [] consL tabL exL xtL
noncomputable def r_law_is_word : Fn := runD G_law_is_word 2 ir_law_is_word
noncomputable def g_law_is_word : Fn := pureF r_law_is_word
/-! Program.keep -/
abbrev N_Program_keep : List Str := ["self", "rows", "letters", "dealing", "depth", "table"]
def ir_Program_keep : Sms := (.cons (.setf (.var 0) "rows" (.var 1)) (.cons (.setf (.var 0) "letters" (.var 2)) (.cons (.setf (.var 0) "dealing" (.var 3)) (.cons (.setf (.var 0) "depth" (.var 4)) (.cons (.setf (.var 0) "table" (.var 5)) .nil)))))
theorem m_Program_keep : mSs ⟨N_Program_keep, nmL⟩ (defScope (inCls (topS 21) 1)) ir_Program_keep (defBody (inCls (topS 21) 1)) = true := by decide +kernel
theorem sc_Program_keep : FnScope N_Program_keep ["self", "rows", "letters", "dealing", "depth", "table"] (defScope (inCls (topS 21) 1)) := ⟨rfl, rfl, rfl, by decide +kernel, rfl, by decide +kernel, by decide +kernel⟩
noncomputable def G_Program_keep : Gam := mkG [] consL tabL exL xtL { ini := [], mth := [], ifl := [("Program", "rows"), ("Program", "letters"), ("Program", "dealing"), ("Program", "depth"), ("Program", "table")] }
noncomputable def r_Program_keep : Fn := runD G_Program_keep 6 ir_Program_keep
noncomputable def g_Program_keep : Fn := r_Program_keep
/-! is_within -/
abbrev N_is_within : List Str := ["thing", "least", "most"]
def ir_is_within : Sms := (.cons (.ret (.and (.cons (.call 0 (.cons (.var 0) .nil)) (.cons (.cmp2 .LtE .LtE (.var 1) (.var 0) (.var 2)) .nil)))) .nil)
theorem m_is_within : mSs ⟨N_is_within, nmL⟩ (defScope (topS 7)) ir_is_within (defBody (topS 7)) = true := by decide +kernel
theorem sc_is_within : FnScope N_is_within ["thing", "least", "most"] (defScope (topS 7)) := ⟨rfl, rfl, rfl, by decide +kernel, rfl, by decide +kernel, by decide +kernel⟩
noncomputable def G_is_within : Gam := mkG [(0, 1, g_is_integer)] consL tabL exL xtL
@[simp] theorem c_is_within_is_integer (es : Exs) (r : Z9.Env) (h : Hh) : evE G_is_within (.call 0 es) r h = (evEs G_is_within es r h).bind fun p => if p.1.length = 1 then g_is_integer p.1 p.2 else .no := ev_call _ _ _ rfl es
noncomputable def r_is_within : Fn := runD G_is_within 3 ir_is_within
noncomputable def g_is_within : Fn := pureF r_is_within
/-! is_word -/
abbrev N_is_word : List Str := ["thing"]
def ir_is_word : Sms := (.cons (.ret (.and (.cons (.call 2 (.cons (.var 0) (.cons (.glob 31) .nil))) (.cons (.cmp2 .LtE .LtE (.con (.int 1)) (.bcall .len (.cons (.var 0) .nil)) (.con (.int 8))) .nil)))) .nil)
theorem m_is_word : mSs ⟨N_is_word, nmL⟩ (defScope (topS 9)) ir_is_word (defBody (topS 9)) = true := by decide +kernel
theorem sc_is_word : FnScope N_is_word ["thing"] (defScope (topS 9)) := ⟨rfl, rfl, rfl, by decide +kernel, rfl, by decide +kernel, by decide +kernel⟩
noncomputable def G_is_word : Gam := mkG [(2, 2, g_is_string_of)] consL tabL exL xtL
@[simp] theorem c_is_word_is_string_of (es : Exs) (r : Z9.Env) (h : Hh) : evE G_is_word (.call 2 es) r h = (evEs G_is_word es r h).bind fun p => if p.1.length = 2 then g_is_string_of p.1 p.2 else .no := ev_call _ _ _ rfl es
@[simp] theorem k_is_word_SMALL : G_is_word.con 31 = some (.str [97, 98, 99, 100, 101, 102, 103, 104, 105, 106, 107, 108, 109, 110, 111, 112, 113, 114, 115, 116, 117, 118, 119, 120, 121, 122]) := rfl
noncomputable def r_is_word : Fn := runD G_is_word 1 ir_is_word
noncomputable def g_is_word : Fn := pureF r_is_word
/-! _law_shuffled -/
abbrev N_law_shuffled : List Str := ["_law_dice_here", "_law_items", "_law_left", "_law_k"]
def ir_law_shuffled : Sms := (.cons (.set 2 (.lof (.var 1))) (.cons (.ret (.bcall .tuple (.cons (.lc false (.bmeth .pop (.var 2) (.cons (.call 11 (.cons (.var 0) (.cons (.bcall .len (.cons (.var 2) .nil)) .nil))) .nil)) (.var 3) (.range (.bcall .len (.cons (.var 2) .nil))) .nil [3]) .nil))) .nil))
theorem m_law_shuffled : mSs ⟨N_law_shuffled, nmL⟩ (defScope (topS 25)) ir_law_shuffled (defBody (topS 25)) = true := by decide +kernel
theorem sc_law_shuffled : FnScope N_law_shuffled ["_law_dice_here", "_law_items"] (defScope (topS 25)) := ⟨rfl, rfl, rfl, by decide +kernel, rfl, by decide +kernel, by decide +kernel⟩
noncomputable def G_law_shuffled : Gam := mkG [(11, 2, g_law_draw)] consL tabL exL xtL
@[simp] theorem c_law_shuffled_law_draw (es : Exs) (r : Z9.Env) (h : Hh) : evE G_law_shuffled (.call 11 es) r h = (evEs G_law_shuffled es r h).bind fun p => if p.1.length = 2 then g_law_draw p.1 p.2 else .no := ev_call _ _ _ rfl es
noncomputable def r_law_shuffled : Fn := runD G_law_shuffled 4 ir_law_shuffled
noncomputable def g_law_shuffled : Fn := r_law_shuffled
/-! _law_item -/
abbrev N_law_item : List Str := ["_law_dice_here", "_law_rows", "_law_letters", "_law_hands", "_law_size", "_law_kind", "_law_nexts", "_law_k"]
def ir_law_item : Sms := (.cons (.set 6 (.bcall .tuple (.cons (.lc false (.call 11 (.cons (.var 0) (.cons (.var 4) .nil))) (.var 7) (.range (.bin .Add (.var 2) (.con (.int 1)))) .nil [7]) .nil))) (.cons (.iff (.cmp .Lt (.var 5) (.con (.int 4))) (.cons (.ret (.tup (.cons (.con (.str [98, 101, 103, 105, 110])) (.cons (.call 11 (.cons (.var 0) (.cons (.var 1) .nil))) (.cons (.var 6) .nil))))) .nil) .nil) (.cons (.iff (.cmp .Lt (.var 5) (.con (.int 8))) (.cons (.ret (.tup (.cons (.con (.str [111, 110])) (.cons (.call 11 (.cons (.var 0) (.cons (.var 3) .nil))) (.cons (.var 6) .nil))))) .nil) .nil) (.cons (.iff (.cmp .Lt (.var 5) (.con (.int 10))) (.cons (.ret (.tup (.cons (.con (.str [108, 101, 97, 118, 101])) (.cons (.call 11 (.cons (.var 0) (.cons (.var 3) .nil))) (.cons (.ix (.var 6) (.con (.int 0))) .nil))))) .nil) .nil) (.cons (.iff (.cmp .Eq (.var 5) (.con (.int 10))) (.cons (.ret (.tup (.cons (.con (.str [115, 97, 121])) (.cons (.ix (.lst (.cons (.con (.str [120])) (.cons (.con (.str [121, 101, 115])) (.cons (.con (.str [119, 111, 114, 100, 115])) .nil)))) (.call 11 (.cons (.var 0) (.cons (.con (.int 3)) .nil)))) (.cons (.ix (.var 6) (.con (.int 0))) .nil))))) .nil) .nil) (.cons (.ret (.tup (.cons (.con (.str [115, 116, 111, 112])) .nil))) .nil))))))
theorem m_law_item : mSs ⟨N_law_item, nmL⟩ (defScope (topS 27)) ir_law_item (defBody (topS 27)) = true := by decide +kernel
theorem sc_law_item : FnScope N_law_item ["_law_dice_here", "_law_rows", "_law_letters", "_law_hands", "_law_size", "_law_kind"] (defScope (topS 27)) := ⟨rfl, rfl, rfl, by decide +kernel, rfl, by decide +kernel, by decide +kernel⟩
noncomputable def G_law_item : Gam := mkG [(11, 2, g_law_draw)] consL tabL exL xtL
@[simp] theorem c_law_item_law_draw (es : Exs) (r : Z9.Env) (h : Hh) : evE G_law_item (.call 11 es) r h = (evEs G_law_item es r h).bind fun p => if p.1.length = 2 then g_law_draw p.1 p.2 else .no := ev_call _ _ _ rfl es
noncomputable def r_law_item : Fn := runD G_law_item 8 ir_law_item
noncomputable def g_law_item : Fn := r_law_item
/-! _law_are_nexts -/
abbrev N_law_are_nexts : List Str := ["_law_thing", "_law_letters", "_law_many", "_law_standing"]
def ir_law_are_nexts : Sms := (.cons (.iff (.or (.cons (.not (.isi (.var 0) .tuple)) (.cons (.cmp .NotEq (.bcall .len (.cons (.var 0) .nil)) (.bin .Add (.var 1) (.con (.int 1)))) .nil))) (.cons (.ret (.con (.bl false))) .nil) .nil) (.cons (.ret (.bcall .all (.cons (.lc false (.call 16 (.cons (.var 3) (.cons (.con (.int 0)) (.cons (.bin .Sub (.var 2) (.con (.int 1))) .nil)))) (.var 3) (.seq (.var 0)) .nil [3]) .nil))) .nil))
theorem m_law_are_nexts : mSs ⟨N_law_are_nexts, nmL⟩ (defScope (topS 30)) ir_law_are_nexts (defBody (topS 30)) = true := by decide +kernel
theorem sc_law_are_nexts : FnScope N_law_are_nexts ["_law_thing", "_law_letters", "_law_many"] (defScope (topS 30)) := ⟨rfl, rfl, rfl, by decide +kernel, rfl, by decide +kernel, by decide +kernel⟩
noncomputable def G_law_are_nexts : Gam := mkG [(16, 3, g_law_is_number)] consL tabL exL xtL
@[simp] theorem c_law_are_nexts_law_is_number (es : Exs) (r : Z9.Env) (h : Hh) : evE G_law_are_nexts (.call 16 es) r h = (evEs G_law_are_nexts es r h).bind fun p => if p.1.length = 3 then g_law_is_number p.1 p.2 else .no := ev_call _ _ _ rfl es
noncomputable def r_law_are_nexts : Fn := runD G_law_are_nexts 4 ir_law_are_nexts
noncomputable def g_law_are_nexts : Fn := pureF r_law_are_nexts
/-! _law_is_dealing -/
abbrev N_law_is_dealing : List Str := ["_law_thing", "_law_rows", "_law_hand"]
def ir_law_is_dealing : Sms := (.cons (.iff (.or (.cons (.not (.isi (.var 0) .tuple)) (.cons (.cmp .NotEq (.bcall .len (.cons (.var 0) .nil)) (.var 1)) .nil))) (.cons (.ret (.con (.bl false))) .nil) .nil) (.cons (.iff (.not (.bcall .all (.cons (.lc false (.call 16 (.cons (.var 2) (.cons (.con (.int 0)) (.cons (.bin .Sub (.var 1) (.con (.int 1))) .nil)))) (.var 2) (.seq (.var 0)) .nil [2]) .nil))) (.cons (.ret (.con (.bl false))) .nil) .nil) (.cons (.ret (.cmp .Eq (.sset (.var 0)) (.lor false (.bin .Add (.con (.int 1)) (.bcall .max (.cons (.var 0) .nil)))))) .nil)))
theorem m_law_is_dealing : mSs ⟨N_law_is_dealing, nmL⟩ (defScope (topS 33)) ir_law_is_dealing (defBody (topS 33)) = true := by decide +kernel
theorem sc_law_is_dealing : FnScope N_law_is_dealing ["_law_thing", "_law_rows"] (defScope (topS 33)) := ⟨rfl, rfl, rfl, by decide +kernel, rfl, by decide +kernel, by decide +kernel⟩
noncomputable def G_law_is_dealing : Gam := mkG [(16, 3, g_law_is_number)] consL tabL exL xtL
@[simp] theorem c_law_is_dealing_law_is_number (es : Exs) (r : Z9.Env) (h : Hh) : evE G_law_is_dealing (.call 16 es) r h = (evEs G_law_is_dealing es r h).bind fun p => if p.1.length = 3 then g_law_is_number p.1 p.2 else .no := ev_call _ _ _ rfl es
noncomputable def r_law_is_dealing : Fn := runD G_law_is_dealing 3 ir_law_is_dealing
noncomputable def g_law_is_dealing : Fn := pureF r_law_is_dealing
/-! _law_odd -/
abbrev N_law_odd : List Str := ["_law_dice_here", "_law_near", "_law_kind"]
def ir_law_odd : Sms := (.cons (.set 2 (.call 11 (.cons (.var 0) (.cons (.con (.int 13)) .nil)))) (.cons (.iff (.cmp .Lt (.var 2) (.con (.int 3))) (.cons (.ret (.bin .Sub (.bin .Add (.var 1) (.var 2)) (.con (.int 1)))) .nil) .nil) (.cons (.ret (.ix (.lst (.cons (.con .non) (.cons (.con (.bl true)) (.cons (.con (.bl false)) (.cons (.con (.str [49])) (.cons (.tup (.cons (.var 1) .nil)) (.cons (.lst (.cons (.var 1) .nil)) (.cons (.neg (.con (.int 1))) (.cons (.bin .Pow (.con (.int 10)) (.con (.int 39))) (.cons .dic0 (.cons (.con (.int 0)) .nil))))))))))) (.bin .Sub (.var 2) (.con (.int 3))))) .nil)))
theorem m_law_odd : mSs ⟨N_law_odd, nmL⟩ (defScope (topS 35)) ir_law_odd (defBody (topS 35)) = true := by decide +kernel
theorem sc_law_odd : FnScope N_law_odd ["_law_dice_here", "_law_near"] (defScope (topS 35)) := ⟨rfl, rfl, rfl, by decide +kernel, rfl, by decide +kernel, by decide +kernel⟩
noncomputable def G_law_odd : Gam := mkG [(11, 2, g_law_draw)] consL tabL exL xtL
@[simp] theorem c_law_odd_law_draw (es : Exs) (r : Z9.Env) (h : Hh) : evE G_law_odd (.call 11 es) r h = (evEs G_law_odd es r h).bind fun p => if p.1.length = 2 then g_law_draw p.1 p.2 else .no := ev_call _ _ _ rfl es
noncomputable def r_law_odd : Fn := runD G_law_odd 3 ir_law_odd
noncomputable def g_law_odd : Fn := r_law_odd
/-! are_nexts -/
abbrev N_are_nexts : List Str := ["thing", "letters", "many", "standing"]
def ir_are_nexts : Sms := (.cons (.iff (.or (.cons (.not (.isi (.var 0) .tuple)) (.cons (.cmp .NotEq (.bcall .len (.cons (.var 0) .nil)) (.bin .Add (.var 1) (.con (.int 1)))) .nil))) (.cons (.ret (.con (.bl false))) .nil) .nil) (.cons (.ret (.bcall .all (.cons (.lc false (.call 1 (.cons (.var 3) (.cons (.con (.int 0)) (.cons (.bin .Sub (.var 2) (.con (.int 1))) .nil)))) (.var 3) (.seq (.var 0)) .nil [3]) .nil))) .nil))
theorem m_are_nexts : mSs ⟨N_are_nexts, nmL⟩ (defScope (topS 12)) ir_are_nexts (defBody (topS 12)) = true := by decide +kernel
theorem sc_are_nexts : FnScope N_are_nexts ["thing", "letters", "many"] (defScope (topS 12)) := ⟨rfl, rfl, rfl, by decide +kernel, rfl, by decide +kernel, by decide +kernel⟩
noncomputable def G_are_nexts : Gam := mkG [(1, 3, g_is_within)] consL tabL exL xtL
@[simp] theorem c_are_nexts_is_within (es : Exs) (r : Z9.Env) (h : Hh) : evE G_are_nexts (.call 1 es) r h = (evEs G_are_nexts es r h).bind fun p => if p.1.length = 3 then g_is_within p.1 p.2 else .no := ev_call _ _ _ rfl es
noncomputable def r_are_nexts : Fn := runD G_are_nexts 4 ir_are_nexts
noncomputable def g_are_nexts : Fn := pureF r_are_nexts
/-! is_say -/
abbrev N_is_say : List Str := ["thing", "many"]
def ir_is_say : Sms := (.cons (.ret (.and (.cons (.cmp .Eq (.bcall .len (.cons (.var 0) .nil)) (.con (.int 3))) (.cons (.call 3 (.cons (.ix (.var 0) (.con (.int 1))) .nil)) (.cons (.call 1 (.cons (.ix (.var 0) (.con (.int 2))) (.cons (.con (.int 0)) (.cons (.bin .Sub (.var 1) (.con (.int 1))) .nil)))) .nil))))) .nil)
theorem m_is_say : mSs ⟨N_is_say, nmL⟩ (defScope (topS 13)) ir_is_say (defBody (topS 13)) = true := by decide +kernel
theorem sc_is_say : FnScope N_is_say ["thing", "many"] (defScope (topS 13)) := ⟨rfl, rfl, rfl, by decide +kernel, rfl, by decide +kernel, by decide +kernel⟩
noncomputable def G_is_say : Gam := mkG [(3, 1, g_is_word), (1, 3, g_is_within)] consL tabL exL xtL
@[simp] theorem c_is_say_is_word (es : Exs) (r : Z9.Env) (h : Hh) : evE G_is_say (.call 3 es) r h = (evEs G_is_say es r h).bind fun p => if p.1.length = 1 then g_is_word p.1 p.2 else .no := ev_call _ _ _ rfl es
@[simp] theorem c_is_say_is_within (es : Exs) (r : Z9.Env) (h : Hh) : evE G_is_say (.call 1 es) r h = (evEs G_is_say es r h).bind fun p => if p.1.length = 3 then g_is_within p.1 p.2 else .no := ev_call _ _ _ rfl es
noncomputable def r_is_say : Fn := runD G_is_say 2 ir_is_say
noncomputable def g_is_say : Fn := pureF r_is_say
/-! is_dealing -/
abbrev N_is_dealing : List Str := ["rows", "thing", "hand"]
def ir_is_dealing : Sms := (.cons (.iff (.or (.cons (.not (.isi (.var 1) .tuple)) (.cons (.cmp .NotEq (.bcall .len (.cons (.var 1) .nil)) (.var 0)) .nil))) (.cons (.ret (.con (.bl false))) .nil) .nil) (.cons (.iff (.not (.bcall .all (.cons (.lc false (.call 1 (.cons (.var 2) (.cons (.con (.int 0)) (.cons (.bin .Sub (.var 0) (.con (.int 1))) .nil)))) (.var 2) (.seq (.var 1)) .nil [2]) .nil))) (.cons (.ret (.con (.bl false))) .nil) .nil) (.cons (.ret (.bcall .all (.cons (.lc false (.cmp .In (.var 2) (.var 1)) (.var 2) (.range (.bcall .max (.cons (.var 1) .nil))) .nil [2]) .nil))) .nil)))
theorem m_is_dealing : mSs ⟨N_is_dealing, nmL⟩ (defScope (topS 17)) ir_is_dealing (defBody (topS 17)) = true := by decide +kernel
theorem sc_is_dealing : FnScope N_is_dealing ["rows", "thing"] (defScope (topS 17)) := ⟨rfl, rfl, rfl, by decide +kernel, rfl, by decide +kernel, by decide +kernel⟩
noncomputable def G_is_dealing : Gam := mkG [(1, 3, g_is_within)] consL tabL exL xtL
@[simp] theorem c_is_dealing_is_within (es : Exs) (r : Z9.Env) (h : Hh) : evE G_is_dealing (.call 1 es) r h = (evEs G_is_dealing es r h).bind fun p => if p.1.length = 3 then g_is_within p.1 p.2 else .no := ev_call _ _ _ rfl es
noncomputable def r_is_dealing : Fn := runD G_is_dealing 3 ir_is_dealing
noncomputable def g_is_dealing : Fn := pureF r_is_dealing
/-! is_depth -/
abbrev N_is_depth : List Str := ["thing", "dealing"]
def ir_is_depth : Sms := (.cons (.iff (.isn (.var 0)) (.cons (.ret (.cmp .Eq (.call 7 (.cons (.var 1) .nil)) (.con (.int 1)))) .nil) .nil) (.cons (.ret (.call 1 (.cons (.var 0) (.cons (.con (.int 1)) (.cons (.glob 34) .nil))))) .nil))
theorem m_is_depth : mSs ⟨N_is_depth, nmL⟩ (defScope (topS 19)) ir_is_depth (defBody (topS 19)) = true := by decide +kernel
theorem sc_is_depth : FnScope N_is_depth ["thing", "dealing"] (defScope (topS 19)) := ⟨rfl, rfl, rfl, by decide +kernel, rfl, by decide +kernel, by decide +kernel⟩
noncomputable def G_is_depth : Gam := mkG [(7, 1, g_hands_of), (1, 3, g_is_within)] consL tabL exL xtL
@[simp] theorem c_is_depth_hands_of (es : Exs) (r : Z9.Env) (h : Hh) : evE G_is_depth (.call 7 es) r h = (evEs G_is_depth es r h).bind fun p => if p.1.length = 1 then g_hands_of p.1 p.2 else .no := ev_call _ _ _ rfl es
@[simp] theorem c_is_depth_is_within (es : Exs) (r : Z9.Env) (h : Hh) : evE G_is_depth (.call 1 es) r h = (evEs G_is_depth es r h).bind fun p => if p.1.length = 3 then g_is_within p.1 p.2 else .no := ev_call _ _ _ rfl es
@[simp] theorem k_is_depth_MOST_DEPTH : G_is_depth.con 34 = some (.int 60) := rfl
noncomputable def r_is_depth : Fn := runD G_is_depth 2 ir_is_depth
noncomputable def g_is_depth : Fn := pureF r_is_depth
/-! _law_dealing -/
abbrev N_law_dealing : List Str := ["_law_dice_here", "_law_rows", "_law_found", "_law_row", "_law_names", "_law_hand"]
def ir_law_dealing : Sms := (.cons (.set 2 (.newl .nil)) (.cons (.forr (.var 3) (.range (.var 1)) (.cons (.expr (.bmeth .append (.var 2) (.cons (.call 11 (.cons (.var 0) (.cons (.bin .Add (.con (.int 1)) (.bcall .len (.cons (.lc false (.var 5) (.var 5) (.range (.var 1)) (.cons (.inr false (.var 5) (.var 2)) .nil) [5]) .nil))) .nil))) .nil))) .nil)) (.cons (.set 4 (.call 12 (.cons (.var 0) (.cons (.lor false (.bin .Add (.con (.int 1)) (.bcall .max (.cons (.var 2) .nil)))) .nil)))) (.cons (.ret (.bcall .tuple (.cons (.lcv false (.ix (.var 4) (.var 5)) (.var 5) (.var 2) .nil [5]) .nil))) .nil))))
theorem m_law_dealing : mSs ⟨N_law_dealing, nmL⟩ (defScope (topS 26)) ir_law_dealing (defBody (topS 26)) = true := by decide +kernel
theorem sc_law_dealing : FnScope N_law_dealing ["_law_dice_here", "_law_rows"] (defScope (topS 26)) := ⟨rfl, rfl, rfl, by decide +kernel, rfl, by decide +kernel, by decide +kernel⟩
noncomputable def G_law_dealing : Gam := mkG [(11, 2, g_law_draw), (12, 2, g_law_shuffled)] consL tabL exL xtL
@[simp] theorem c_law_dealing_law_draw (es : Exs) (r : Z9.Env) (h : Hh) : evE G_law_dealing (.call 11 es) r h = (evEs G_law_dealing es r h).bind fun p => if p.1.length = 2 then g_law_draw p.1 p.2 else .no := ev_call _ _ _ rfl es
@[simp] theorem c_law_dealing_law_shuffled (es : Exs) (r : Z9.Env) (h : Hh) : evE G_law_dealing (.call 12 es) r h = (evEs G_law_dealing es r h).bind fun p => if p.1.length = 2 then g_law_shuffled p.1 p.2 else .no := ev_call _ _ _ rfl es
noncomputable def r_law_dealing : Fn := runD G_law_dealing 6 ir_law_dealing
noncomputable def g_law_dealing : Fn := r_law_dealing
/-! _law_is_item -/
abbrev N_law_is_item : List Str := ["_law_thing", "_law_dealing_here", "_law_letters", "_law_many"]
def ir_law_is_item : Sms := (.cons (.iff (.or (.cons (.not (.isi (.var 0) .tuple)) (.cons (.cmp .Eq (.bcall .len (.cons (.var 0) .nil)) (.con (.int 0))) .nil))) (.cons (.ret (.con (.bl false))) .nil) .nil) (.cons (.iff (.cmp .Eq (.var 0) (.tup (.cons (.con (.str [115, 116, 111, 112])) .nil))) (.cons (.ret (.con (.bl true))) .nil) .nil) (.cons (.iff (.or (.cons (.cmp .NotEq (.bcall .len (.cons (.var 0) .nil)) (.con (.int 3))) (.cons (.not (.isi (.ix (.var 0) (.con (.int 0))) .str)) .nil))) (.cons (.ret (.con (.bl false))) .nil) .nil) (.cons (.iff (.cmp .Eq (.ix (.var 0) (.con (.int 0))) (.con (.str [98, 101, 103, 105, 110]))) (.cons (.ret (.and (.cons (.call 16 (.cons (.ix (.var 0) (.con (.int 1))) (.cons (.con (.int 0)) (.cons (.bin .Sub (.bcall .len (.cons (.var 1) .nil)) (.con (.int 1))) .nil)))) (.cons (.call 17 (.cons (.ix (.var 0) (.con (.int 2))) (.cons (.var 2) (.cons (.var 3) .nil)))) .nil)))) .nil) .nil) (.cons (.iff (.cmp .Eq (.ix (.var 0) (.con (.int 0))) (.con (.str [111, 110]))) (.cons (.ret (.and (.cons (.call 16 (.cons (.ix (.var 0) (.con (.int 1))) (.cons (.con (.int 0)) (.cons (.bcall .max (.cons (.var 1) .nil)) .nil)))) (.cons (.call 17 (.cons (.ix (.var 0) (.con (.int 2))) (.cons (.var 2) (.cons (.var 3) .nil)))) .nil)))) .nil) .nil) (.cons (.iff (.cmp .Eq (.ix (.var 0) (.con (.int 0))) (.con (.str [108, 101, 97, 118, 101]))) (.cons (.ret (.and (.cons (.call 16 (.cons (.ix (.var 0) (.con (.int 1))) (.cons (.con (.int 0)) (.cons (.bcall .max (.cons (.var 1) .nil)) .nil)))) (.cons (.call 16 (.cons (.ix (.var 0) (.con (.int 2))) (.cons (.con (.int 0)) (.cons (.bin .Sub (.var 3) (.con (.int 1))) .nil)))) .nil)))) .nil) .nil) (.cons (.ret (.and (.cons (.cmp .Eq (.ix (.var 0) (.con (.int 0))) (.con (.str [115, 97, 121]))) (.cons (.call 18 (.cons (.ix (.var 0) (.con (.int 1))) .nil)) (.cons (.call 16 (.cons (.ix (.var 0) (.con (.int 2))) (.cons (.con (.int 0)) (.cons (.bin .Sub (.var 3) (.con (.int 1))) .nil)))) .nil))))) .nil)))))))
theorem m_law_is_item : mSs ⟨N_law_is_item, nmL⟩ (defScope (topS 32)) ir_law_is_item (defBody (topS 32)) = true := by decide +kernel
theorem sc_law_is_item : FnScope N_law_is_item ["_law_thing", "_law_dealing_here", "_law_letters", "_law_many"] (defScope (topS 32)) := ⟨rfl, rfl, rfl, by decide +kernel, rfl, by decide +kernel, by decide +kernel⟩
noncomputable def G_law_is_item : Gam := mkG [(16, 3, g_law_is_number), (17, 3, g_law_are_nexts), (18, 1, g_law_is_word)] consL tabL exL xtL
@[simp] theorem c_law_is_item_law_is_number (es : Exs) (r : Z9.Env) (h : Hh) : evE G_law_is_item (.call 16 es) r h = (evEs G_law_is_item es r h).bind fun p => if p.1.length = 3 then g_law_is_number p.1 p.2 else .no := ev_call _ _ _ rfl es
@[simp] theorem c_law_is_item_law_are_nexts (es : Exs) (r : Z9.Env) (h : Hh) : evE G_law_is_item (.call 17 es) r h = (evEs G_law_is_item es r h).bind fun p => if p.1.length = 3 then g_law_are_nexts p.1 p.2 else .no := ev_call _ _ _ rfl es
@[simp] theorem c_law_is_item_law_is_word (es : Exs) (r : Z9.Env) (h : Hh) : evE G_law_is_item (.call 18 es) r h = (evEs G_law_is_item es r h).bind fun p => if p.1.length = 1 then g_law_is_word p.1 p.2 else .no := ev_call _ _ _ rfl es
noncomputable def r_law_is_item : Fn := runD G_law_is_item 4 ir_law_is_item
noncomputable def g_law_is_item : Fn := pureF r_law_is_item
/-! _law_item_changed -/
abbrev N_law_item_changed : List Str := ["_law_dice_here", "_law_item_here", "_law_kind", "_law_wrongs", "_law_words", "_law_at", "_law_nexts"]
def ir_law_item_changed : Sms := (.cons (.set 2 (.call 11 (.cons (.var 0) (.cons (.con (.int 6)) .nil)))) (.cons (.iff (.or (.cons (.cmp .Eq (.var 2) (.con (.int 0))) (.cons (.cmp .Eq (.bcall .len (.cons (.var 1) .nil)) (.con (.int 1))) .nil))) (.cons (.set 3 (.lst (.cons (.con (.str [108, 111, 111, 107])) (.cons (.con (.str [115, 116, 111, 112])) (.cons (.con (.str [66, 101, 103, 105, 110])) (.cons (.con (.str [111, 110])) (.cons (.con (.str [108, 101, 97, 118, 101])) (.cons (.con (.str [115, 97, 121])) (.cons (.con (.str [98, 101, 103, 105, 110])) (.cons (.con (.str [])) (.cons (.con .non) (.cons (.con (.int 3)) .nil)))))))))))) (.cons (.ret (.bin .Add (.tup (.cons (.ix (.var 3) (.call 11 (.cons (.var 0) (.cons (.con (.int 10)) .nil)))) .nil)) (.sl (.var 1) (.some (.con (.int 1))) .none))) .nil)) .nil) (.cons (.iff (.cmp .Eq (.var 2) (.con (.int 1))) (.cons (.set 4 (.lst (.cons (.call 22 (.cons (.var 0) (.cons (.con (.int 2)) .nil))) (.cons (.con (.str [97, 98, 99, 100, 101, 102, 103, 104])) (.cons (.con (.str [97, 98, 99, 100, 101, 102, 103, 104, 105])) (.cons (.con (.str [])) (.cons (.con (.str [97, 32, 98])) (.cons (.con (.str [97, 66])) .nil)))))))) (.cons (.ret (.tup (.cons (.ix (.var 1) (.con (.int 0))) (.cons (.ix (.var 4) (.call 11 (.cons (.var 0) (.cons (.con (.int 6)) .nil)))) (.cons (.ix (.var 1) (.con (.int 2))) .nil))))) .nil)) .nil) (.cons (.iff (.and (.cons (.cmp .Eq (.var 2) (.con (.int 2))) (.cons (.isi (.ix (.var 1) (.con (.int 2))) .tuple) .nil))) (.cons (.set 5 (.call 11 (.cons (.var 0) (.cons (.bcall .len (.cons (.ix (.var 1) (.con (.int 2))) .nil)) .nil)))) (.cons (.ret (.tup (.cons (.ix (.var 1) (.con (.int 0))) (.cons (.ix (.var 1) (.con (.int 1))) (.cons (.bin .Add (.bin .Add (.sl (.ix (.var 1) (.con (.int 2))) .none (.some (.var 5))) (.tup (.cons (.call 22 (.cons (.var 0) (.cons (.bin .Add (.ix (.ix (.var 1) (.con (.int 2))) (.var 5)) (.call 11 (.cons (.var 0) (.cons (.con (.int 9)) .nil)))) .nil))) .nil))) (.sl (.ix (.var 1) (.con (.int 2))) (.some (.bin .Add (.var 5) (.con (.int 1)))) .none)) .nil))))) .nil)) .nil) (.cons (.iff (.cmp .Eq (.var 2) (.con (.int 3))) (.cons (.set 6 (.lst (.cons (.call 22 (.cons (.var 0) (.cons (.con (.int 8)) .nil))) (.cons (.tup (.cons (.con (.int 0)) (.cons (.con (.int 0)) .nil))) (.cons (.tup (.cons (.con (.int 0)) (.cons (.con (.int 0)) (.cons (.con (.int 0)) .nil)))) (.cons (.tup (.cons (.con (.int 0)) .nil)) (.cons (.lst (.cons (.con (.int 0)) (.cons (.con (.int 0)) .nil))) (.cons (.tup (.cons (.con (.int 0)) (.cons (.con (.int 0)) (.cons (.con (.int 0)) (.cons (.con (.int 0)) .nil))))) .nil)))))))) (.cons (.ret (.tup (.cons (.ix (.var 1) (.con (.int 0))) (.cons (.ix (.var 1) (.con (.int 1))) (.cons (.ix (.var 6) (.call 11 (.cons (.var 0) (.cons (.con (.int 6)) .nil)))) .nil))))) .nil)) .nil) (.cons (.iff (.cmp .Eq (.var 2) (.con (.int 4))) (.cons (.ret (.ix (.lst (.cons (.bin .Add (.var 1) (.tup (.cons (.con (.int 0)) .nil))) (.cons (.sl (.var 1) .none (.some (.con (.int 2)))) (.cons (.bcall .list (.cons (.var 1) .nil)) (.cons (.tup .nil) (.cons (.con .non) (.cons (.ix (.var 1) (.con (.int 0))) (.cons (.tup (.cons (.var 1) .nil)) .nil)))))))) (.call 11 (.cons (.var 0) (.cons (.con (.int 7)) .nil))))) .nil) .nil) (.cons (.ret (.tup (.cons (.ix (.var 1) (.con (.int 0))) (.cons (.call 22 (.cons (.var 0) (.cons (.ife (.isi (.ix (.var 1) (.con (.int 1))) .int) (.ix (.var 1) (.con (.int 1))) (.con (.int 1))) .nil))) (.cons (.ix (.var 1) (.con (.int 2))) .nil))))) .nil)))))))
theorem m_law_item_changed : mSs ⟨N_law_item_changed, nmL⟩ (defScope (topS 36)) ir_law_item_changed (defBody (topS 36)) = true := by decide +kernel
theorem sc_law_item_changed : FnScope N_law_item_changed ["_law_dice_here", "_law_item_here"] (defScope (topS 36)) := ⟨rfl, rfl, rfl, by decide +kernel, rfl, by decide +kernel, by decide +kernel⟩
noncomputable def G_law_item_changed : Gam := mkG [(11, 2, g_law_draw), (22, 2, g_law_odd)] consL tabL exL xtL
@[simp] theorem c_law_item_changed_law_draw (es : Exs) (r : Z9.Env) (h : Hh) : evE G_law_item_changed (.call 11 es) r h = (evEs G_law_item_changed es r h).bind fun p => if p.1.length = 2 then g_law_draw p.1 p.2 else .no := ev_call _ _ _ rfl es
@[simp] theorem c_law_item_changed_law_odd (es : Exs) (r : Z9.Env) (h : Hh) : evE G_law_item_changed (.call 22 es) r h = (evEs G_law_item_changed es r h).bind fun p => if p.1.length = 2 then g_law_odd p.1 p.2 else .no := ev_call _ _ _ rfl es
noncomputable def r_law_item_changed : Fn := runD G_law_item_changed 7 ir_law_item_changed
noncomputable def g_law_item_changed : Fn := r_law_item_changed
/-! is_program_item -/
abbrev N_is_program_item : List Str := ["thing", "dealing", "letters", "many"]
def ir_is_program_item : Sms := (.cons (.iff (.or (.cons (.not (.isi (.var 0) .tuple)) (.cons (.cmp .Eq (.bcall .len (.cons (.var 0) .nil)) (.con (.int 0))) (.cons (.not (.isi (.ix (.var 0) (.con (.int 0))) .str)) .nil)))) (.cons (.ret (.con (.bl false))) .nil) .nil) (.cons (.iff (.cmp .Eq (.ix (.var 0) (.con (.int 0))) (.con (.str [98, 101, 103, 105, 110]))) (.cons (.ret (.and (.cons (.cmp .Eq (.bcall .len (.cons (.var 0) .nil)) (.con (.int 3))) (.cons (.call 1 (.cons (.ix (.var 0) (.con (.int 1))) (.cons (.con (.int 0)) (.cons (.bin .Sub (.bcall .len (.cons (.var 1) .nil)) (.con (.int 1))) .nil)))) (.cons (.call 4 (.cons (.ix (.var 0) (.con (.int 2))) (.cons (.var 2) (.cons (.var 3) .nil)))) .nil))))) .nil) .nil) (.cons (.iff (.cmp .Eq (.ix (.var 0) (.con (.int 0))) (.con (.str [111, 110]))) (.cons (.ret (.and (.cons (.cmp .Eq (.bcall .len (.cons (.var 0) .nil)) (.con (.int 3))) (.cons (.call 1 (.cons (.ix (.var 0) (.con (.int 1))) (.cons (.con (.int 0)) (.cons (.bcall .max (.cons (.var 1) .nil)) .nil)))) (.cons (.call 4 (.cons (.ix (.var 0) (.con (.int 2))) (.cons (.var 2) (.cons (.var 3) .nil)))) .nil))))) .nil) .nil) (.cons (.iff (.cmp .Eq (.ix (.var 0) (.con (.int 0))) (.con (.str [108, 101, 97, 118, 101]))) (.cons (.ret (.and (.cons (.cmp .Eq (.bcall .len (.cons (.var 0) .nil)) (.con (.int 3))) (.cons (.call 1 (.cons (.ix (.var 0) (.con (.int 1))) (.cons (.con (.int 0)) (.cons (.bcall .max (.cons (.var 1) .nil)) .nil)))) (.cons (.call 1 (.cons (.ix (.var 0) (.con (.int 2))) (.cons (.con (.int 0)) (.cons (.bin .Sub (.var 3) (.con (.int 1))) .nil)))) .nil))))) .nil) .nil) (.cons (.iff (.cmp .Eq (.ix (.var 0) (.con (.int 0))) (.con (.str [115, 97, 121]))) (.cons (.ret (.call 5 (.cons (.var 0) (.cons (.var 3) .nil)))) .nil) .nil) (.cons (.ret (.cmp .Eq (.var 0) (.tup (.cons (.con (.str [115, 116, 111, 112])) .nil)))) .nil))))))
theorem m_is_program_item : mSs ⟨N_is_program_item, nmL⟩ (defScope (topS 20)) ir_is_program_item (defBody (topS 20)) = true := by decide +kernel
theorem sc_is_program_item : FnScope N_is_program_item ["thing", "dealing", "letters", "many"] (defScope (topS 20)) := ⟨rfl, rfl, rfl, by decide +kernel, rfl, by decide +kernel, by decide +kernel⟩
noncomputable def G_is_program_item : Gam := mkG [(1, 3, g_is_within), (4, 3, g_are_nexts), (5, 2, g_is_say)] consL tabL exL xtL
@[simp] theorem c_is_program_item_is_within (es : Exs) (r : Z9.Env) (h : Hh) : evE G_is_program_item (.call 1 es) r h = (evEs G_is_program_item es r h).bind fun p => if p.1.length = 3 then g_is_within p.1 p.2 else .no := ev_call _ _ _ rfl es
@[simp] theorem c_is_program_item_are_nexts (es : Exs) (r : Z9.Env) (h : Hh) : evE G_is_program_item (.call 4 es) r h = (evEs G_is_program_item es r h).bind fun p => if p.1.length = 3 then g_are_nexts p.1 p.2 else .no := ev_call _ _ _ rfl es
@[simp] theorem c_is_program_item_is_say (es : Exs) (r : Z9.Env) (h : Hh) : evE G_is_program_item (.call 5 es) r h = (evEs G_is_program_item es r h).bind fun p => if p.1.length = 2 then g_is_say p.1 p.2 else .no := ev_call _ _ _ rfl es
noncomputable def r_is_program_item : Fn := runD G_is_program_item 4 ir_is_program_item
noncomputable def g_is_program_item : Fn := pureF r_is_program_item
/-! _law_program -/
abbrev N_law_program : List Str := ["_law_dice_here", "_law_most", "_law_rows", "_law_letters", "_law_dealing_here", "_law_depth", "_law_size", "_law_kinds", "_law_table", "_law_k", "_law_kind"]
def ir_law_program : Sms := (.cons (.set 2 (.bin .Add (.con (.int 1)) (.call 11 (.cons (.var 0) (.cons (.con (.int 3)) .nil))))) (.cons (.set 3 (.bin .Add (.con (.int 1)) (.call 11 (.cons (.var 0) (.cons (.con (.int 3)) .nil))))) (.cons (.set 4 (.call 13 (.cons (.var 0) (.cons (.var 2) .nil)))) (.cons (.set 5 (.bin .Add (.con (.int 1)) (.call 11 (.cons (.var 0) (.cons (.con (.int 3)) .nil))))) (.cons (.iff (.and (.cons (.cmp .Eq (.bcall .max (.cons (.var 4) .nil)) (.con (.int 0))) (.cons (.cmp .Eq (.call 11 (.cons (.var 0) (.cons (.con (.int 3)) .nil))) (.con (.int 0))) .nil))) (.cons (.set 5 (.con .non)) .nil) .nil) (.cons (.set 6 (.bin .Add (.con (.int 1)) (.call 11 (.cons (.var 0) (.cons (.var 1) .nil))))) (.cons (.set 7 (.lc true (.call 11 (.cons (.var 0) (.cons (.con (.int 12)) .nil))) (.var 9) (.range (.var 6)) .nil [9])) (.cons (.iff (.cmp .Gt (.call 11 (.cons (.var 0) (.cons (.con (.int 4)) .nil))) (.con (.int 0))) (.cons (.seti (.var 7) (.con (.int 0)) (.con (.int 0))) .nil) .nil) (.cons (.set 8 (.lcv false (.call 14 (.cons (.var 0) (.cons (.var 2) (.cons (.var 3) (.cons (.bin .Add (.bcall .max (.cons (.var 4) .nil)) (.con (.int 1))) (.cons (.var 6) (.cons (.var 10) .nil))))))) (.var 10) (.var 7) .nil [10])) (.cons (.ret (.tup (.cons (.var 2) (.cons (.var 3) (.cons (.var 4) (.cons (.var 5) (.cons (.bcall .tuple (.cons (.var 8) .nil)) .nil))))))) .nil))))))))))
theorem m_law_program : mSs ⟨N_law_program, nmL⟩ (defScope (topS 28)) ir_law_program (defBody (topS 28)) = true := by decide +kernel
theorem sc_law_program : FnScope N_law_program ["_law_dice_here", "_law_most"] (defScope (topS 28)) := ⟨rfl, rfl, rfl, by decide +kernel, rfl, by decide +kernel, by decide +kernel⟩
noncomputable def G_law_program : Gam := mkG [(11, 2, g_law_draw), (13, 2, g_law_dealing), (14, 6, g_law_item)] consL tabL exL xtL
@[simp] theorem c_law_program_law_draw (es : Exs) (r : Z9.Env) (h : Hh) : evE G_law_program (.call 11 es) r h = (evEs G_law_program es r h).bind fun p => if p.1.length = 2 then g_law_draw p.1 p.2 else .no := ev_call _ _ _ rfl es
@[simp] theorem c_law_program_law_dealing (es : Exs) (r : Z9.Env) (h : Hh) : evE G_law_program (.call 13 es) r h = (evEs G_law_program es r h).bind fun p => if p.1.length = 2 then g_law_dealing p.1 p.2 else .no := ev_call _ _ _ rfl es
@[simp] theorem c_law_program_law_item (es : Exs) (r : Z9.Env) (h : Hh) : evE G_law_program (.call 14 es) r h = (evEs G_law_program es r h).bind fun p => if p.1.length = 6 then g_law_item p.1 p.2 else .no := ev_call _ _ _ rfl es
noncomputable def r_law_program : Fn := runD G_law_program 11 ir_law_program
noncomputable def g_law_program : Fn := r_law_program
/-! _law_wrong -/
abbrev N_law_wrong : List Str := ["_law_spec", "_law_rows", "_law_letters", "_law_dealing_here", "_law_depth", "_law_table", "_law_item_here"]
def ir_law_wrong : Sms := (.cons (.asg (.tup (.cons (.var 1) (.cons (.var 2) (.cons (.var 3) (.cons (.var 4) (.cons (.var 5) .nil)))))) (.var 0)) (.cons (.iff (.not (.call 16 (.cons (.var 1) (.cons (.con (.int 1)) (.cons (.con (.int 6)) .nil))))) (.cons (.ret (.con (.str [114, 111, 119, 115]))) .nil) .nil) (.cons (.iff (.not (.call 16 (.cons (.var 2) (.cons (.con (.int 1)) (.cons (.con (.int 3)) .nil))))) (.cons (.ret (.con (.str [108, 101, 116, 116, 101, 114, 115]))) .nil) .nil) (.cons (.iff (.not (.call 20 (.cons (.var 3) (.cons (.var 1) .nil)))) (.cons (.ret (.con (.str [100, 101, 97, 108, 105, 110, 103]))) .nil) .nil) (.cons (.iff (.and (.cons (.not (.call 16 (.cons (.var 4) (.cons (.con (.int 1)) (.cons (.con (.int 60)) .nil))))) (.cons (.or (.cons (.notn (.var 4)) (.cons (.cmp .Gt (.bcall .max (.cons (.var 3) .nil)) (.con (.int 0))) .nil))) .nil))) (.cons (.ret (.con (.str [100, 101, 112, 116, 104]))) .nil) .nil) (.cons (.iff (.or (.cons (.not (.isi (.var 5) .tuple)) (.cons (.not (.cmp2 .LtE .LtE (.con (.int 1)) (.bcall .len (.cons (.var 5) .nil)) (.con (.int 20000)))) .nil))) (.cons (.ret (.con (.str [116, 97, 98, 108, 101]))) .nil) .nil) (.cons (.iff (.not (.bcall .all (.cons (.lc false (.call 19 (.cons (.var 6) (.cons (.var 3) (.cons (.var 2) (.cons (.bcall .len (.cons (.var 5) .nil)) .nil))))) (.var 6) (.seq (.var 5)) .nil [6]) .nil))) (.cons (.ret (.con (.str [116, 97, 98, 108, 101]))) .nil) .nil) (.cons (.ret (.con .non)) .nil))))))))
theorem m_law_wrong : mSs ⟨N_law_wrong, nmL⟩ (defScope (topS 34)) ir_law_wrong (defBody (topS 34)) = true := by decide +kernel
theorem sc_law_wrong : FnScope N_law_wrong ["_law_spec"] (defScope (topS 34)) := ⟨rfl, rfl, rfl, by decide +kernel, rfl, by decide +kernel, by decide +kernel⟩
noncomputable def G_law_wrong : Gam := mkG [(16, 3, g_law_is_number), (20, 2, g_law_is_dealing), (19, 4, g_law_is_item)] consL tabL exL xtL
@[simp] theorem c_law_wrong_law_is_number (es : Exs) (r : Z9.Env) (h : Hh) : evE G_law_wrong (.call 16 es) r h = (evEs G_law_wrong es r h).bind fun p => if p.1.length = 3 then g_law_is_number p.1 p.2 else .no := ev_call _ _ _ rfl es
@[simp] theorem c_law_wrong_law_is_dealing (es : Exs) (r : Z9.Env) (h : Hh) : evE G_law_wrong (.call 20 es) r h = (evEs G_law_wrong es r h).bind fun p => if p.1.length = 2 then g_law_is_dealing p.1 p.2 else .no := ev_call _ _ _ rfl es
@[simp] theorem c_law_wrong_law_is_item (es : Exs) (r : Z9.Env) (h : Hh) : evE G_law_wrong (.call 19 es) r h = (evEs G_law_wrong es r h).bind fun p => if p.1.length = 4 then g_law_is_item p.1 p.2 else .no := ev_call _ _ _ rfl es
noncomputable def r_law_wrong : Fn := runD G_law_wrong 7 ir_law_wrong
noncomputable def g_law_wrong : Fn := pureF r_law_wrong
/-! _law_changed -/
abbrev N_law_changed : List Str := ["_law_dice_here", "_law_spec", "_law_part", "_law_at", "_law_rows", "_law_letters", "_law_dealing_here", "_law_depth", "_law_table", "_law_hands", "_law_stops"]
def ir_law_changed : Sms := (.cons (.asg (.tup (.cons (.var 4) (.cons (.var 5) (.cons (.var 6) (.cons (.var 7) (.cons (.var 8) .nil)))))) (.var 1)) (.cons (.set 2 (.call 11 (.cons (.var 0) (.cons (.con (.int 9)) .nil)))) (.cons (.set 3 (.call 11 (.cons (.var 0) (.cons (.var 4) .nil)))) (.cons (.iff (.cmp .Eq (.var 2) (.con (.int 0))) (.cons (.ret (.tup (.cons (.ix (.lst (.cons (.call 22 (.cons (.var 0) (.cons (.var 4) .nil))) (.cons (.con (.int 6)) (.cons (.con (.int 7)) (.cons (.con (.int 0)) .nil))))) (.call 11 (.cons (.var 0) (.cons (.con (.int 4)) .nil)))) (.cons (.var 5) (.cons (.var 6) (.cons (.var 7) (.cons (.var 8) .nil))))))) .nil) .nil) (.cons (.iff (.cmp .Eq (.var 2) (.con (.int 1))) (.cons (.ret (.tup (.cons (.var 4) (.cons (.ix (.lst (.cons (.call 22 (.cons (.var 0) (.cons (.var 5) .nil))) (.cons (.con (.int 3)) (.cons (.con (.int 4)) (.cons (.con (.int 0)) .nil))))) (.call 11 (.cons (.var 0) (.cons (.con (.int 4)) .nil)))) (.cons (.var 6) (.cons (.var 7) (.cons (.var 8) .nil))))))) .nil) .nil) (.cons (.iff (.cmp .Eq (.var 2) (.con (.int 2))) (.cons (.set 9 (.bin .Add (.bin .Add (.sl (.var 6) .none (.some (.var 3))) (.tup (.cons (.call 22 (.cons (.var 0) (.cons (.ix (.var 6) (.var 3)) .nil))) .nil))) (.sl (.var 6) (.some (.bin .Add (.var 3) (.con (.int 1)))) .none))) (.cons (.ret (.tup (.cons (.var 4) (.cons (.var 5) (.cons (.ix (.lst (.cons (.var 9) (.cons (.bcall .list (.cons (.var 6) .nil)) (.cons (.bin .Add (.var 6) (.tup (.cons (.con (.int 0)) .nil))) (.cons (.sl (.var 6) (.some (.con (.int 1))) .none) .nil))))) (.call 11 (.cons (.var 0) (.cons (.con (.int 4)) .nil)))) (.cons (.var 7) (.cons (.var 8) .nil))))))) .nil)) .nil) (.cons (.iff (.cmp .Eq (.var 2) (.con (.int 3))) (.cons (.ret (.tup (.cons (.var 4) (.cons (.var 5) (.cons (.var 6) (.cons (.ix (.lst (.cons (.call 22 (.cons (.var 0) (.cons (.con (.int 1)) .nil))) (.cons (.con (.int 60)) (.cons (.con (.int 61)) (.cons (.con .non) .nil))))) (.call 11 (.cons (.var 0) (.cons (.con (.int 4)) .nil)))) (.cons (.var 8) .nil))))))) .nil) .nil) (.cons (.iff (.cmp .Eq (.var 2) (.con (.int 4))) (.cons (.set 10 (.ife (.cmp .Eq (.call 11 (.cons (.var 0) (.cons (.con (.int 16)) .nil))) (.con (.int 0))) (.bin .Mult (.tup (.cons (.tup (.cons (.con (.str [115, 116, 111, 112])) .nil)) .nil)) (.ix (.lst (.cons (.con (.int 19999)) (.cons (.con (.int 20000)) (.cons (.con (.int 20001)) .nil)))) (.call 11 (.cons (.var 0) (.cons (.con (.int 3)) .nil))))) (.tup .nil))) (.cons (.ret (.tup (.cons (.var 4) (.cons (.var 5) (.cons (.var 6) (.cons (.var 7) (.cons (.ix (.lst (.cons (.bcall .list (.cons (.var 8) .nil)) (.cons (.var 10) (.cons (.con .non) (.cons (.con (.str [115, 116, 111, 112])) (.cons (.ix (.var 8) (.con (.int 0))) .nil)))))) (.call 11 (.cons (.var 0) (.cons (.con (.int 5)) .nil)))) .nil))))))) .nil)) .nil) (.cons (.set 3 (.call 11 (.cons (.var 0) (.cons (.bcall .len (.cons (.var 8) .nil)) .nil)))) (.cons (.ret (.tup (.cons (.var 4) (.cons (.var 5) (.cons (.var 6) (.cons (.var 7) (.cons (.bin .Add (.bin .Add (.sl (.var 8) .none (.some (.var 3))) (.tup (.cons (.call 23 (.cons (.var 0) (.cons (.ix (.var 8) (.var 3)) .nil))) .nil))) (.sl (.var 8) (.some (.bin .Add (.var 3) (.con (.int 1)))) .none)) .nil))))))) .nil))))))))))
theorem m_law_changed : mSs ⟨N_law_changed, nmL⟩ (defScope (topS 37)) ir_law_changed (defBody (topS 37)) = true := by decide +kernel
theorem sc_law_changed : FnScope N_law_changed ["_law_dice_here", "_law_spec"] (defScope (topS 37)) := ⟨rfl, rfl, rfl, by decide +kernel, rfl, by decide +kernel, by decide +kernel⟩
noncomputable def G_law_changed : Gam := mkG [(11, 2, g_law_draw), (22, 2, g_law_odd), (23, 2, g_law_item_changed)] consL tabL exL xtL
@[simp] theorem c_law_changed_law_draw (es : Exs) (r : Z9.Env) (h : Hh) : evE G_law_changed (.call 11 es) r h = (evEs G_law_changed es r h).bind fun p => if p.1.length = 2 then g_law_draw p.1 p.2 else .no := ev_call _ _ _ rfl es
@[simp] theorem c_law_changed_law_odd (es : Exs) (r : Z9.Env) (h : Hh) : evE G_law_changed (.call 22 es) r h = (evEs G_law_changed es r h).bind fun p => if p.1.length = 2 then g_law_odd p.1 p.2 else .no := ev_call _ _ _ rfl es
@[simp] theorem c_law_changed_law_item_changed (es : Exs) (r : Z9.Env) (h : Hh) : evE G_law_changed (.call 23 es) r h = (evEs G_law_changed es r h).bind fun p => if p.1.length = 2 then g_law_item_changed p.1 p.2 else .no := ev_call _ _ _ rfl es
noncomputable def r_law_changed : Fn := runD G_law_changed 11 ir_law_changed
noncomputable def g_law_changed : Fn := r_law_changed
/-! Program.__init__ -/
abbrev N_Program_init : List Str := ["self", "rows", "letters", "dealing", "depth", "table", "item"]
def ir_Program_init : Sms := (.cons (.iff (.not (.call 1 (.cons (.var 1) (.cons (.con (.int 1)) (.cons (.glob 32) .nil))))) (.cons (.rai1 28 (.con (.str [114, 111, 119, 115]))) .nil) .nil) (.cons (.iff (.not (.call 1 (.cons (.var 2) (.cons (.con (.int 1)) (.cons (.bcall .len (.cons (.glob 30) .nil)) .nil))))) (.cons (.rai1 28 (.con (.str [108, 101, 116, 116, 101, 114, 115]))) .nil) .nil) (.cons (.iff (.not (.call 6 (.cons (.var 1) (.cons (.var 3) .nil)))) (.cons (.rai1 28 (.con (.str [100, 101, 97, 108, 105, 110, 103]))) .nil) .nil) (.cons (.iff (.not (.call 8 (.cons (.var 4) (.cons (.var 3) .nil)))) (.cons (.rai1 28 (.con (.str [100, 101, 112, 116, 104]))) .nil) .nil) (.cons (.iff (.or (.cons (.not (.isi (.var 5) .tuple)) (.cons (.not (.cmp2 .LtE .LtE (.con (.int 1)) (.bcall .len (.cons (.var 5) .nil)) (.glob 33))) .nil))) (.cons (.rai1 28 (.con (.str [116, 97, 98, 108, 101]))) .nil) .nil) (.cons (.iff (.not (.bcall .all (.cons (.lc false (.call 9 (.cons (.var 6) (.cons (.var 3) (.cons (.var 2) (.cons (.bcall .len (.cons (.var 5) .nil)) .nil))))) (.var 6) (.seq (.var 5)) .nil [6]) .nil))) (.cons (.rai1 28 (.con (.str [116, 97, 98, 108, 101]))) .nil) .nil) (.cons (.expr (.meth (.var 0) "keep" (.cons (.var 1) (.cons (.var 2) (.cons (.var 3) (.cons (.var 4) (.cons (.var 5) .nil))))))) .nil)))))))
theorem m_Program_init : mSs ⟨N_Program_init, nmL⟩ (defScope (inCls (topS 21) 0)) ir_Program_init (defBody (inCls (topS 21) 0)) = true := by decide +kernel
theorem sc_Program_init : FnScope N_Program_init ["self", "rows", "letters", "dealing", "depth", "table"] (defScope (inCls (topS 21) 0)) := ⟨rfl, rfl, rfl, by decide +kernel, rfl, by decide +kernel, by decide +kernel⟩
noncomputable def G_Program_init : Gam := mkG [(1, 3, g_is_within), (6, 2, g_is_dealing), (8, 2, g_is_depth), (9, 4, g_is_program_item)] consL tabL exL xtL { ini := [], mth := [(("Program", "keep"), 5, g_Program_keep)], ifl := [] }
@[simp] theorem c_Program_init_is_within (es : Exs) (r : Z9.Env) (h : Hh) : evE G_Program_init (.call 1 es) r h = (evEs G_Program_init es r h).bind fun p => if p.1.length = 3 then g_is_within p.1 p.2 else .no := ev_call _ _ _ rfl es
@[simp] theorem c_Program_init_is_dealing (es : Exs) (r : Z9.Env) (h : Hh) : evE G_Program_init (.call 6 es) r h = (evEs G_Program_init es r h).bind fun p => if p.1.length = 2 then g_is_dealing p.1 p.2 else .no := ev_call _ _ _ rfl es
@[simp] theorem c_Program_init_is_depth (es : Exs) (r : Z9.Env) (h : Hh) : evE G_Program_init (.call 8 es) r h = (evEs G_Program_init es r h).bind fun p => if p.1.length = 2 then g_is_depth p.1 p.2 else .no := ev_call _ _ _ rfl es
@[simp] theorem c_Program_init_is_program_item (es : Exs) (r : Z9.Env) (h : Hh) : evE G_Program_init (.call 9 es) r h = (evEs G_Program_init es r h).bind fun p => if p.1.length = 4 then g_is_program_item p.1 p.2 else .no := ev_call _ _ _ rfl es
@[simp] theorem k_Program_init_LETTERS : G_Program_init.con 30 = some (.str [97, 98, 99]) := rfl
@[simp] theorem k_Program_init_MOST_ROWS : G_Program_init.con 32 = some (.int 6) := rfl
@[simp] theorem k_Program_init_MOST_ITEMS : G_Program_init.con 33 = some (.int 20000) := rfl
noncomputable def r_Program_init : Fn := runD G_Program_init 7 ir_Program_init
noncomputable def g_Program_init : Fn := r_Program_init
/-! _law_refused -/
abbrev N_law_refused : List Str := ["_law_spec", "_law_told", "e"]
def ir_law_refused : Sms := (.cons (.set 1 (.tup (.cons (.con (.str [108, 101, 116])) (.cons (.con .non) .nil)))) (.cons (.tryx (.cons (.expr (.new 29 (.cons (.ix (.var 0) (.con (.int 0))) (.cons (.ix (.var 0) (.con (.int 1))) (.cons (.ix (.var 0) (.con (.int 2))) (.cons (.ix (.var 0) (.con (.int 3))) (.cons (.ix (.var 0) (.con (.int 4))) .nil))))))) .nil) 27 2 [(.set 1 (.tup2 (.con (.str [111, 116, 104, 101, 114])) (.con .non))), (.ifis [28, 35] (.set 1 (.tup2 (.con (.str [114, 101, 102, 117, 115, 101, 100])) (.fld "part"))))]) (.cons (.ret (.var 1)) .nil)))
theorem m_law_refused : mSs ⟨N_law_refused, nmL⟩ (defScope (topS 38)) ir_law_refused (defBody (topS 38)) = true := by decide +kernel
theorem sc_law_refused : FnScope N_law_refused ["_law_spec"] (defScope (topS 38)) := ⟨rfl, rfl, rfl, by decide +kernel, rfl, by decide +kernel, by decide +kernel⟩
noncomputable def G_law_refused : Gam := mkG [] consL tabL exL xtL { ini := [(29, 5, "Program", g_Program_init)], mth := [], ifl := [("Program", "rows"), ("Program", "letters"), ("Program", "dealing"), ("Program", "depth"), ("Program", "table")] }
noncomputable def r_law_refused : Fn := runD G_law_refused 3 ir_law_refused
noncomputable def g_law_refused : Fn := pureF r_law_refused
/-! law -/
abbrev N_law : List Str := ["_law_script", "_law_dice_here", "_law_turn", "_law_spec", "_law_told", "_law_wrong_here", "_law_due"]
def ir_law : Sms := (.cons (.set 1 (.call 10 (.cons (.var 0) .nil))) (.cons (.set 2 (.call 11 (.cons (.var 1) (.cons (.con (.int 6)) .nil)))) (.cons (.set 3 (.call 15 (.cons (.var 1) (.cons (.con (.int 8)) .nil)))) (.cons (.set 4 (.var 3)) (.cons (.iff (.cmp .Gt (.var 2) (.con (.int 0))) (.cons (.set 4 (.call 24 (.cons (.var 1) (.cons (.var 3) .nil)))) .nil) .nil) (.cons (.set 5 (.call 21 (.cons (.var 4) .nil))) (.cons (.set 6 (.tup (.cons (.con (.str [114, 101, 102, 117, 115, 101, 100])) (.cons (.var 5) .nil)))) (.cons (.iff (.isn (.var 5)) (.cons (.set 6 (.tup (.cons (.con (.str [108, 101, 116])) (.cons (.con .non) .nil)))) .nil) .nil) (.cons (.ret (.and (.cons (.cmp .Eq (.call 25 (.cons (.var 4) .nil)) (.var 6)) (.cons (.cmp .Eq (.call 25 (.cons (.var 3) .nil)) (.tup (.cons (.con (.str [108, 101, 116])) (.cons (.con .non) .nil)))) .nil)))) .nil)))))))))
theorem m_law : mSs ⟨N_law, nmL⟩ (defScope (topS 39)) ir_law (defBody (topS 39)) = true := by decide +kernel
theorem sc_law : FnScope N_law ["_law_script"] (defScope (topS 39)) := ⟨rfl, rfl, rfl, by decide +kernel, rfl, by decide +kernel, by decide +kernel⟩
noncomputable def G_law : Gam := mkG [(10, 1, g_law_dice), (11, 2, g_law_draw), (15, 2, g_law_program), (24, 2, g_law_changed), (21, 1, g_law_wrong), (25, 1, g_law_refused)] consL tabL exL xtL
@[simp] theorem c_law_law_dice (es : Exs) (r : Z9.Env) (h : Hh) : evE G_law (.call 10 es) r h = (evEs G_law es r h).bind fun p => if p.1.length = 1 then g_law_dice p.1 p.2 else .no := ev_call _ _ _ rfl es
@[simp] theorem c_law_law_draw (es : Exs) (r : Z9.Env) (h : Hh) : evE G_law (.call 11 es) r h = (evEs G_law es r h).bind fun p => if p.1.length = 2 then g_law_draw p.1 p.2 else .no := ev_call _ _ _ rfl es
@[simp] theorem c_law_law_program (es : Exs) (r : Z9.Env) (h : Hh) : evE G_law (.call 15 es) r h = (evEs G_law es r h).bind fun p => if p.1.length = 2 then g_law_program p.1 p.2 else .no := ev_call _ _ _ rfl es
@[simp] theorem c_law_law_changed (es : Exs) (r : Z9.Env) (h : Hh) : evE G_law (.call 24 es) r h = (evEs G_law es r h).bind fun p => if p.1.length = 2 then g_law_changed p.1 p.2 else .no := ev_call _ _ _ rfl es
@[simp] theorem c_law_law_wrong (es : Exs) (r : Z9.Env) (h : Hh) : evE G_law (.call 21 es) r h = (evEs G_law es r h).bind fun p => if p.1.length = 1 then g_law_wrong p.1 p.2 else .no := ev_call _ _ _ rfl es
@[simp] theorem c_law_law_refused (es : Exs) (r : Z9.Env) (h : Hh) : evE G_law (.call 25 es) r h = (evEs G_law es r h).bind fun p => if p.1.length = 1 then g_law_refused p.1 p.2 else .no := ev_call _ _ _ rfl es
noncomputable def r_law : Fn := runD G_law 7 ir_law
noncomputable def g_law : Fn := r_law
end Z9

set_option Elab.async false
set_option linter.all false
set_option maxRecDepth 100000
set_option maxHeartbeats 400000
namespace Z9
open PySem PySem.Spec
local macro_rules | `(tactic| walk_at "Z9A") => `(tactic| repeat (first | (with_reducible first | refine w_con' ?_ | refine w_neg' ?_ | refine w_dic0' ?_ | refine w_sn' ?_ | refine w_sc' ?_ | refine w_tup' ?_ | refine w_lst' ?_ | refine w_newl' ?_ | refine w_bin' ?_ | refine w_cmp' ?_ | refine w_cmp2' ?_ | refine w_isn' ?_ | refine w_notn' ?_ | refine w_and' ?_ | refine w_or' ?_ | refine w_a2' ?_ | refine w_a1' ?_ | refine w_not' ?_ | refine w_ife' ?_ | refine w_ix' ?_ | refine w_on' ?_ | refine w_os' ?_ | refine w_sl' ?_ | refine w_isi' ?_ | refine w_fld' ?_ | refine w_bcall' ?_ | refine w_bmeth' ?_ | refine w_meth' ?_ | refine w_lof' ?_ | refine w_lor' ?_ | refine w_sset' ?_ | refine w_inr' ?_ | refine w_tn' ?_ | refine w_tc' ?_ | refine s_nil' ?_ | refine s_cons' ?_ | refine s_set' ?_ | refine s_seti' ?_ | refine s_setf' ?_ | refine s_expr' ?_ | refine s_ret' ?_ | refine s_retn' ?_ | refine s_pass' ?_ | refine s_iff' ?_) | refine w_var' rfl ?_ | refine w_glob' rfl ?_ | refine w_call' rfl ?_ | refine w_new' rfl ?_ | refine s_rai1' rfl ?_ | (with_reducible first | refine wd' (int_eq _ _) ?_ | refine wd' (str_eq _ _) ?_ | refine wd' (int_ne _ _) ?_ | refine wd' (bin_add _ _) ?_ | refine wd' (bin_sub _ _) ?_ | refine wd' (int_lt _ _) ?_ | refine wd' (int_le _ _) ?_ | refine wd' (int_gt _ _) ?_ | refine wd' (int_ge _ _) ?_ | refine wd' (bin_mul_r (by decide) (by decide)) ?_ | refine wd' (bin_mulmod (by decide) (by decide)) ?_ | refine wd' (bin_mod (by decide)) ?_ | refine wd' (bin_div (by decide) (by decide)) ?_) | refine wd' rfl ?_ | refine ⟨rfl, ?_⟩ | refine ⟨Nat.le_of_ble_eq_true rfl, ?_⟩ | refine ⟨_, rfl, ?_⟩ | refine br_t rfl ?_ | refine br_f rfl ?_ | refine br_ft rfl ?_ | refine br_ff rfl ?_))
/-! two truth values that may both be asked -/
section
variable {G : Gam} {r : Z9.Env} {h : Hh} {Q : D → Hh → Prop} {E : Nat → List D → Hh → Prop}
theorem w_a2v {a a2 : Ex} (e : WE G a r h (fun x h1 => ∃ b, x = .bl b ∧ h1 = h ∧ WE G a2 r h (fun y h2 => ∃ c, y = .bl c ∧ h2 = h ∧ Q (.bl (b && c)) h) noE) noE) : WA G true (.cons a (.cons a2 .nil)) r h Q E := by
  obtain ⟨x, h1, e1, b, rfl, rfl, e⟩ := WP.ex (WE.of e)
  obtain ⟨y, h2, e2, c, rfl, rfl, q⟩ := WP.ex (WE.of e)
  simp only [WA]
  cases b with
  | true => exact w_eq (dat e1 (da1 e2)) q
  | false => exact w_eq (dax e1 Bool.false_ne_true) q
theorem w_o2v {a a2 : Ex} (e : WE G a r h (fun x h1 => ∃ b, x = .bl b ∧ h1 = h ∧ WE G a2 r h (fun y h2 => ∃ c, y = .bl c ∧ h2 = h ∧ Q (.bl (b || c)) h) noE) noE) : WA G false (.cons a (.cons a2 .nil)) r h Q E := by
  obtain ⟨x, h1, e1, b, rfl, rfl, e⟩ := WP.ex (WE.of e)
  obtain ⟨y, h2, e2, c, rfl, rfl, q⟩ := WP.ex (WE.of e)
  simp only [WA]
  cases b with
  | false => exact w_eq (dat e1 (da1 e2)) q
  | true => exact w_eq (dax e1 (fun z => by cases z)) q
end
/-! what the parts are asked -/
def kn0 (d : D) : Bool := (tkD d).isSome && pureD d
def isI : D → Bool
  | .int _ => true
  | _ => false
def num (d : D) (lo hi : Int) : Bool := match d with
  | .int i => decide (lo ≤ i) && decide (i ≤ hi)
  | _ => false
theorem kn0_pure {d : D} (k : kn0 d = true) : pureD d = true := by
  unfold kn0 at k
  exact (Bool.and_eq_true_iff.mp k).2
theorem pure1 {d : D} (k : pureD d = true) : pureDs [d] = true := by simp [pureDs, k]
theorem is_integer_eq {d : D} (k : kn0 d = true) (h : Hh) : g_is_integer [d] h = .ok (.bl (isI d), h) := by
  refine pureF_ok (pure1 (kn0_pure k)) (h' := []) ?_ rfl
  show runD G_is_integer 1 ir_is_integer _ _ = _
  unfold ir_is_integer
  cases d <;> first | (simp [kn0, tkD] at k; done) | simp [runD_eq, isiD, lookD, tkD, subT, isI]
theorem is_number_eq {d : D} (k : kn0 d = true) (lo hi : Int) (h : Hh) : g_law_is_number [d, .int lo, .int hi] h = .ok (.bl (num d lo hi), h) := by
  refine pureF_ok (by simp [pureDs, kn0_pure k, pureD]) (h' := []) ?_ rfl
  show runD G_law_is_number 3 ir_law_is_number _ _ = _
  unfold ir_law_is_number
  cases d <;> first | (simp [kn0, tkD] at k; done) | simp [runD_eq, isiD, lookD, tkD, subT, num]
  split <;> simp_all <;> intros <;> omega
theorem is_within_eq {d : D} (k : kn0 d = true) (lo hi : Int) (h : Hh) : g_is_within [d, .int lo, .int hi] h = .ok (.bl (num d lo hi), h) := by
  refine pureF_ok (by simp [pureDs, kn0_pure k, pureD]) (h' := []) ?_ rfl
  show runD G_is_within 3 ir_is_within _ _ = _
  unfold ir_is_within
  have e := is_integer_eq k
  cases d <;> first | (simp [kn0, tkD] at k; done) | simp [runD_eq, e, isI, num]
  split <;> simp_all <;> intros <;> omega
def kn1 (d : D) : Bool := kn0 d && (match d with
  | .tup xs => decide (xs.length ≤ 100000) && xs.all kn0
  | _ => true)
theorem kn1_0 {d : D} (k : kn1 d = true) : kn0 d = true := (Bool.and_eq_true_iff.mp k).1
theorem kn1_t {xs : List D} (k : kn1 (.tup xs) = true) : xs.length ≤ 100000 ∧ ∀ x ∈ xs, kn0 x = true := by
  have := (Bool.and_eq_true_iff.mp k).2
  simp only [Bool.and_eq_true, decide_eq_true_eq, List.all_eq_true] at this
  exact this
def nexts (d : D) (l m : Int) : Bool := match d with
  | .tup xs => decide ((xs.length : Int) = l + 1) && xs.all fun x => num x 0 (m - 1)
  | _ => false
theorem law_nexts_eq {d : D} (k : kn1 d = true) (l m : Int) (h : Hh) : g_law_are_nexts [d, .int l, .int m] h = .ok (.bl (nexts d l m), h) := by
  have k0 := kn1_0 k
  refine WP.eq (r_pure (by simp [pureDs, kn0_pure k0, pureD]) ?_)
  show WP (runD G_law_are_nexts 4 ir_law_are_nexts _ _) _ _
  refine r_run' rfl ?_
  unfold ir_law_are_nexts
  cases d with
  | tup xs =>
    have k1 := kn1_t k
    walk_at "Z9A"
    (refine ⟨fun hb => ?_, fun hb => ?_⟩)
    · walk_at "Z9A"
      exact ⟨by simp at hb; simp [nexts, hb], rfl⟩
    · walk_at "Z9A"
      refine w_lcF' (fun x => .bl (num x 0 (m - 1))) ?_
      refine w_seq' (w_var' rfl ⟨_, .inr rfl, Nat.le_trans k1.1 (by decide), fun x hx => ⟨_, rfl, ?_⟩, ?_⟩)
      · refine WE.eq ?_
        walk_at "Z9A"
        exact w_ceq (is_number_eq (k1.2 x hx) _ _ _) ⟨rfl, rfl⟩
      · walk_at "Z9A"
        refine wd' (all_map _ _ _) ?_
        walk_at "Z9A"
        exact ⟨by simp at hb; simp [nexts, hb], rfl⟩
  | ref => exact absurd k0 Bool.false_ne_true
  | ins => exact absurd k0 Bool.false_ne_true
  | exc => exact absurd k0 Bool.false_ne_true
  | scr => exact absurd k0 Bool.false_ne_true
  | non =>
    walk_at "Z9A"
    exact rfl
  | bl =>
    walk_at "Z9A"
    exact rfl
  | int =>
    walk_at "Z9A"
    exact rfl
  | str =>
    walk_at "Z9A"
    exact rfl
  | lst =>
    walk_at "Z9A"
    exact rfl
  | dic =>
    walk_at "Z9A"
    exact rfl
theorem nexts_eq {d : D} (k : kn1 d = true) (l m : Int) (h : Hh) : g_are_nexts [d, .int l, .int m] h = .ok (.bl (nexts d l m), h) := by
  have k0 := kn1_0 k
  refine WP.eq (r_pure (by simp [pureDs, kn0_pure k0, pureD]) ?_)
  show WP (runD G_are_nexts 4 ir_are_nexts _ _) _ _
  refine r_run' rfl ?_
  unfold ir_are_nexts
  cases d with
  | tup xs =>
    have k1 := kn1_t k
    walk_at "Z9A"
    (refine ⟨fun hb => ?_, fun hb => ?_⟩)
    · walk_at "Z9A"
      exact ⟨by simp at hb; simp [nexts, hb], rfl⟩
    · walk_at "Z9A"
      refine w_lcF' (fun x => .bl (num x 0 (m - 1))) ?_
      refine w_seq' (w_var' rfl ⟨_, .inr rfl, Nat.le_trans k1.1 (by decide), fun x hx => ⟨_, rfl, ?_⟩, ?_⟩)
      · refine WE.eq ?_
        walk_at "Z9A"
        exact w_ceq (is_within_eq (k1.2 x hx) _ _ _) ⟨rfl, rfl⟩
      · walk_at "Z9A"
        refine wd' (all_map _ _ _) ?_
        walk_at "Z9A"
        exact ⟨by simp at hb; simp [nexts, hb], rfl⟩
  | ref => exact absurd k0 Bool.false_ne_true
  | ins => exact absurd k0 Bool.false_ne_true
  | exc => exact absurd k0 Bool.false_ne_true
  | scr => exact absurd k0 Bool.false_ne_true
  | non =>
    walk_at "Z9A"
    exact rfl
  | bl =>
    walk_at "Z9A"
    exact rfl
  | int =>
    walk_at "Z9A"
    exact rfl
  | str =>
    walk_at "Z9A"
    exact rfl
  | lst =>
    walk_at "Z9A"
    exact rfl
  | dic =>
    walk_at "Z9A"
    exact rfl
/-! words -/
abbrev small : List Nat := [97, 98, 99, 100, 101, 102, 103, 104, 105, 106, 107, 108, 109, 110, 111, 112, 113, 114, 115, 116, 117, 118, 119, 120, 121, 122]
def inS (d : D) : Bool := match d with
  | .str [c] => decide (c ∈ small)
  | _ => false
def strOf (d : D) : Bool := match d with
  | .str s => (s.map fun c => D.str [c]).all inS
  | _ => false
def wordD (d : D) : Bool := match d with
  | .str s => (decide (1 ≤ (s.length : Int)) && decide ((s.length : Int) ≤ 8)) && (s.map fun c => D.str [c]).all inS
  | _ => false
theorem wordD_s (s : List Nat) : wordD (.str s) = ((decide (1 ≤ (s.length : Int)) && decide ((s.length : Int) ≤ 8)) && (s.map fun c => D.str [c]).all inS) := rfl
theorem strOf_s (s : List Nat) : strOf (.str s) = (s.map fun c => D.str [c]).all inS := rfl
theorem law_word_eq {d : D} (k0 : kn0 d = true) (h : Hh) : g_law_is_word [d] h = .ok (.bl (wordD d), h) := by
  refine WP.eq (r_pure (pure1 (kn0_pure k0)) ?_)
  show WP (runD G_law_is_word 2 ir_law_is_word _ _) _ _
  refine r_run' rfl ?_
  unfold ir_law_is_word
  cases d with
  | str s =>
    walk_at "Z9A"
    (refine ⟨fun hb => ?_, fun hb => ?_⟩)
    · walk_at "Z9A"
      exact ⟨by rw [wordD_s, show (decide (1 ≤ (s.length : Int)) && decide ((s.length : Int) ≤ 8)) = false from by simpa only [Bool.not_eq_true'] using hb]; rfl, rfl⟩
    · walk_at "Z9A"
      have hb2 : (decide (1 ≤ (s.length : Int)) && decide ((s.length : Int) ≤ 8)) = true := by simpa using hb
      have hl : (s.map fun c => D.str [c]).length ≤ 16777216 := by
        simp only [Bool.and_eq_true, decide_eq_true_eq] at hb2
        rw [List.length_map]
        omega
      refine w_lcF' (fun x => .bl (inS x)) ?_
      refine w_seqS' (w_var' rfl ⟨_, rfl, hl, fun x hx => ⟨_, rfl, ?_⟩, ?_⟩)
      · obtain ⟨c, _, rfl⟩ := List.mem_map.mp hx
        refine WE.eq ?_
        walk_at "Z9A"
        exact rfl
      · walk_at "Z9A"
        refine wd' (all_map _ _ _) ?_
        walk_at "Z9A"
        exact ⟨by rw [wordD_s, hb2]; rfl, rfl⟩
  | ref => exact absurd k0 Bool.false_ne_true
  | ins => exact absurd k0 Bool.false_ne_true
  | exc => exact absurd k0 Bool.false_ne_true
  | scr => exact absurd k0 Bool.false_ne_true
  | non =>
    walk_at "Z9A"
    exact rfl
  | bl =>
    walk_at "Z9A"
    exact rfl
  | int =>
    walk_at "Z9A"
    exact rfl
  | tup =>
    walk_at "Z9A"
    exact rfl
  | lst =>
    walk_at "Z9A"
    exact rfl
  | dic =>
    walk_at "Z9A"
    exact rfl

theorem string_eq {d : D} (k0 : kn0 d = true) (h : Hh) : g_is_string_of [d, .str small] h = .ok (.bl (strOf d), h) := by
  refine WP.eq (r_pure (by simp [pureDs, kn0_pure k0, pureD]) ?_)
  show WP (runD G_is_string_of 3 ir_is_string_of _ _) _ _
  refine r_run' rfl ?_
  unfold ir_is_string_of
  cases d with
  | str s =>
    walk_at "Z9A"
    refine s_for' (fun zs r h => (∃ v, r = [some (.str s), some (.str small), v]) ∧ h = [] ∧ ∃ pre, (s.map fun c => D.str [c]) = pre ++ zs ∧ pre.all inS = true) ?_ ?_ ?_
    · refine w_seqS' (w_var' rfl ⟨_, rfl, ⟨_, rfl⟩, rfl, [], rfl, rfl⟩)
    · rintro x xs r h ⟨⟨v, rfl⟩, rfl, pre, e, p⟩
      obtain ⟨c, _, rfl⟩ := List.mem_map.mp (show x ∈ s.map fun c => D.str [c] by rw [e]; simp)
      refine ⟨_, rfl, ?_⟩
      walk_at "Z9A"
      (refine ⟨fun hb => ?_, fun hb => ?_⟩)
      · walk_at "Z9A"
        refine ⟨?_, rfl⟩
        have : inS (.str [c]) = false := by
          show decide (c ∈ small) = false
          simpa only [Bool.not_eq_true'] using hb
        rw [strOf_s, e, List.all_append, List.all_cons, this]
        simp
      · walk_at "Z9A"
        refine ⟨⟨_, rfl⟩, rfl, pre ++ [.str [c]], by rw [e]; simp, ?_⟩
        have : inS (.str [c]) = true := by
          show decide (c ∈ small) = true
          simpa only [Bool.not_eq_false'] using hb
        rw [List.all_append, p, List.all_cons, this]
        rfl
    · rintro r h ⟨⟨v, rfl⟩, rfl, pre, e, p⟩
      walk_at "Z9A"
      refine ⟨?_, rfl⟩
      rw [strOf_s]
      rw [e, List.append_nil, p]
  | ref => exact absurd k0 Bool.false_ne_true
  | ins => exact absurd k0 Bool.false_ne_true
  | exc => exact absurd k0 Bool.false_ne_true
  | scr => exact absurd k0 Bool.false_ne_true
  | non =>
    walk_at "Z9A"
    exact rfl
  | bl =>
    walk_at "Z9A"
    exact rfl
  | int =>
    walk_at "Z9A"
    exact rfl
  | tup =>
    walk_at "Z9A"
    exact rfl
  | lst =>
    walk_at "Z9A"
    exact rfl
  | dic =>
    walk_at "Z9A"
    exact rfl

theorem word_eq {d : D} (k0 : kn0 d = true) (h : Hh) : g_is_word [d] h = .ok (.bl (wordD d), h) := by
  refine WP.eq (r_pure (pure1 (kn0_pure k0)) ?_)
  show WP (runD G_is_word 1 ir_is_word _ _) _ _
  refine r_run' rfl ?_
  unfold ir_is_word
  walk_at "Z9A"
  refine w_ceq (string_eq k0 _) ?_
  walk_at "Z9A"
  (refine ⟨fun hb => ?_, fun hb => ?_⟩)
  · cases d with
    | str s =>
      walk_at "Z9A"
      exact ⟨by rw [wordD_s, show (s.map fun c => D.str [c]).all inS = true from hb, Bool.and_true], rfl⟩
    | _ => exact absurd hb Bool.false_ne_true
  · refine ⟨rfl, ?_, rfl⟩
    cases d with
    | str s => rw [wordD_s, show (s.map fun c => D.str [c]).all inS = false from hb, Bool.and_false]; rfl
    | _ => rfl
end Z9

set_option Elab.async false
set_option linter.all false
set_option maxRecDepth 100000
set_option maxHeartbeats 400000
namespace Z9
open PySem PySem.Spec
local macro_rules | `(tactic| walk_at "Z9A") => `(tactic| repeat (first | (with_reducible first | refine w_con' ?_ | refine w_neg' ?_ | refine w_dic0' ?_ | refine w_sn' ?_ | refine w_sc' ?_ | refine w_tup' ?_ | refine w_lst' ?_ | refine w_newl' ?_ | refine w_bin' ?_ | refine w_cmp' ?_ | refine w_cmp2' ?_ | refine w_isn' ?_ | refine w_notn' ?_ | refine w_and' ?_ | refine w_or' ?_ | refine w_a2' ?_ | refine w_a1' ?_ | refine w_not' ?_ | refine w_ife' ?_ | refine w_ix' ?_ | refine w_on' ?_ | refine w_os' ?_ | refine w_sl' ?_ | refine w_isi' ?_ | refine w_fld' ?_ | refine w_bcall' ?_ | refine w_bmeth' ?_ | refine w_meth' ?_ | refine w_lof' ?_ | refine w_lor' ?_ | refine w_sset' ?_ | refine w_inr' ?_ | refine w_tn' ?_ | refine w_tc' ?_ | refine s_nil' ?_ | refine s_cons' ?_ | refine s_set' ?_ | refine s_seti' ?_ | refine s_setf' ?_ | refine s_expr' ?_ | refine s_ret' ?_ | refine s_retn' ?_ | refine s_pass' ?_ | refine s_iff' ?_) | refine w_var' rfl ?_ | refine w_glob' rfl ?_ | refine w_call' rfl ?_ | refine w_new' rfl ?_ | refine s_rai1' rfl ?_ | (with_reducible first | refine wd' (int_eq _ _) ?_ | refine wd' (str_eq _ _) ?_ | refine wd' (int_ne _ _) ?_ | refine wd' (bin_add _ _) ?_ | refine wd' (bin_sub _ _) ?_ | refine wd' (int_lt _ _) ?_ | refine wd' (int_le _ _) ?_ | refine wd' (int_gt _ _) ?_ | refine wd' (int_ge _ _) ?_ | refine wd' (bin_mul_r (by decide) (by decide)) ?_ | refine wd' (bin_mulmod (by decide) (by decide)) ?_ | refine wd' (bin_mod (by decide)) ?_ | refine wd' (bin_div (by decide) (by decide)) ?_) | refine wd' rfl ?_ | refine ⟨rfl, ?_⟩ | refine ⟨Nat.le_of_ble_eq_true rfl, ?_⟩ | refine ⟨_, rfl, ?_⟩ | refine br_t rfl ?_ | refine br_f rfl ?_ | refine br_ft rfl ?_ | refine br_ff rfl ?_))
local macro_rules | `(tactic| walk_at "Z9V") => `(tactic| repeat (first | (with_reducible first | refine w_con' ?_ | refine w_neg' ?_ | refine w_dic0' ?_ | refine w_sn' ?_ | refine w_sc' ?_ | refine w_tup' ?_ | refine w_lst' ?_ | refine w_newl' ?_ | refine w_bin' ?_ | refine w_cmp' ?_ | refine w_cmp2' ?_ | refine w_isn' ?_ | refine w_notn' ?_ | refine w_and' ?_ | refine w_or' ?_ | refine w_a2v ?_ | refine w_o2v ?_ | refine w_a2' ?_ | refine w_a1' ?_ | refine w_not' ?_ | refine w_ife' ?_ | refine w_ix' ?_ | refine w_on' ?_ | refine w_os' ?_ | refine w_sl' ?_ | refine w_isi' ?_ | refine w_fld' ?_ | refine w_bcall' ?_ | refine w_bmeth' ?_ | refine w_meth' ?_ | refine w_lof' ?_ | refine w_lor' ?_ | refine w_sset' ?_ | refine w_inr' ?_ | refine w_tn' ?_ | refine w_tc' ?_ | refine s_nil' ?_ | refine s_cons' ?_ | refine s_set' ?_ | refine s_seti' ?_ | refine s_setf' ?_ | refine s_expr' ?_ | refine s_ret' ?_ | refine s_retn' ?_ | refine s_pass' ?_ | refine s_iff' ?_) | refine w_var' rfl ?_ | refine w_glob' rfl ?_ | refine w_call' rfl ?_ | refine w_new' rfl ?_ | refine s_rai1' rfl ?_ | (with_reducible first | refine wd' (int_eq _ _) ?_ | refine wd' (str_eq _ _) ?_ | refine wd' (int_ne _ _) ?_ | refine wd' (bin_add _ _) ?_ | refine wd' (bin_sub _ _) ?_ | refine wd' (int_lt _ _) ?_ | refine wd' (int_le _ _) ?_ | refine wd' (int_gt _ _) ?_ | refine wd' (int_ge _ _) ?_ | refine wd' (bin_mul_r (by decide) (by decide)) ?_ | refine wd' (bin_mulmod (by decide) (by decide)) ?_ | refine wd' (bin_mod (by decide)) ?_ | refine wd' (bin_div (by decide) (by decide)) ?_) | refine wd' rfl ?_ | refine ⟨rfl, ?_⟩ | refine ⟨Nat.le_of_ble_eq_true rfl, ?_⟩ | refine ⟨_, rfl, ?_⟩ | refine br_t rfl ?_ | refine br_f rfl ?_ | refine br_ft rfl ?_ | refine br_ff rfl ?_))
abbrev sStop : List Nat := [115, 116, 111, 112]
abbrev sBegin : List Nat := [98, 101, 103, 105, 110]
abbrev sOn : List Nat := [111, 110]
abbrev sLeave : List Nat := [108, 101, 97, 118, 101]
abbrev sSay : List Nat := [115, 97, 121]
theorem pure_ints (is : List Int) : pureDs (is.map D.int) = true := by
  induction is with
  | nil => rfl
  | cons i is ih => simp [pureDs, pureD, ih]
theorem max_ints {is : List Int} (n : is ≠ []) (h : Hh) : bcallD .max [.tup (is.map D.int)] h = .ok (.int (maxI is)) := by
  show maxO (ints? _) = _
  rw [ints_map]
  cases is with
  | nil => exact absurd rfl n
  | cons => rfl
theorem stop_eq {a : D} (k : canEq a = true) (as : List D) : cmpD .Eq (.tup (a :: as)) (.tup [.str sStop]) = .ok (.bl (eqD a (.str sStop) && as.isEmpty)) := cmp_eqT k rfl
def kn2 (d : D) : Bool := kn0 d && (match d with
  | .tup xs => decide (xs.length ≤ 100000) && xs.all kn1 && (match xs with
    | a :: _ => canEq a
    | [] => true)
  | _ => true)
theorem kn2_0 {d : D} (k : kn2 d = true) : kn0 d = true := (Bool.and_eq_true_iff.mp k).1
theorem kn2_t {a : D} {xs : List D} (k : kn2 (.tup (a :: xs)) = true) : canEq a = true ∧ ∀ x ∈ a :: xs, kn1 x = true := by
  have := (Bool.and_eq_true_iff.mp k).2
  simp only [Bool.and_eq_true, decide_eq_true_eq, List.all_eq_true] at this
  exact ⟨this.2, this.1.2⟩
def itemD (d : D) (is : List Int) (l m : Int) : Bool := match d with
  | .tup [.str w] => decide (w = sStop)
  | .tup [.str w, b, c] => if w = sBegin then num b 0 (((is.map D.int).length : Int) - 1) && nexts c l m
    else if w = sOn then num b 0 (maxI is) && nexts c l m
    else if w = sLeave then num b 0 (maxI is) && num c 0 (m - 1)
    else if w = sSay then wordD b && num c 0 (m - 1) else false
  | _ => false
theorem item3 (w : List Nat) (b c : D) (is : List Int) (l m : Int) : itemD (.tup [.str w, b, c]) is l m = if w = sBegin then num b 0 (((is.map D.int).length : Int) - 1) && nexts c l m
    else if w = sOn then num b 0 (maxI is) && nexts c l m
    else if w = sLeave then num b 0 (maxI is) && num c 0 (m - 1)
    else if w = sSay then wordD b && num c 0 (m - 1) else false := rfl
def sayD (xs : List D) (m : Int) : Bool := match xs with
  | [_, b, c] => wordD b && num c 0 (m - 1)
  | _ => false
/-- no text ahead -/
def isS : D → Bool
  | .str _ => true
  | _ => false
theorem noS_item {a : D} {as : List D} (n : isS a = false) (is : List Int) (l m : Int) : itemD (.tup (a :: as)) is l m = false := by
  cases a <;> first | rfl | (exact absurd n Bool.noConfusion)
theorem noS_eq {a : D} (n : isS a = false) : eqD a (.str sStop) = false := by
  cases a <;> first | (exact absurd n Bool.noConfusion) | simp [eqD]
theorem noS_isi {a : D} (n : isS a = false) (k0 : kn0 a = true) (h : Hh) : isiD h a .str = .ok (.bl false) := by
  cases a <;> first | (exact absurd n Bool.noConfusion) | rfl | (exact absurd k0 Bool.false_ne_true)
theorem ix0 (a : D) (as : List D) (h : Hh) : ixD h (.tup (a :: as)) (.int 0) = .ok a := by
  show ofO (atD (a :: as) 0) = _
  rw [atD_in (by omega) (by rw [List.length_cons]; omega)]
  rfl
theorem len_no {a b c e : D} {as : List D} : decide (((a :: b :: c :: e :: as).length : Int) = 3) = false := decide_eq_false (by simp only [List.length_cons]; omega)
theorem item_len {a : D} {as : List D} (n0 : as ≠ []) (n : decide (((a :: as).length : Int) = 3) = false) (is : List Int) (l m : Int) : itemD (.tup (a :: as)) is l m = false := by
  rcases as with _ | ⟨b, _ | ⟨c, _ | ⟨e, as⟩⟩⟩
  · exact absurd rfl n0
  · cases a <;> rfl
  · exact absurd n (by simp)
  · cases a <;> rfl
theorem not_t {b : Bool} (e : (!b) = (!false)) : b = false := by cases b <;> first | rfl | cases e
theorem three {a : D} {as : List D} (n : decide (((a :: as).length : Int) = 3) = true) : ∃ b c, as = [b, c] := by
  have := of_decide_eq_true n
  rcases as with _ | ⟨b, _ | ⟨c, _ | ⟨e, as⟩⟩⟩
  · simp at this
  · simp at this
  · exact ⟨b, c, rfl⟩
  · simp only [List.length_cons] at this; omega
theorem law_item_eq {d : D} (k : kn2 d = true) {is : List Int} (hi : is ≠ []) (l m : Int) (h : Hh) : g_law_is_item [d, .tup (is.map D.int), .int l, .int m] h = .ok (.bl (itemD d is l m), h) := by
  have k0 := kn2_0 k
  refine WP.eq (r_pure (by simp [pureDs, kn0_pure k0, pureD, pure_ints]) ?_)
  show WP (runD G_law_is_item 4 ir_law_is_item _ _) _ _
  refine r_run' rfl ?_
  unfold ir_law_is_item
  cases d with
  | tup xs =>
    cases xs with
    | nil =>
      walk_at "Z9A"
      exact rfl
    | cons a as =>
      obtain ⟨ce, k1⟩ := kn2_t k
      have ka := kn1_0 (k1 a List.mem_cons_self)
      walk_at "Z9A"
      refine wd' (stop_eq ce as) ?_
      walk_at "Z9A"
      by_cases hs : isS a = false
      · rw [noS_eq hs, Bool.false_and]
        walk_at "Z9A"
        (refine ⟨fun hb => ?_, fun hb => ?_⟩)
        · walk_at "Z9A"
          refine wd' (ix0 a as _) ?_
          walk_at "Z9A"
          refine wd' (noS_isi hs ka _) ?_
          walk_at "Z9A"
          exact ⟨by rw [noS_item hs], rfl⟩
        · walk_at "Z9A"
          exact ⟨by rw [noS_item hs], rfl⟩
      · obtain ⟨w, rfl⟩ : ∃ w, a = .str w := by
          cases a <;> first | exact ⟨_, rfl⟩ | exact absurd rfl hs
        (refine ⟨fun hb => ?_, fun hb => ?_⟩)
        · walk_at "Z9A"
          simp [eqD] at hb
          obtain ⟨rfl, rfl⟩ := hb
          exact ⟨rfl, rfl⟩
        · have hb0 := hb
          clear hb
          walk_at "Z9A"
          (refine ⟨fun hb => ?_, fun hb => ?_⟩)
          · walk_at "Z9A"
            refine wd' (ix0 _ as _) ?_
            walk_at "Z9A"
            have hl : decide ((((D.str w) :: as).length : Int) = 3) = true := by simpa only [Bool.not_eq_false'] using hb
            obtain ⟨b, c, rfl⟩ := three hl
            have kb := k1 b (by simp)
            have kc := k1 c (by simp)
            walk_at "Z9A"
            (refine ⟨fun hb => ?_, fun hb => ?_⟩)
            · cases of_decide_eq_true hb
              walk_at "Z9V"
              refine w_ceq (is_number_eq (kn1_0 kb) _ _ _) ?_
              walk_at "Z9V"
              refine w_ceq (law_nexts_eq kc _ _ _) ?_
              walk_at "Z9V"
              first | exact rfl | exact ⟨by rw [item3, if_pos rfl], rfl⟩
            · have n1 := of_decide_eq_false hb
              walk_at "Z9A"
              (refine ⟨fun hb => ?_, fun hb => ?_⟩)
              · cases of_decide_eq_true hb
                walk_at "Z9V"
                refine wd' (max_ints hi _) ?_
                walk_at "Z9V"
                refine w_ceq (is_number_eq (kn1_0 kb) _ _ _) ?_
                walk_at "Z9V"
                refine w_ceq (law_nexts_eq kc _ _ _) ?_
                walk_at "Z9V"
                first | exact rfl | exact ⟨by rw [item3, if_neg n1, if_pos rfl], rfl⟩
              · have n2 := of_decide_eq_false hb
                walk_at "Z9A"
                (refine ⟨fun hb => ?_, fun hb => ?_⟩)
                · cases of_decide_eq_true hb
                  walk_at "Z9V"
                  refine wd' (max_ints hi _) ?_
                  walk_at "Z9V"
                  refine w_ceq (is_number_eq (kn1_0 kb) _ _ _) ?_
                  walk_at "Z9V"
                  refine w_ceq (is_number_eq (kn1_0 kc) _ _ _) ?_
                  walk_at "Z9V"
                  first | exact rfl | exact ⟨by rw [item3, if_neg n1, if_neg n2, if_pos rfl], rfl⟩
                · have n3 := of_decide_eq_false hb
                  walk_at "Z9V"
                  (refine ⟨fun hb => ?_, fun hb => ?_⟩)
                  · cases of_decide_eq_true hb
                    walk_at "Z9V"
                    refine w_ceq (law_word_eq (kn1_0 kb) _) ?_
                    walk_at "Z9V"
                    refine w_ceq (is_number_eq (kn1_0 kc) _ _ _) ?_
                    walk_at "Z9V"
                    first | exact rfl | exact ⟨by rw [item3, if_neg n1, if_neg n2, if_neg n3, if_pos rfl], rfl⟩
                  · have n4 := of_decide_eq_false hb
                    walk_at "Z9V"
                    exact ⟨by rw [item3, if_neg n1, if_neg n2, if_neg n3, if_neg n4]; rfl, rfl⟩
          · walk_at "Z9A"
            have hl : decide ((((D.str w) :: as).length : Int) = 3) = false := not_t hb
            refine ⟨?_, rfl⟩
            by_cases n0 : as = []
            · subst n0
              have : decide (w = sStop) = false := by simpa [eqD] using hb0
              show D.bl false = D.bl (decide (w = sStop))
              rw [this]
            · rw [item_len n0 hl]
  | ref => exact absurd k0 Bool.false_ne_true
  | ins => exact absurd k0 Bool.false_ne_true
  | exc => exact absurd k0 Bool.false_ne_true
  | scr => exact absurd k0 Bool.false_ne_true
  | non =>
    walk_at "Z9A"
    exact rfl
  | bl =>
    walk_at "Z9A"
    exact rfl
  | int =>
    walk_at "Z9A"
    exact rfl
  | str =>
    walk_at "Z9A"
    exact rfl
  | lst =>
    walk_at "Z9A"
    exact rfl
  | dic =>
    walk_at "Z9A"
    exact rfl

end Z9

set_option Elab.async false
set_option linter.all false
set_option maxRecDepth 100000
set_option maxHeartbeats 400000
namespace Z9
open PySem PySem.Spec
local macro_rules | `(tactic| walk_at "Z9A") => `(tactic| repeat (first | (with_reducible first | refine w_con' ?_ | refine w_neg' ?_ | refine w_dic0' ?_ | refine w_sn' ?_ | refine w_sc' ?_ | refine w_tup' ?_ | refine w_lst' ?_ | refine w_newl' ?_ | refine w_bin' ?_ | refine w_cmp' ?_ | refine w_cmp2' ?_ | refine w_isn' ?_ | refine w_notn' ?_ | refine w_and' ?_ | refine w_or' ?_ | refine w_a2' ?_ | refine w_a1' ?_ | refine w_not' ?_ | refine w_ife' ?_ | refine w_ix' ?_ | refine w_on' ?_ | refine w_os' ?_ | refine w_sl' ?_ | refine w_isi' ?_ | refine w_fld' ?_ | refine w_bcall' ?_ | refine w_bmeth' ?_ | refine w_meth' ?_ | refine w_lof' ?_ | refine w_lor' ?_ | refine w_sset' ?_ | refine w_inr' ?_ | refine w_tn' ?_ | refine w_tc' ?_ | refine s_nil' ?_ | refine s_cons' ?_ | refine s_set' ?_ | refine s_seti' ?_ | refine s_setf' ?_ | refine s_expr' ?_ | refine s_ret' ?_ | refine s_retn' ?_ | refine s_pass' ?_ | refine s_iff' ?_) | refine w_var' rfl ?_ | refine w_glob' rfl ?_ | refine w_call' rfl ?_ | refine w_new' rfl ?_ | refine s_rai1' rfl ?_ | (with_reducible first | refine wd' (int_eq _ _) ?_ | refine wd' (str_eq _ _) ?_ | refine wd' (int_ne _ _) ?_ | refine wd' (bin_add _ _) ?_ | refine wd' (bin_sub _ _) ?_ | refine wd' (int_lt _ _) ?_ | refine wd' (int_le _ _) ?_ | refine wd' (int_gt _ _) ?_ | refine wd' (int_ge _ _) ?_ | refine wd' (bin_mul_r (by decide) (by decide)) ?_ | refine wd' (bin_mulmod (by decide) (by decide)) ?_ | refine wd' (bin_mod (by decide)) ?_ | refine wd' (bin_div (by decide) (by decide)) ?_) | refine wd' rfl ?_ | refine ⟨rfl, ?_⟩ | refine ⟨Nat.le_of_ble_eq_true rfl, ?_⟩ | refine ⟨_, rfl, ?_⟩ | refine br_t rfl ?_ | refine br_f rfl ?_ | refine br_ft rfl ?_ | refine br_ff rfl ?_))
local macro_rules | `(tactic| walk_at "Z9V") => `(tactic| repeat (first | (with_reducible first | refine w_con' ?_ | refine w_neg' ?_ | refine w_dic0' ?_ | refine w_sn' ?_ | refine w_sc' ?_ | refine w_tup' ?_ | refine w_lst' ?_ | refine w_newl' ?_ | refine w_bin' ?_ | refine w_cmp' ?_ | refine w_cmp2' ?_ | refine w_isn' ?_ | refine w_notn' ?_ | refine w_and' ?_ | refine w_or' ?_ | refine w_a2v ?_ | refine w_o2v ?_ | refine w_a2' ?_ | refine w_a1' ?_ | refine w_not' ?_ | refine w_ife' ?_ | refine w_ix' ?_ | refine w_on' ?_ | refine w_os' ?_ | refine w_sl' ?_ | refine w_isi' ?_ | refine w_fld' ?_ | refine w_bcall' ?_ | refine w_bmeth' ?_ | refine w_meth' ?_ | refine w_lof' ?_ | refine w_lor' ?_ | refine w_sset' ?_ | refine w_inr' ?_ | refine w_tn' ?_ | refine w_tc' ?_ | refine s_nil' ?_ | refine s_cons' ?_ | refine s_set' ?_ | refine s_seti' ?_ | refine s_setf' ?_ | refine s_expr' ?_ | refine s_ret' ?_ | refine s_retn' ?_ | refine s_pass' ?_ | refine s_iff' ?_) | refine w_var' rfl ?_ | refine w_glob' rfl ?_ | refine w_call' rfl ?_ | refine w_new' rfl ?_ | refine s_rai1' rfl ?_ | (with_reducible first | refine wd' (int_eq _ _) ?_ | refine wd' (str_eq _ _) ?_ | refine wd' (int_ne _ _) ?_ | refine wd' (bin_add _ _) ?_ | refine wd' (bin_sub _ _) ?_ | refine wd' (int_lt _ _) ?_ | refine wd' (int_le _ _) ?_ | refine wd' (int_gt _ _) ?_ | refine wd' (int_ge _ _) ?_ | refine wd' (bin_mul_r (by decide) (by decide)) ?_ | refine wd' (bin_mulmod (by decide) (by decide)) ?_ | refine wd' (bin_mod (by decide)) ?_ | refine wd' (bin_div (by decide) (by decide)) ?_) | refine wd' rfl ?_ | refine ⟨rfl, ?_⟩ | refine ⟨Nat.le_of_ble_eq_true rfl, ?_⟩ | refine ⟨_, rfl, ?_⟩ | refine br_t rfl ?_ | refine br_f rfl ?_ | refine br_ft rfl ?_ | refine br_ff rfl ?_))
theorem item_f {w : List Nat} {as : List D} (n : ¬ w = sStop) (hl : decide ((((D.str w) :: as).length : Int) = 3) = false) (is : List Int) (l m : Int) : itemD (.tup (.str w :: as)) is l m = false := by
  by_cases n0 : as = []
  · subst n0
    show decide (w = sStop) = false
    exact decide_eq_false n
  · exact item_len n0 hl _ _ _
theorem say_item (as : List D) (is : List Int) (l m : Int) : itemD (.tup (.str sSay :: as)) is l m = sayD (.str sSay :: as) m := by
  rcases as with _ | ⟨b, _ | ⟨c, _ | ⟨e, as⟩⟩⟩
  · rfl
  · rfl
  · rw [item3, if_neg (by decide), if_neg (by decide), if_neg (by decide), if_pos rfl]
    rfl
  · rfl
theorem sayD_len {xs : List D} (n : decide ((xs.length : Int) = 3) = false) (m : Int) : sayD xs m = false := by
  rcases xs with _ | ⟨a, _ | ⟨b, _ | ⟨c, _ | ⟨e, as⟩⟩⟩⟩
  · rfl
  · rfl
  · rfl
  · exact absurd n (by simp)
  · rfl
theorem say_eq {a : D} {as : List D} (k0 : kn0 (.tup (a :: as)) = true) (k1 : ∀ x ∈ a :: as, kn1 x = true) (m : Int) (h : Hh) : g_is_say [.tup (a :: as), .int m] h = .ok (.bl (sayD (a :: as) m), h) := by
  refine WP.eq (r_pure (by have := kn0_pure k0; simp only [pureDs, this]; rfl) ?_)
  show WP (runD G_is_say 2 ir_is_say _ _) _ _
  refine r_run' rfl ?_
  unfold ir_is_say
  walk_at "Z9V"
  (refine ⟨fun hb => ?_, fun hb => ?_⟩)
  · obtain ⟨b, c, rfl⟩ := three hb
    have kb := k1 b (by simp)
    have kc := k1 c (by simp)
    walk_at "Z9V"
    refine w_ceq (word_eq (kn1_0 kb) _) ?_
    walk_at "Z9V"
    refine w_ceq (is_within_eq (kn1_0 kc) _ _ _) ?_
    walk_at "Z9V"
    exact rfl
  · refine ⟨rfl, ?_, rfl⟩
    rw [sayD_len hb]
    rfl
theorem item_eq {d : D} (k : kn2 d = true) {is : List Int} (hi : is ≠ []) (l m : Int) (h : Hh) : g_is_program_item [d, .tup (is.map D.int), .int l, .int m] h = .ok (.bl (itemD d is l m), h) := by
  have k0 := kn2_0 k
  refine WP.eq (r_pure (by simp [pureDs, kn0_pure k0, pureD, pure_ints]) ?_)
  show WP (runD G_is_program_item 4 ir_is_program_item _ _) _ _
  refine r_run' rfl ?_
  unfold ir_is_program_item
  cases d with
  | tup xs =>
    cases xs with
    | nil =>
      walk_at "Z9A"
      exact rfl
    | cons a as =>
      obtain ⟨ce, k1⟩ := kn2_t k
      have ka := kn1_0 (k1 a List.mem_cons_self)
      walk_at "Z9A"
      refine wd' (ix0 a as _) ?_
      walk_at "Z9A"
      by_cases hs : isS a = false
      · refine wd' (noS_isi hs ka _) ?_
        walk_at "Z9A"
        exact ⟨by rw [noS_item hs], rfl⟩
      · obtain ⟨w, rfl⟩ : ∃ w, a = .str w := by
          cases a <;> first | exact ⟨_, rfl⟩ | exact absurd rfl hs
        walk_at "Z9A"
        refine wd' (ix0 _ as _) ?_
        walk_at "Z9A"
        (refine ⟨fun hb => ?_, fun hb => ?_⟩)
        · cases of_decide_eq_true hb
          clear hb
          walk_at "Z9V"
          (refine ⟨fun hb => ?_, fun hb => ?_⟩)
          · obtain ⟨b, c, rfl⟩ := three hb
            have kb := k1 b (by simp)
            have kc := k1 c (by simp)
            walk_at "Z9V"
            refine w_ceq (is_within_eq (kn1_0 kb) _ _ _) ?_
            walk_at "Z9V"
            refine w_ceq (nexts_eq kc _ _ _) ?_
            walk_at "Z9V"
            first | exact rfl | exact ⟨by rw [item3, if_pos rfl], rfl⟩
          · refine ⟨rfl, ?_, rfl⟩
            rw [item_f (by decide) hb]
            rfl
        · have n1 := of_decide_eq_false hb
          walk_at "Z9A"
          refine wd' (ix0 _ as _) ?_
          walk_at "Z9A"
          (refine ⟨fun hb => ?_, fun hb => ?_⟩)
          · cases of_decide_eq_true hb
            clear hb
            walk_at "Z9V"
            (refine ⟨fun hb => ?_, fun hb => ?_⟩)
            · obtain ⟨b, c, rfl⟩ := three hb
              have kb := k1 b (by simp)
              have kc := k1 c (by simp)
              walk_at "Z9V"
              refine wd' (max_ints hi _) ?_
              walk_at "Z9V"
              refine w_ceq (is_within_eq (kn1_0 kb) _ _ _) ?_
              walk_at "Z9V"
              refine w_ceq (nexts_eq kc _ _ _) ?_
              walk_at "Z9V"
              first | exact rfl | exact ⟨by rw [item3, if_neg n1, if_pos rfl], rfl⟩
            · refine ⟨rfl, ?_, rfl⟩
              rw [item_f (by decide) hb]
              rfl
          · have n2 := of_decide_eq_false hb
            walk_at "Z9A"
            refine wd' (ix0 _ as _) ?_
            walk_at "Z9A"
            (refine ⟨fun hb => ?_, fun hb => ?_⟩)
            · cases of_decide_eq_true hb
              clear hb
              walk_at "Z9V"
              (refine ⟨fun hb => ?_, fun hb => ?_⟩)
              · obtain ⟨b, c, rfl⟩ := three hb
                have kb := k1 b (by simp)
                have kc := k1 c (by simp)
                walk_at "Z9V"
                refine wd' (max_ints hi _) ?_
                walk_at "Z9V"
                refine w_ceq (is_within_eq (kn1_0 kb) _ _ _) ?_
                walk_at "Z9V"
                refine w_ceq (is_within_eq (kn1_0 kc) _ _ _) ?_
                walk_at "Z9V"
                first | exact rfl | exact ⟨by rw [item3, if_neg n1, if_neg n2, if_pos rfl], rfl⟩
              · refine ⟨rfl, ?_, rfl⟩
                rw [item_f (by decide) hb]
                rfl
            · have n3 := of_decide_eq_false hb
              walk_at "Z9A"
              refine wd' (ix0 _ as _) ?_
              walk_at "Z9A"
              (refine ⟨fun hb => ?_, fun hb => ?_⟩)
              · cases of_decide_eq_true hb
                walk_at "Z9V"
                refine w_ceq (say_eq k0 k1 _ _) ?_
                walk_at "Z9V"
                exact ⟨by rw [say_item], rfl⟩
              · have n4 := of_decide_eq_false hb
                walk_at "Z9A"
                refine wd' (stop_eq ce as) ?_
                walk_at "Z9A"
                refine ⟨?_, rfl⟩
                cases as with
                | nil =>
                  show D.bl (eqD (.str w) (.str sStop) && true) = D.bl (decide (w = sStop))
                  simp [eqD]
                | cons b as =>
                  rw [show (b :: as).isEmpty = false from rfl, Bool.and_false]
                  cases hl : decide ((((D.str w) :: b :: as).length : Int) = 3) with
                  | false => rw [item_len (by simp) hl]
                  | true =>
                    obtain ⟨b', c, e⟩ := three hl
                    rw [e, item3, if_neg n1, if_neg n2, if_neg n3, if_neg n4]
  | ref => exact absurd k0 Bool.false_ne_true
  | ins => exact absurd k0 Bool.false_ne_true
  | exc => exact absurd k0 Bool.false_ne_true
  | scr => exact absurd k0 Bool.false_ne_true
  | non =>
    walk_at "Z9A"
    exact rfl
  | bl =>
    walk_at "Z9A"
    exact rfl
  | int =>
    walk_at "Z9A"
    exact rfl
  | str =>
    walk_at "Z9A"
    exact rfl
  | lst =>
    walk_at "Z9A"
    exact rfl
  | dic =>
    walk_at "Z9A"
    exact rfl

end Z9

set_option Elab.async false
set_option linter.all false
set_option maxRecDepth 100000
set_option maxHeartbeats 400000
namespace Z9
open PySem PySem.Spec
local macro_rules | `(tactic| walk_at "Z9A") => `(tactic| repeat (first | (with_reducible first | refine w_con' ?_ | refine w_neg' ?_ | refine w_dic0' ?_ | refine w_sn' ?_ | refine w_sc' ?_ | refine w_tup' ?_ | refine w_lst' ?_ | refine w_newl' ?_ | refine w_bin' ?_ | refine w_cmp' ?_ | refine w_cmp2' ?_ | refine w_isn' ?_ | refine w_notn' ?_ | refine w_and' ?_ | refine w_or' ?_ | refine w_a2' ?_ | refine w_a1' ?_ | refine w_not' ?_ | refine w_ife' ?_ | refine w_ix' ?_ | refine w_on' ?_ | refine w_os' ?_ | refine w_sl' ?_ | refine w_isi' ?_ | refine w_fld' ?_ | refine w_bcall' ?_ | refine w_bmeth' ?_ | refine w_meth' ?_ | refine w_lof' ?_ | refine w_lor' ?_ | refine w_sset' ?_ | refine w_inr' ?_ | refine w_tn' ?_ | refine w_tc' ?_ | refine s_nil' ?_ | refine s_cons' ?_ | refine s_set' ?_ | refine s_seti' ?_ | refine s_setf' ?_ | refine s_expr' ?_ | refine s_ret' ?_ | refine s_retn' ?_ | refine s_pass' ?_ | refine s_iff' ?_) | refine w_var' rfl ?_ | refine w_glob' rfl ?_ | refine w_call' rfl ?_ | refine w_new' rfl ?_ | refine s_rai1' rfl ?_ | (with_reducible first | refine wd' (int_eq _ _) ?_ | refine wd' (str_eq _ _) ?_ | refine wd' (int_ne _ _) ?_ | refine wd' (bin_add _ _) ?_ | refine wd' (bin_sub _ _) ?_ | refine wd' (int_lt _ _) ?_ | refine wd' (int_le _ _) ?_ | refine wd' (int_gt _ _) ?_ | refine wd' (int_ge _ _) ?_ | refine wd' (bin_mul_r (by decide) (by decide)) ?_ | refine wd' (bin_mulmod (by decide) (by decide)) ?_ | refine wd' (bin_mod (by decide)) ?_ | refine wd' (bin_div (by decide) (by decide)) ?_) | refine wd' rfl ?_ | refine ⟨rfl, ?_⟩ | refine ⟨Nat.le_of_ble_eq_true rfl, ?_⟩ | refine ⟨_, rfl, ?_⟩ | refine br_t rfl ?_ | refine br_f rfl ?_ | refine br_ft rfl ?_ | refine br_ff rfl ?_))
/-! ints -/
theorem maxI_cons (x y : Int) (r : List Int) : maxI (x :: y :: r) = if x ≤ maxI (y :: r) then maxI (y :: r) else x := by simp only [maxI]
theorem mx_mem : ∀ {is : List Int}, is ≠ [] → maxI is ∈ is
  | [], n => absurd rfl n
  | [x], _ => by simp [maxI]
  | x :: y :: r, _ => by
    have := mx_mem (is := y :: r) (by simp)
    rw [maxI_cons]
    split
    · exact List.mem_cons_of_mem _ this
    · exact List.mem_cons_self
theorem le_mx : ∀ {is : List Int} {i : Int}, i ∈ is → i ≤ maxI is
  | [x], i, m => by
    rw [List.mem_singleton.mp m]
    simp [maxI]
  | x :: y :: r, i, m => by
    rw [maxI_cons]
    rcases List.mem_cons.mp m with rfl | m
    · split <;> omega
    · have := le_mx m
      split <;> omega
theorem m_insU {i j : Int} : ∀ {l : List Int}, j ∈ insU i l ↔ j = i ∨ j ∈ l
  | [] => by simp [insU]
  | x :: l => by
    unfold insU
    split
    · simp
    · split
      · rename_i e
        subst e
        simp
      · rw [List.mem_cons, m_insU, List.mem_cons]
        constructor
        · rintro (a | a | a) <;> simp [a]
        · rintro (a | a | a) <;> simp [a]
theorem m_sortU {j : Int} : ∀ {l : List Int}, j ∈ sortU l ↔ j ∈ l
  | [] => by simp [sortU]
  | x :: l => by rw [sortU, m_insU, m_sortU, List.mem_cons]
theorem asc_insU {i : Int} : ∀ {l : List Int}, l.Pairwise (· < ·) → (insU i l).Pairwise (· < ·)
  | [], _ => by simp [insU]
  | x :: l, p => by
    rw [List.pairwise_cons] at p
    unfold insU
    split
    · rename_i hx
      rw [List.pairwise_cons, List.pairwise_cons]
      refine ⟨fun y m => ?_, p⟩
      rcases List.mem_cons.mp m with rfl | m
      · exact hx
      · have := p.1 y m
        omega
    · split
      · rw [List.pairwise_cons]
        exact p
      · rw [List.pairwise_cons]
        refine ⟨fun y m => ?_, asc_insU p.2⟩
        rcases m_insU.mp m with rfl | m
        · omega
        · exact p.1 y m
theorem asc_sortU : ∀ {l : List Int}, (sortU l).Pairwise (· < ·)
  | [] => List.Pairwise.nil
  | x :: l => asc_insU asc_sortU
theorem asc_eq : ∀ {a b : List Int}, a.Pairwise (· < ·) → b.Pairwise (· < ·) → (∀ x, x ∈ a ↔ x ∈ b) → a = b
  | [], [], _, _, _ => rfl
  | [], y :: b, _, _, m => absurd ((m y).mpr List.mem_cons_self) (by simp)
  | x :: a, [], _, _, m => absurd ((m x).mp List.mem_cons_self) (by simp)
  | x :: a, y :: b, pa, pb, m => by
    rw [List.pairwise_cons] at pa pb
    have e : x = y := by
      have h1 := (m x).mp List.mem_cons_self
      have h2 := (m y).mpr List.mem_cons_self
      rcases List.mem_cons.mp h1 with e | h1
      · exact e
      · rcases List.mem_cons.mp h2 with e | h2
        · exact e.symm
        · have := pa.1 y h2
          have := pb.1 x h1
          omega
    subst e
    rw [asc_eq pa.2 pb.2 fun z => ?_]
    constructor
    · intro hz
      rcases List.mem_cons.mp ((m z).mp (List.mem_cons_of_mem _ hz)) with e | h
      · have := pa.1 z hz
        omega
      · exact h
    · intro hz
      rcases List.mem_cons.mp ((m z).mpr (List.mem_cons_of_mem _ hz)) with e | h
      · have := pb.1 z hz
        omega
      · exact h
theorem asc_range (n : Nat) : ((List.range n).map fun (i : Nat) => (i : Int)).Pairwise (· < ·) := by
  rw [List.pairwise_map]
  exact List.Pairwise.imp (fun h => by omega) List.pairwise_lt_range
/-- all numbers below the greatest one are there -/
def full (is : List Int) : Bool := (List.range (maxI is).toNat).all fun (i : Nat) => decide ((i : Int) ∈ is)
theorem full_sort {is : List Int} (n : is ≠ []) (p : ∀ i ∈ is, 0 ≤ i) : decide (sortU is = (List.range (1 + maxI is).toNat).map fun (i : Nat) => (i : Int)) = full is := by
  have hm := mx_mem n
  have h0 := p _ hm
  rw [Bool.eq_iff_iff, decide_eq_true_eq]
  unfold full
  rw [List.all_eq_true]
  constructor
  · intro e i hi
    rw [List.mem_range] at hi
    refine decide_eq_true ?_
    rw [← m_sortU, e, List.mem_map]
    exact ⟨i, by rw [List.mem_range]; omega, rfl⟩
  · intro a
    refine asc_eq asc_sortU (asc_range _) fun x => ?_
    rw [m_sortU, List.mem_map]
    constructor
    · intro hx
      have := p x hx
      have := le_mx hx
      exact ⟨x.toNat, by rw [List.mem_range]; omega, by omega⟩
    · rintro ⟨i, hi, rfl⟩
      rw [List.mem_range] at hi
      by_cases he : (i : Int) = maxI is
      · rw [he]
        exact hm
      · exact of_decide_eq_true (a i (by rw [List.mem_range]; omega))
theorem depDs_ints : ∀ is : List Int, depDs (is.map D.int) = some 0
  | [] => by simp [depDs]
  | i :: is => by simp [depDs, depD, depDs_ints is]
theorem canEq_lst (is : List Int) : canEq (.lst (is.map D.int)) = true := by simp [canEq, depD, depDs_ints]
theorem canEq_tup (is : List Int) : canEq (.tup (is.map D.int)) = true := by simp [canEq, depD, depDs_ints]
theorem eqDs_ints : ∀ is js : List Int, eqDs (is.map D.int) (js.map D.int) = decide (is = js)
  | [], [] => by simp [eqDs]
  | [], _ :: _ => by simp [eqDs]
  | _ :: _, [] => by simp [eqDs]
  | i :: is, j :: js => by
    simp only [List.map_cons, eqDs, eqD, eqDs_ints is js, List.cons.injEq]
    by_cases h1 : i = j <;> by_cases h2 : is = js <;> simp [h1, h2]
theorem eq_ints (is js : List Int) : cmpD .Eq (.lst (is.map D.int)) (.lst (js.map D.int)) = .ok (.bl (decide (is = js))) := by
  rw [cmp_eq (canEq_lst _) (canEq_lst _)]
  show Res.ok (D.bl (eqDs _ _)) = _
  rw [eqDs_ints]
theorem hasD_ints (i : Int) (is : List Int) : hasD (.int i) (is.map D.int) = decide (i ∈ is) := by
  unfold hasD
  induction is with
  | nil => simp
  | cons j is ih =>
    rw [List.map_cons, List.any_cons, ih]
    simp only [eqD, List.mem_cons]
    by_cases h1 : i = j
    · subst h1; simp
    · have : ¬ j = i := fun z => h1 z.symm
      by_cases h2 : i ∈ is <;> simp [h1, h2, this]
theorem in_ints (i : Int) (is : List Int) : cmpD .In (.int i) (.tup (is.map D.int)) = .ok (.bl (decide (i ∈ is))) := by
  show ofB (canEq (.int i) && canEq (.tup (is.map D.int))) (D.bl (hasD (.int i) (is.map D.int))) = _
  rw [canEq_int, canEq_tup, hasD_ints]
  rfl
theorem sset_ints {is : List Int} (l : is.length ≤ 60) : ssetD (.tup (is.map D.int)) = .ok (.lst ((sortU is).map D.int)) := by
  show (ofO (ints? _)).bind _ = _
  rw [ints_map]
  show ofB (decide (is.length ≤ 60)) _ = _
  rw [decide_eq_true l]
  rfl
theorem num_int {d : D} {lo hi : Int} (n : num d lo hi = true) : ∃ i, d = .int i ∧ lo ≤ i ∧ i ≤ hi := by
  cases d <;> first | (simp [num] at n; done) | skip
  simp only [num, Bool.and_eq_true, decide_eq_true_eq] at n
  exact ⟨_, rfl, n⟩
theorem ints_of {hi : Int} : ∀ {xs : List D}, (xs.all fun x => num x 0 hi) = true → ∃ is : List Int, xs = is.map D.int ∧ ∀ i ∈ is, 0 ≤ i ∧ i ≤ hi
  | [], _ => ⟨[], rfl, fun _ m => by cases m⟩
  | x :: xs, a => by
    rw [List.all_cons, Bool.and_eq_true] at a
    obtain ⟨i, rfl, h1⟩ := num_int a.1
    obtain ⟨is, rfl, h2⟩ := ints_of a.2
    refine ⟨i :: is, rfl, fun j m => ?_⟩
    rcases List.mem_cons.mp m with rfl | m
    · exact h1
    · exact h2 j m
def dealD (d : D) (r : Int) : Bool := match d with
  | .tup xs => decide ((xs.length : Int) = r) && (xs.all fun x => num x 0 (r - 1)) && (match ints? xs with
    | some is => full is
    | none => false)
  | _ => false
theorem dealD_t (xs : List D) (r : Int) : dealD (.tup xs) r = (decide ((xs.length : Int) = r) && (xs.all fun x => num x 0 (r - 1)) && (match ints? xs with
    | some is => full is
    | none => false)) := rfl
theorem not_f {b : Bool} (e : (!b) = false) : b = true := by cases b <;> first | rfl | cases e
theorem range_ints (n : Nat) : ((List.range n).map fun (i : Nat) => D.int (i : Int)) = ((List.range n).map fun (i : Nat) => (i : Int)).map D.int := by rw [List.map_map]; rfl
theorem law_dealing_eq {d : D} (k : kn1 d = true) {r : Int} (r1 : 1 ≤ r) (r6 : r ≤ 6) (h : Hh) : g_law_is_dealing [d, .int r] h = .ok (.bl (dealD d r), h) := by
  have k0 := kn1_0 k
  refine WP.eq (r_pure (by simp [pureDs, kn0_pure k0, pureD]) ?_)
  show WP (runD G_law_is_dealing 3 ir_law_is_dealing _ _) _ _
  refine r_run' rfl ?_
  unfold ir_law_is_dealing
  cases d with
  | tup xs =>
    have k1 := kn1_t k
    walk_at "Z9A"
    (refine ⟨fun hb => ?_, fun hb => ?_⟩)
    · walk_at "Z9A"
      refine ⟨?_, rfl⟩
      have : decide ((xs.length : Int) = r) = false := by simpa only [Bool.not_eq_true'] using hb
      rw [dealD_t, this, Bool.false_and, Bool.false_and]
    · have hl : decide ((xs.length : Int) = r) = true := not_f hb
      walk_at "Z9A"
      refine w_lcF' (fun x => .bl (num x 0 (r - 1))) ?_
      refine w_seq' (w_var' rfl ⟨_, .inr rfl, Nat.le_trans k1.1 (by decide), fun x hx => ⟨_, rfl, ?_⟩, ?_⟩)
      · refine WE.eq ?_
        walk_at "Z9A"
        exact w_ceq (is_number_eq (k1.2 x hx) _ _ _) ⟨rfl, rfl⟩
      · walk_at "Z9A"
        refine wd' (all_map _ _ _) ?_
        walk_at "Z9A"
        (refine ⟨fun hb => ?_, fun hb => ?_⟩)
        · walk_at "Z9A"
          refine ⟨?_, rfl⟩
          have : (xs.all fun x => num x 0 (r - 1)) = false := by simpa only [Bool.not_eq_true'] using hb
          rw [dealD_t, this, Bool.and_false, Bool.false_and]
        · have ha : (xs.all fun x => num x 0 (r - 1)) = true := not_f hb
          obtain ⟨is, rfl, hr⟩ := ints_of ha
          have hlen : (is.length : Int) = r := by
            have := of_decide_eq_true hl
            rwa [List.length_map] at this
          have hi : is ≠ [] := fun z => by
            rw [z] at hlen
            simp at hlen
            omega
          have hm := mx_mem hi
          have hm2 := hr _ hm
          have hd : dealD (.tup (is.map D.int)) r = full is := by rw [dealD_t, hl, ha, ints_map]; rfl
          rw [hd]
          walk_at "Z9A"
          refine wd' (sset_ints (by omega)) ?_
          walk_at "Z9A"
          refine wd' (max_ints hi _) ?_
          walk_at "Z9A"
          refine ⟨(1 + maxI is).toNat, by congr 1; omega, by omega, ?_⟩
          rw [range_ints]
          refine wd' (eq_ints _ _) ?_
          walk_at "Z9A"
          exact ⟨by rw [full_sort hi (fun i m => (hr i m).1)], rfl⟩
  | ref => exact absurd k0 Bool.false_ne_true
  | ins => exact absurd k0 Bool.false_ne_true
  | exc => exact absurd k0 Bool.false_ne_true
  | scr => exact absurd k0 Bool.false_ne_true
  | non =>
    walk_at "Z9A"
    exact rfl
  | bl =>
    walk_at "Z9A"
    exact rfl
  | int =>
    walk_at "Z9A"
    exact rfl
  | str =>
    walk_at "Z9A"
    exact rfl
  | lst =>
    walk_at "Z9A"
    exact rfl
  | dic =>
    walk_at "Z9A"
    exact rfl
theorem dealing_eq {d : D} (k : kn1 d = true) {r : Int} (r1 : 1 ≤ r) (r6 : r ≤ 6) (h : Hh) : g_is_dealing [.int r, d] h = .ok (.bl (dealD d r), h) := by
  have k0 := kn1_0 k
  refine WP.eq (r_pure (by simp [pureDs, kn0_pure k0, pureD]) ?_)
  show WP (runD G_is_dealing 3 ir_is_dealing _ _) _ _
  refine r_run' rfl ?_
  unfold ir_is_dealing
  cases d with
  | tup xs =>
    have k1 := kn1_t k
    walk_at "Z9A"
    (refine ⟨fun hb => ?_, fun hb => ?_⟩)
    · walk_at "Z9A"
      refine ⟨?_, rfl⟩
      have : decide ((xs.length : Int) = r) = false := by simpa only [Bool.not_eq_true'] using hb
      rw [dealD_t, this, Bool.false_and, Bool.false_and]
    · have hl : decide ((xs.length : Int) = r) = true := not_f hb
      walk_at "Z9A"
      refine w_lcF' (fun x => .bl (num x 0 (r - 1))) ?_
      refine w_seq' (w_var' rfl ⟨_, .inr rfl, Nat.le_trans k1.1 (by decide), fun x hx => ⟨_, rfl, ?_⟩, ?_⟩)
      · refine WE.eq ?_
        walk_at "Z9A"
        exact w_ceq (is_within_eq (k1.2 x hx) _ _ _) ⟨rfl, rfl⟩
      · walk_at "Z9A"
        refine wd' (all_map _ _ _) ?_
        walk_at "Z9A"
        (refine ⟨fun hb => ?_, fun hb => ?_⟩)
        · walk_at "Z9A"
          refine ⟨?_, rfl⟩
          have : (xs.all fun x => num x 0 (r - 1)) = false := by simpa only [Bool.not_eq_true'] using hb
          rw [dealD_t, this, Bool.and_false, Bool.false_and]
        · have ha : (xs.all fun x => num x 0 (r - 1)) = true := not_f hb
          obtain ⟨is, rfl, hr⟩ := ints_of ha
          have hlen : (is.length : Int) = r := by
            have := of_decide_eq_true hl
            rwa [List.length_map] at this
          have hi : is ≠ [] := fun z => by
            rw [z] at hlen
            simp at hlen
            omega
          have hm := mx_mem hi
          have hm2 := hr _ hm
          have hd : dealD (.tup (is.map D.int)) r = full is := by rw [dealD_t, hl, ha, ints_map]; rfl
          rw [hd]
          walk_at "Z9A"
          refine w_lcF' (fun x => .bl (hasD x (is.map D.int))) ?_
          refine w_range' ?_
          walk_at "Z9A"
          refine wd' (max_ints hi _) ?_
          refine ⟨(maxI is).toNat, by congr 1; omega, by omega, by rw [List.length_map, List.length_range]; omega, fun x hx => ⟨_, rfl, ?_⟩, ?_⟩
          · obtain ⟨i, _, rfl⟩ := List.mem_map.mp hx
            refine WE.eq ?_
            walk_at "Z9A"
            refine wd' (in_ints _ _) ?_
            exact ⟨by rw [hasD_ints], rfl⟩
          · walk_at "Z9A"
            refine wd' (all_map _ _ _) ?_
            walk_at "Z9A"
            refine ⟨?_, rfl⟩
            congr 1
            unfold full
            rw [List.all_map]
            congr 1
            funext i
            show hasD (.int (i : Int)) _ = _
            rw [hasD_ints]
  | ref => exact absurd k0 Bool.false_ne_true
  | ins => exact absurd k0 Bool.false_ne_true
  | exc => exact absurd k0 Bool.false_ne_true
  | scr => exact absurd k0 Bool.false_ne_true
  | non =>
    walk_at "Z9A"
    exact rfl
  | bl =>
    walk_at "Z9A"
    exact rfl
  | int =>
    walk_at "Z9A"
    exact rfl
  | str =>
    walk_at "Z9A"
    exact rfl
  | lst =>
    walk_at "Z9A"
    exact rfl
  | dic =>
    walk_at "Z9A"
    exact rfl

def depthD (dp : D) (is : List Int) : Bool := if isNon dp then decide (maxI is + 1 = 1) else num dp 1 60
theorem hands_eq {is : List Int} (hi : is ≠ []) (h : Hh) : g_hands_of [.tup (is.map D.int)] h = .ok (.int (maxI is + 1), h) := by
  refine WP.eq (r_pure (by simp [pureDs, pureD, pure_ints]) ?_)
  show WP (runD G_hands_of 1 ir_hands_of _ _) _ _
  refine r_run' rfl ?_
  unfold ir_hands_of
  walk_at "Z9A"
  refine wd' (max_ints hi _) ?_
  walk_at "Z9A"
  exact rfl
theorem depth_eq {dp : D} (k0 : kn0 dp = true) {is : List Int} (hi : is ≠ []) (h : Hh) : g_is_depth [dp, .tup (is.map D.int)] h = .ok (.bl (depthD dp is), h) := by
  refine WP.eq (r_pure (by simp [pureDs, kn0_pure k0, pureD, pure_ints]) ?_)
  show WP (runD G_is_depth 2 ir_is_depth _ _) _ _
  refine r_run' rfl ?_
  unfold ir_is_depth
  walk_at "Z9A"
  (refine ⟨fun hb => ?_, fun hb => ?_⟩)
  · walk_at "Z9A"
    refine w_ceq (hands_eq hi _) ?_
    walk_at "Z9A"
    exact ⟨by unfold depthD; rw [if_pos hb], rfl⟩
  · walk_at "Z9A"
    refine w_ceq (is_within_eq k0 _ _ _) ?_
    exact ⟨rfl, by unfold depthD; rw [if_neg (by rw [hb]; exact Bool.false_ne_true)], rfl⟩
end Z9

set_option Elab.async false
set_option linter.all false
set_option maxRecDepth 100000
set_option maxHeartbeats 400000
namespace Z9
open PySem PySem.Spec
local macro_rules | `(tactic| walk_at "Z9A") => `(tactic| repeat (first | (with_reducible first | refine w_con' ?_ | refine w_neg' ?_ | refine w_dic0' ?_ | refine w_sn' ?_ | refine w_sc' ?_ | refine w_tup' ?_ | refine w_lst' ?_ | refine w_newl' ?_ | refine w_bin' ?_ | refine w_cmp' ?_ | refine w_cmp2' ?_ | refine w_isn' ?_ | refine w_notn' ?_ | refine w_and' ?_ | refine w_or' ?_ | refine w_a2' ?_ | refine w_a1' ?_ | refine w_not' ?_ | refine w_ife' ?_ | refine w_ix' ?_ | refine w_on' ?_ | refine w_os' ?_ | refine w_sl' ?_ | refine w_isi' ?_ | refine w_fld' ?_ | refine w_bcall' ?_ | refine w_bmeth' ?_ | refine w_meth' ?_ | refine w_lof' ?_ | refine w_lor' ?_ | refine w_sset' ?_ | refine w_inr' ?_ | refine w_tn' ?_ | refine w_tc' ?_ | refine s_nil' ?_ | refine s_cons' ?_ | refine s_set' ?_ | refine s_seti' ?_ | refine s_setf' ?_ | refine s_expr' ?_ | refine s_ret' ?_ | refine s_retn' ?_ | refine s_pass' ?_ | refine s_iff' ?_) | refine w_var' rfl ?_ | refine w_glob' rfl ?_ | refine w_call' rfl ?_ | refine w_new' rfl ?_ | refine s_rai1' rfl ?_ | (with_reducible first | refine wd' (int_eq _ _) ?_ | refine wd' (str_eq _ _) ?_ | refine wd' (int_ne _ _) ?_ | refine wd' (bin_add _ _) ?_ | refine wd' (bin_sub _ _) ?_ | refine wd' (int_lt _ _) ?_ | refine wd' (int_le _ _) ?_ | refine wd' (int_gt _ _) ?_ | refine wd' (int_ge _ _) ?_ | refine wd' (bin_mul_r (by decide) (by decide)) ?_ | refine wd' (bin_mulmod (by decide) (by decide)) ?_ | refine wd' (bin_mod (by decide)) ?_ | refine wd' (bin_div (by decide) (by decide)) ?_) | refine wd' rfl ?_ | refine ⟨rfl, ?_⟩ | refine ⟨Nat.le_of_ble_eq_true rfl, ?_⟩ | refine ⟨_, rfl, ?_⟩ | refine br_t rfl ?_ | refine br_f rfl ?_ | refine br_ft rfl ?_ | refine br_ff rfl ?_))
local macro_rules | `(tactic| walk_at "Z9V") => `(tactic| repeat (first | (with_reducible first | refine w_con' ?_ | refine w_neg' ?_ | refine w_dic0' ?_ | refine w_sn' ?_ | refine w_sc' ?_ | refine w_tup' ?_ | refine w_lst' ?_ | refine w_newl' ?_ | refine w_bin' ?_ | refine w_cmp' ?_ | refine w_cmp2' ?_ | refine w_isn' ?_ | refine w_notn' ?_ | refine w_and' ?_ | refine w_or' ?_ | refine w_a2v ?_ | refine w_o2v ?_ | refine w_a2' ?_ | refine w_a1' ?_ | refine w_not' ?_ | refine w_ife' ?_ | refine w_ix' ?_ | refine w_on' ?_ | refine w_os' ?_ | refine w_sl' ?_ | refine w_isi' ?_ | refine w_fld' ?_ | refine w_bcall' ?_ | refine w_bmeth' ?_ | refine w_meth' ?_ | refine w_lof' ?_ | refine w_lor' ?_ | refine w_sset' ?_ | refine w_inr' ?_ | refine w_tn' ?_ | refine w_tc' ?_ | refine s_nil' ?_ | refine s_cons' ?_ | refine s_set' ?_ | refine s_seti' ?_ | refine s_setf' ?_ | refine s_expr' ?_ | refine s_ret' ?_ | refine s_retn' ?_ | refine s_pass' ?_ | refine s_iff' ?_) | refine w_var' rfl ?_ | refine w_glob' rfl ?_ | refine w_call' rfl ?_ | refine w_new' rfl ?_ | refine s_rai1' rfl ?_ | (with_reducible first | refine wd' (int_eq _ _) ?_ | refine wd' (str_eq _ _) ?_ | refine wd' (int_ne _ _) ?_ | refine wd' (bin_add _ _) ?_ | refine wd' (bin_sub _ _) ?_ | refine wd' (int_lt _ _) ?_ | refine wd' (int_le _ _) ?_ | refine wd' (int_gt _ _) ?_ | refine wd' (int_ge _ _) ?_ | refine wd' (bin_mul_r (by decide) (by decide)) ?_ | refine wd' (bin_mulmod (by decide) (by decide)) ?_ | refine wd' (bin_mod (by decide)) ?_ | refine wd' (bin_div (by decide) (by decide)) ?_) | refine wd' rfl ?_ | refine ⟨rfl, ?_⟩ | refine ⟨Nat.le_of_ble_eq_true rfl, ?_⟩ | refine ⟨_, rfl, ?_⟩ | refine br_t rfl ?_ | refine br_f rfl ?_ | refine br_ft rfl ?_ | refine br_ff rfl ?_))
def kn3 (d : D) : Bool := kn0 d && (match d with
  | .tup xs => decide (xs.length ≤ 100000) && xs.all kn2
  | _ => true)
theorem kn3_0 {d : D} (k : kn3 d = true) : kn0 d = true := (Bool.and_eq_true_iff.mp k).1
theorem kn3_t {xs : List D} (k : kn3 (.tup xs) = true) : xs.length ≤ 100000 ∧ ∀ x ∈ xs, kn2 x = true := by
  have := (Bool.and_eq_true_iff.mp k).2
  simp only [Bool.and_eq_true, decide_eq_true_eq, List.all_eq_true] at this
  exact this
def tableD (t : D) (is : List Int) (l : Int) : Bool := match t with
  | .tup xs => (decide (1 ≤ (xs.length : Int)) && decide ((xs.length : Int) ≤ 20000)) && xs.all fun x => itemD x is l (xs.length : Int)
  | _ => false
theorem tableD_t (xs : List D) (is : List Int) (l : Int) : tableD (.tup xs) is l = ((decide (1 ≤ (xs.length : Int)) && decide ((xs.length : Int) ≤ 20000)) && xs.all fun x => itemD x is l (xs.length : Int)) := rfl
abbrev sRows : List Nat := [114, 111, 119, 115]
abbrev sLetters : List Nat := [108, 101, 116, 116, 101, 114, 115]
abbrev sDealing : List Nat := [100, 101, 97, 108, 105, 110, 103]
abbrev sDepth : List Nat := [100, 101, 112, 116, 104]
abbrev sTable : List Nat := [116, 97, 98, 108, 101]
/-- the first part that is not as told -/
inductive Wrong : D → D → D → D → D → Option (List Nat) → Prop where
  | rows {r l de dp t : D} : num r 1 6 = false → Wrong r l de dp t (some sRows)
  | letters {r : Int} {l de dp t : D} : num (.int r) 1 6 = true → num l 1 3 = false → Wrong (.int r) l de dp t (some sLetters)
  | dealing {r l : Int} {de dp t : D} : num (.int r) 1 6 = true → num (.int l) 1 3 = true → dealD de r = false → Wrong (.int r) (.int l) de dp t (some sDealing)
  | depth {r l : Int} {is : List Int} {dp t : D} : num (.int r) 1 6 = true → num (.int l) 1 3 = true → dealD (.tup (is.map D.int)) r = true → depthD dp is = false → Wrong (.int r) (.int l) (.tup (is.map D.int)) dp t (some sDepth)
  | table {r l : Int} {is : List Int} {dp t : D} : num (.int r) 1 6 = true → num (.int l) 1 3 = true → dealD (.tup (is.map D.int)) r = true → depthD dp is = true → tableD t is l = false → Wrong (.int r) (.int l) (.tup (is.map D.int)) dp t (some sTable)
  | none {r l : Int} {is : List Int} {dp t : D} : num (.int r) 1 6 = true → num (.int l) 1 3 = true → dealD (.tup (is.map D.int)) r = true → depthD dp is = true → tableD t is l = true → Wrong (.int r) (.int l) (.tup (is.map D.int)) dp t none
theorem deal_ints {de : D} {r : Int} (r1 : 1 ≤ r) (d : dealD de r = true) : ∃ is : List Int, de = .tup (is.map D.int) ∧ is ≠ [] ∧ ∀ i ∈ is, 0 ≤ i ∧ i ≤ r - 1 := by
  cases de with
  | tup xs =>
    rw [dealD_t, Bool.and_eq_true, Bool.and_eq_true] at d
    obtain ⟨is, rfl, hr⟩ := ints_of d.1.2
    refine ⟨is, rfl, fun z => ?_, hr⟩
    have := of_decide_eq_true d.1.1
    rw [z] at this
    simp at this
    omega
  | _ => exact absurd d Bool.false_ne_true
theorem is_wrong (r l de dp t : D) : ∃ w, Wrong r l de dp t w := by
  cases h1 : num r 1 6 with
  | false => exact ⟨_, .rows h1⟩
  | true =>
    obtain ⟨r, rfl, r1, r2⟩ := num_int h1
    cases h2 : num l 1 3 with
    | false => exact ⟨_, .letters h1 h2⟩
    | true =>
      obtain ⟨l, rfl, _⟩ := num_int h2
      cases h3 : dealD de r with
      | false => exact ⟨_, .dealing h1 h2 h3⟩
      | true =>
        obtain ⟨is, rfl, _⟩ := deal_ints r1 h3
        cases h4 : depthD dp is with
        | false => exact ⟨_, .depth h1 h2 h3 h4⟩
        | true =>
          cases h5 : tableD t is l with
          | false => exact ⟨_, .table h1 h2 h3 h4 h5⟩
          | true => exact ⟨_, .none h1 h2 h3 h4 h5⟩
def partD : Option (List Nat) → D
  | some s => .str s
  | none => .non
def knS (r l de dp t : D) : Prop := kn0 r = true ∧ kn0 l = true ∧ kn1 de = true ∧ kn0 dp = true ∧ kn3 t = true
theorem knS_pure {r l de dp t : D} (k : knS r l de dp t) : pureD (.tup [r, l, de, dp, t]) = true := by
  obtain ⟨a, b, c, d, e⟩ := k
  simp [pureD, pureDs, kn0_pure a, kn0_pure b, kn0_pure (kn1_0 c), kn0_pure d, kn0_pure (kn3_0 e)]
/-- depth: as the law says it -/
theorem depth_law {dp : D} {is : List Int} (p : ∀ i ∈ is, 0 ≤ i) (n : is ≠ []) : depthD dp is = !(!(num dp 1 60) && (!isNon dp || decide (maxI is > 0))) := by
  have := p _ (mx_mem n)
  unfold depthD
  cases dp with
  | non =>
    rw [show isNon .non = true from rfl, if_pos rfl]
    show decide _ = !(true && (false || decide _))
    rw [Bool.true_and, Bool.false_or]
    by_cases z : maxI is = 0
    · rw [decide_eq_true (by omega), decide_eq_false (by omega)]; rfl
    · rw [decide_eq_false (by omega), decide_eq_true (by omega)]; rfl
  | _ => simp [isNon]

/-- the rest of the checks behind the dealing -/
theorem law_wrong_eq {r l de dp t : D} (k : knS r l de dp t) {w : Option (List Nat)} (W : Wrong r l de dp t w) (h : Hh) : g_law_wrong [.tup [r, l, de, dp, t]] h = .ok (partD w, h) := by
  refine WP.eq (r_pure (pure1 (knS_pure k)) ?_)
  show WP (runD G_law_wrong 7 ir_law_wrong _ _) _ _
  refine r_run' rfl ?_
  unfold ir_law_wrong
  obtain ⟨kr, kl, kd, kp, kt⟩ := k
  walk_at "Z9A"
  refine s_asg' (w_var' rfl ⟨_, rfl, ?_⟩)
  walk_at "Z9A"
  refine w_ceq (is_number_eq kr _ _ _) ?_
  walk_at "Z9A"
  cases W with
  | rows h1 =>
    rw [h1]
    walk_at "Z9A"
    exact rfl
  | letters h1 h2 =>
    rw [h1]
    walk_at "Z9A"
    refine w_ceq (is_number_eq kl _ _ _) ?_
    rw [h2]
    walk_at "Z9A"
    exact rfl
  | dealing h1 h2 h3 =>
    obtain ⟨_, e, r1, r2⟩ := num_int h1
    cases e
    rw [h1]
    walk_at "Z9A"
    refine w_ceq (is_number_eq kl _ _ _) ?_
    rw [h2]
    walk_at "Z9A"
    refine w_ceq (law_dealing_eq kd r1 r2 _) ?_
    rw [h3]
    walk_at "Z9A"
    exact rfl
  | @depth r l is dp t h1 h2 h3 h4 =>
    obtain ⟨_, e, r1, r2⟩ := num_int h1
    cases e
    obtain ⟨is', e, hn, hr⟩ := deal_ints r1 h3
    have e2 : is = is' := by
      have := congrArg (fun d => match d with | D.tup xs => ints? xs | _ => none) e
      simpa [ints_map] using this
    subst e2
    rw [h1]
    walk_at "Z9A"
    refine w_ceq (is_number_eq kl _ _ _) ?_
    rw [h2]
    walk_at "Z9A"
    refine w_ceq (law_dealing_eq kd r1 r2 _) ?_
    rw [h3]
    walk_at "Z9V"
    refine w_ceq (is_number_eq kp _ _ _) ?_
    rw [depth_law (fun i m => (hr i m).1) hn] at h4
    walk_at "Z9V"
    refine wd' (max_ints hn _) ?_
    walk_at "Z9V"
    rw [show (!(num dp 1 60) && (!isNon dp || decide (0 < maxI is))) = true from not_f h4]
    walk_at "Z9A"
    exact rfl
  | @table r l is dp t h1 h2 h3 h4 h5 =>
    obtain ⟨_, e, r1, r2⟩ := num_int h1
    cases e
    obtain ⟨is', e, hn, hr⟩ := deal_ints r1 h3
    have e2 : is = is' := by
      have := congrArg (fun d => match d with | D.tup xs => ints? xs | _ => none) e
      simpa [ints_map] using this
    subst e2
    rw [h1]
    walk_at "Z9A"
    refine w_ceq (is_number_eq kl _ _ _) ?_
    rw [h2]
    walk_at "Z9A"
    refine w_ceq (law_dealing_eq kd r1 r2 _) ?_
    rw [h3]
    walk_at "Z9V"
    refine w_ceq (is_number_eq kp _ _ _) ?_
    rw [depth_law (fun i m => (hr i m).1) hn] at h4
    walk_at "Z9V"
    refine wd' (max_ints hn _) ?_
    walk_at "Z9V"
    rw [show (!(num dp 1 60) && (!isNon dp || decide (0 < maxI is))) = false from by cases hz : (!(num dp 1 60) && (!isNon dp || decide (0 < maxI is))) <;> first | rfl | (rw [show decide (maxI is > 0) = decide (0 < maxI is) from rfl, hz] at h4; cases h4)]
    cases t with
    | tup xs =>
      walk_at "Z9A"
      (refine ⟨fun hb => ?_, fun hb => ?_⟩)
      · have : (decide (1 ≤ (xs.length : Int)) && decide ((xs.length : Int) ≤ 20000)) = false := by simpa only [Bool.not_eq_true'] using hb
        walk_at "Z9A"
        exact rfl
      · have hlen : (decide (1 ≤ (xs.length : Int)) && decide ((xs.length : Int) ≤ 20000)) = true := not_f hb
        walk_at "Z9A"
        have k1 := kn3_t kt
        refine w_lcF' (fun x => .bl (itemD x is l (xs.length : Int))) ?_
        refine w_seq' (w_var' rfl ⟨_, .inr rfl, Nat.le_trans k1.1 (by decide), fun x hx => ⟨_, rfl, ?_⟩, ?_⟩)
        · refine WE.eq ?_
          walk_at "Z9A"
          exact w_ceq (law_item_eq (k1.2 x hx) hn _ _ _) ⟨rfl, rfl⟩
        · walk_at "Z9A"
          refine wd' (all_map _ _ _) ?_
          walk_at "Z9A"
          (refine ⟨fun hb => ?_, fun hb => ?_⟩)
          · have : (xs.all fun x => itemD x is l (xs.length : Int)) = false := by simpa only [Bool.not_eq_true'] using hb
            walk_at "Z9A"
            exact rfl
          · have : (xs.all fun x => itemD x is l (xs.length : Int)) = true := not_f hb
            exact absurd (show tableD (.tup xs) is l = true by rw [tableD_t, hlen, this]; rfl) (by rw [h5]; exact fun z => nomatch z)
    | ref => exact absurd (kn3_0 kt) Bool.false_ne_true
    | ins => exact absurd (kn3_0 kt) Bool.false_ne_true
    | exc => exact absurd (kn3_0 kt) Bool.false_ne_true
    | scr => exact absurd (kn3_0 kt) Bool.false_ne_true
    | non => 
      walk_at "Z9A"
      exact rfl
    | bl => 
      walk_at "Z9A"
      exact rfl
    | int => 
      walk_at "Z9A"
      exact rfl
    | str => 
      walk_at "Z9A"
      exact rfl
    | lst => 
      walk_at "Z9A"
      exact rfl
    | dic => 
      walk_at "Z9A"
      exact rfl
  | @none r l is dp t h1 h2 h3 h4 h5 =>
    obtain ⟨_, e, r1, r2⟩ := num_int h1
    cases e
    obtain ⟨is', e, hn, hr⟩ := deal_ints r1 h3
    have e2 : is = is' := by
      have := congrArg (fun d => match d with | D.tup xs => ints? xs | _ => none) e
      simpa [ints_map] using this
    subst e2
    rw [h1]
    walk_at "Z9A"
    refine w_ceq (is_number_eq kl _ _ _) ?_
    rw [h2]
    walk_at "Z9A"
    refine w_ceq (law_dealing_eq kd r1 r2 _) ?_
    rw [h3]
    walk_at "Z9V"
    refine w_ceq (is_number_eq kp _ _ _) ?_
    rw [depth_law (fun i m => (hr i m).1) hn] at h4
    walk_at "Z9V"
    refine wd' (max_ints hn _) ?_
    walk_at "Z9V"
    rw [show (!(num dp 1 60) && (!isNon dp || decide (0 < maxI is))) = false from by cases hz : (!(num dp 1 60) && (!isNon dp || decide (0 < maxI is))) <;> first | rfl | (rw [show decide (maxI is > 0) = decide (0 < maxI is) from rfl, hz] at h4; cases h4)]
    cases t with
    | tup xs =>
      walk_at "Z9A"
      (refine ⟨fun hb => ?_, fun hb => ?_⟩)
      · have : (decide (1 ≤ (xs.length : Int)) && decide ((xs.length : Int) ≤ 20000)) = false := by simpa only [Bool.not_eq_true'] using hb
        walk_at "Z9A"
        exact absurd (show tableD (.tup xs) is l = false by rw [tableD_t, this, Bool.false_and]) (by rw [h5]; exact fun z => nomatch z)
      · have hlen : (decide (1 ≤ (xs.length : Int)) && decide ((xs.length : Int) ≤ 20000)) = true := not_f hb
        walk_at "Z9A"
        have k1 := kn3_t kt
        refine w_lcF' (fun x => .bl (itemD x is l (xs.length : Int))) ?_
        refine w_seq' (w_var' rfl ⟨_, .inr rfl, Nat.le_trans k1.1 (by decide), fun x hx => ⟨_, rfl, ?_⟩, ?_⟩)
        · refine WE.eq ?_
          walk_at "Z9A"
          exact w_ceq (law_item_eq (k1.2 x hx) hn _ _ _) ⟨rfl, rfl⟩
        · walk_at "Z9A"
          refine wd' (all_map _ _ _) ?_
          walk_at "Z9A"
          (refine ⟨fun hb => ?_, fun hb => ?_⟩)
          · have : (xs.all fun x => itemD x is l (xs.length : Int)) = false := by simpa only [Bool.not_eq_true'] using hb
            exact absurd (show tableD (.tup xs) is l = false by rw [tableD_t, this, Bool.and_false]) (by rw [h5]; exact fun z => nomatch z)
          · have : (xs.all fun x => itemD x is l (xs.length : Int)) = true := not_f hb
            walk_at "Z9A"
            exact rfl
    | ref => exact absurd h5 Bool.false_ne_true
    | ins => exact absurd h5 Bool.false_ne_true
    | exc => exact absurd h5 Bool.false_ne_true
    | scr => exact absurd h5 Bool.false_ne_true
    | non => exact absurd h5 Bool.false_ne_true
    | bl => exact absurd h5 Bool.false_ne_true
    | int => exact absurd h5 Bool.false_ne_true
    | str => exact absurd h5 Bool.false_ne_true
    | lst => exact absurd h5 Bool.false_ne_true
    | dic => exact absurd h5 Bool.false_ne_true
end Z9

set_option Elab.async false
set_option linter.all false
set_option maxRecDepth 100000
set_option maxHeartbeats 400000
namespace Z9
open PySem PySem.Spec
local macro_rules | `(tactic| walk_at "Z9A") => `(tactic| repeat (first | (with_reducible first | refine w_con' ?_ | refine w_neg' ?_ | refine w_dic0' ?_ | refine w_sn' ?_ | refine w_sc' ?_ | refine w_tup' ?_ | refine w_lst' ?_ | refine w_newl' ?_ | refine w_bin' ?_ | refine w_cmp' ?_ | refine w_cmp2' ?_ | refine w_isn' ?_ | refine w_notn' ?_ | refine w_and' ?_ | refine w_or' ?_ | refine w_a2' ?_ | refine w_a1' ?_ | refine w_not' ?_ | refine w_ife' ?_ | refine w_ix' ?_ | refine w_on' ?_ | refine w_os' ?_ | refine w_sl' ?_ | refine w_isi' ?_ | refine w_fld' ?_ | refine w_bcall' ?_ | refine w_bmeth' ?_ | refine w_meth' ?_ | refine w_lof' ?_ | refine w_lor' ?_ | refine w_sset' ?_ | refine w_inr' ?_ | refine w_tn' ?_ | refine w_tc' ?_ | refine s_nil' ?_ | refine s_cons' ?_ | refine s_set' ?_ | refine s_seti' ?_ | refine s_setf' ?_ | refine s_expr' ?_ | refine s_ret' ?_ | refine s_retn' ?_ | refine s_pass' ?_ | refine s_iff' ?_) | refine w_var' rfl ?_ | refine w_glob' rfl ?_ | refine w_call' rfl ?_ | refine w_new' rfl ?_ | refine s_rai1' rfl ?_ | (with_reducible first | refine wd' (int_eq _ _) ?_ | refine wd' (str_eq _ _) ?_ | refine wd' (int_ne _ _) ?_ | refine wd' (bin_add _ _) ?_ | refine wd' (bin_sub _ _) ?_ | refine wd' (int_lt _ _) ?_ | refine wd' (int_le _ _) ?_ | refine wd' (int_gt _ _) ?_ | refine wd' (int_ge _ _) ?_ | refine wd' (bin_mul_r (by decide) (by decide)) ?_ | refine wd' (bin_mulmod (by decide) (by decide)) ?_ | refine wd' (bin_mod (by decide)) ?_ | refine wd' (bin_div (by decide) (by decide)) ?_) | refine wd' rfl ?_ | refine ⟨rfl, ?_⟩ | refine ⟨Nat.le_of_ble_eq_true rfl, ?_⟩ | refine ⟨_, rfl, ?_⟩ | refine br_t rfl ?_ | refine br_f rfl ?_ | refine br_ft rfl ?_ | refine br_ff rfl ?_))
theorem keep_wp {r l de dp t : D} : WP (g_Program_keep [.ref 0, r, l, de, dp, t] [.ins "Program" [] []]) (fun d _ => d = .non) noE := by
  unfold g_Program_keep r_Program_keep
  refine r_run' rfl ?_
  unfold ir_Program_keep
  walk_at "Z9A"
  exact rfl
theorem init_wp {r l de dp t : D} (k : knS r l de dp t) {w : Option (List Nat)} (W : Wrong r l de dp t w) : WP (g_Program_init [.ref 0, r, l, de, dp, t] [.ins "Program" [] []]) (fun d _ => w = none ∧ d = .non) (fun c xs _ => ∃ s, w = some s ∧ c = 28 ∧ xs = [.exc "BadProgram" ["part"] [.str s]]) := by
  show WP (runD G_Program_init 7 ir_Program_init _ _) _ _
  refine r_run' rfl ?_
  unfold ir_Program_init
  obtain ⟨kr, kl, kd, kp, kt⟩ := k
  walk_at "Z9A"
  refine w_ceq (is_within_eq kr _ _ _) ?_
  walk_at "Z9A"
  cases W with
  | rows h1 =>
    rw [h1]
    walk_at "Z9A"
    exact rfl
  | letters h1 h2 =>
    rw [h1]
    walk_at "Z9A"
    refine w_ceq (is_within_eq kl _ _ _) ?_
    rw [show num l 1 ((([97, 98, 99] : List Nat).length : Nat) : Int) = false from h2]
    walk_at "Z9A"
    exact rfl
  | dealing h1 h2 h3 =>
    obtain ⟨_, e, r1, r2⟩ := num_int h1
    cases e
    rw [h1]
    walk_at "Z9A"
    refine w_ceq (is_within_eq kl _ _ _) ?_
    rw [show num (D.int _) 1 ((([97, 98, 99] : List Nat).length : Nat) : Int) = true from h2]
    walk_at "Z9A"
    refine w_ceq (dealing_eq kd r1 r2 _) ?_
    rw [h3]
    walk_at "Z9A"
    exact rfl
  | @depth r l is dp t h1 h2 h3 h4 =>
    obtain ⟨_, e, r1, r2⟩ := num_int h1
    cases e
    obtain ⟨is', e, hn, hr⟩ := deal_ints r1 h3
    have e2 : is = is' := by
      have := congrArg (fun d => match d with | D.tup xs => ints? xs | _ => none) e
      simpa [ints_map] using this
    subst e2
    rw [h1]
    walk_at "Z9A"
    refine w_ceq (is_within_eq kl _ _ _) ?_
    rw [show num (D.int l) 1 ((([97, 98, 99] : List Nat).length : Nat) : Int) = true from h2]
    walk_at "Z9A"
    refine w_ceq (dealing_eq kd r1 r2 _) ?_
    rw [h3]
    walk_at "Z9A"
    refine w_ceq (depth_eq kp hn _) ?_
    rw [h4]
    walk_at "Z9A"
    exact rfl
  | @table r l is dp t h1 h2 h3 h4 h5 =>
    obtain ⟨_, e, r1, r2⟩ := num_int h1
    cases e
    obtain ⟨is', e, hn, hr⟩ := deal_ints r1 h3
    have e2 : is = is' := by
      have := congrArg (fun d => match d with | D.tup xs => ints? xs | _ => none) e
      simpa [ints_map] using this
    subst e2
    rw [h1]
    walk_at "Z9A"
    refine w_ceq (is_within_eq kl _ _ _) ?_
    rw [show num (D.int l) 1 ((([97, 98, 99] : List Nat).length : Nat) : Int) = true from h2]
    walk_at "Z9A"
    refine w_ceq (dealing_eq kd r1 r2 _) ?_
    rw [h3]
    walk_at "Z9A"
    refine w_ceq (depth_eq kp hn _) ?_
    rw [h4]
    walk_at "Z9A"
    cases t with
    | tup xs =>
      walk_at "Z9A"
      (refine ⟨fun hb => ?_, fun hb => ?_⟩)
      · have : (decide (1 ≤ (xs.length : Int)) && decide ((xs.length : Int) ≤ 20000)) = false := by simpa only [Bool.not_eq_true'] using hb
        walk_at "Z9A"
        exact rfl
      · have hlen : (decide (1 ≤ (xs.length : Int)) && decide ((xs.length : Int) ≤ 20000)) = true := not_f hb
        walk_at "Z9A"
        have k1 := kn3_t kt
        refine w_lcF' (fun x => .bl (itemD x is l (xs.length : Int))) ?_
        refine w_seq' (w_var' rfl ⟨_, .inr rfl, Nat.le_trans k1.1 (by decide), fun x hx => ⟨_, rfl, ?_⟩, ?_⟩)
        · refine WE.eq ?_
          walk_at "Z9A"
          exact w_ceq (item_eq (k1.2 x hx) hn _ _ _) ⟨rfl, rfl⟩
        · walk_at "Z9A"
          refine wd' (all_map _ _ _) ?_
          walk_at "Z9A"
          (refine ⟨fun hb => ?_, fun hb => ?_⟩)
          · have : (xs.all fun x => itemD x is l (xs.length : Int)) = false := by simpa only [Bool.not_eq_true'] using hb
            walk_at "Z9A"
            exact rfl
          · have : (xs.all fun x => itemD x is l (xs.length : Int)) = true := not_f hb
            exact absurd (show tableD (.tup xs) is l = true by rw [tableD_t, hlen, this]; rfl) (by rw [h5]; exact fun z => nomatch z)
    | ref => exact absurd (kn3_0 kt) Bool.false_ne_true
    | ins => exact absurd (kn3_0 kt) Bool.false_ne_true
    | exc => exact absurd (kn3_0 kt) Bool.false_ne_true
    | scr => exact absurd (kn3_0 kt) Bool.false_ne_true
    | non => 
      walk_at "Z9A"
      exact rfl
    | bl => 
      walk_at "Z9A"
      exact rfl
    | int => 
      walk_at "Z9A"
      exact rfl
    | str => 
      walk_at "Z9A"
      exact rfl
    | lst => 
      walk_at "Z9A"
      exact rfl
    | dic => 
      walk_at "Z9A"
      exact rfl
  | @none r l is dp t h1 h2 h3 h4 h5 =>
    obtain ⟨_, e, r1, r2⟩ := num_int h1
    cases e
    obtain ⟨is', e, hn, hr⟩ := deal_ints r1 h3
    have e2 : is = is' := by
      have := congrArg (fun d => match d with | D.tup xs => ints? xs | _ => none) e
      simpa [ints_map] using this
    subst e2
    rw [h1]
    walk_at "Z9A"
    refine w_ceq (is_within_eq kl _ _ _) ?_
    rw [show num (D.int l) 1 ((([97, 98, 99] : List Nat).length : Nat) : Int) = true from h2]
    walk_at "Z9A"
    refine w_ceq (dealing_eq kd r1 r2 _) ?_
    rw [h3]
    walk_at "Z9A"
    refine w_ceq (depth_eq kp hn _) ?_
    rw [h4]
    walk_at "Z9A"
    cases t with
    | tup xs =>
      walk_at "Z9A"
      (refine ⟨fun hb => ?_, fun hb => ?_⟩)
      · have : (decide (1 ≤ (xs.length : Int)) && decide ((xs.length : Int) ≤ 20000)) = false := by simpa only [Bool.not_eq_true'] using hb
        walk_at "Z9A"
        exact absurd (show tableD (.tup xs) is l = false by rw [tableD_t, this, Bool.false_and]) (by rw [h5]; exact fun z => nomatch z)
      · have hlen : (decide (1 ≤ (xs.length : Int)) && decide ((xs.length : Int) ≤ 20000)) = true := not_f hb
        walk_at "Z9A"
        have k1 := kn3_t kt
        refine w_lcF' (fun x => .bl (itemD x is l (xs.length : Int))) ?_
        refine w_seq' (w_var' rfl ⟨_, .inr rfl, Nat.le_trans k1.1 (by decide), fun x hx => ⟨_, rfl, ?_⟩, ?_⟩)
        · refine WE.eq ?_
          walk_at "Z9A"
          exact w_ceq (item_eq (k1.2 x hx) hn _ _ _) ⟨rfl, rfl⟩
        · walk_at "Z9A"
          refine wd' (all_map _ _ _) ?_
          walk_at "Z9A"
          (refine ⟨fun hb => ?_, fun hb => ?_⟩)
          · have : (xs.all fun x => itemD x is l (xs.length : Int)) = false := by simpa only [Bool.not_eq_true'] using hb
            exact absurd (show tableD (.tup xs) is l = false by rw [tableD_t, this, Bool.and_false]) (by rw [h5]; exact fun z => nomatch z)
          · have : (xs.all fun x => itemD x is l (xs.length : Int)) = true := not_f hb
            walk_at "Z9A"
            refine ⟨_, _, rfl, ?_⟩
            walk_at "Z9A"
            refine w_C (keep_wp.imp fun d _ e => ?_)
            walk_at "Z9A"
            exact rfl
    | ref => exact absurd (kn3_0 kt) Bool.false_ne_true
    | ins => exact absurd (kn3_0 kt) Bool.false_ne_true
    | exc => exact absurd (kn3_0 kt) Bool.false_ne_true
    | scr => exact absurd (kn3_0 kt) Bool.false_ne_true
    | non => exact absurd h5 Bool.false_ne_true
    | bl => exact absurd h5 Bool.false_ne_true
    | int => exact absurd h5 Bool.false_ne_true
    | str => exact absurd h5 Bool.false_ne_true
    | lst => exact absurd h5 Bool.false_ne_true
    | dic => exact absurd h5 Bool.false_ne_true

/-- what _law_refused tells -/
def told : Option (List Nat) → D
  | none => .tup [.str [108, 101, 116], .non]
  | some s => .tup [.str [114, 101, 102, 117, 115, 101, 100], .str s]
theorem refused_eq {r l de dp t : D} (k : knS r l de dp t) {w : Option (List Nat)} (W : Wrong r l de dp t w) (h : Hh) : g_law_refused [.tup [r, l, de, dp, t]] h = .ok (told w, h) := by
  refine WP.eq (r_pure (pure1 (knS_pure k)) ?_)
  show WP (runD G_law_refused 3 ir_law_refused _ _) _ _
  refine r_run' rfl ?_
  unfold ir_law_refused
  walk_at "Z9A"
  refine s_tryx' rfl ?_
  walk_at "Z9A"
  refine w_C ((init_wp k W).mono (fun d h1 q => ?_) (fun c xs h1 q => ?_))
  · obtain ⟨rfl, rfl⟩ := q
    walk_at "Z9A"
    exact rfl
  · obtain ⟨s, rfl, rfl, rfl⟩ := q
    refine .inl ⟨rfl, _, _, _, _, rfl, Nat.le_of_ble_eq_true rfl, rfl, ?_⟩
    simp only [goneX, WS]
    walk_at "Z9A"
    exact trivial
end Z9

set_option Elab.async false
set_option linter.all false
set_option maxRecDepth 100000
set_option maxHeartbeats 400000
namespace Z9
open PySem PySem.Spec
local macro_rules | `(tactic| walk_at "Z9A") => `(tactic| repeat (first | (with_reducible first | refine w_con' ?_ | refine w_neg' ?_ | refine w_dic0' ?_ | refine w_sn' ?_ | refine w_sc' ?_ | refine w_tup' ?_ | refine w_lst' ?_ | refine w_newl' ?_ | refine w_bin' ?_ | refine w_cmp' ?_ | refine w_cmp2' ?_ | refine w_isn' ?_ | refine w_notn' ?_ | refine w_and' ?_ | refine w_or' ?_ | refine w_a2' ?_ | refine w_a1' ?_ | refine w_not' ?_ | refine w_ife' ?_ | refine w_ix' ?_ | refine w_on' ?_ | refine w_os' ?_ | refine w_sl' ?_ | refine w_isi' ?_ | refine w_fld' ?_ | refine w_bcall' ?_ | refine w_bmeth' ?_ | refine w_meth' ?_ | refine w_lof' ?_ | refine w_lor' ?_ | refine w_sset' ?_ | refine w_inr' ?_ | refine w_tn' ?_ | refine w_tc' ?_ | refine s_nil' ?_ | refine s_cons' ?_ | refine s_set' ?_ | refine s_seti' ?_ | refine s_setf' ?_ | refine s_expr' ?_ | refine s_ret' ?_ | refine s_retn' ?_ | refine s_pass' ?_ | refine s_iff' ?_) | refine w_var' rfl ?_ | refine w_glob' rfl ?_ | refine w_call' rfl ?_ | refine w_new' rfl ?_ | refine s_rai1' rfl ?_ | (with_reducible first | refine wd' (int_eq _ _) ?_ | refine wd' (str_eq _ _) ?_ | refine wd' (int_ne _ _) ?_ | refine wd' (bin_add _ _) ?_ | refine wd' (bin_sub _ _) ?_ | refine wd' (int_lt _ _) ?_ | refine wd' (int_le _ _) ?_ | refine wd' (int_gt _ _) ?_ | refine wd' (int_ge _ _) ?_ | refine wd' (bin_mul_r (by decide) (by decide)) ?_ | refine wd' (bin_mulmod (by decide) (by decide)) ?_ | refine wd' (bin_mod (by decide)) ?_ | refine wd' (bin_div (by decide) (by decide)) ?_) | refine wd' rfl ?_ | refine ⟨rfl, ?_⟩ | refine ⟨Nat.le_of_ble_eq_true rfl, ?_⟩ | refine ⟨_, rfl, ?_⟩ | refine br_t rfl ?_ | refine br_f rfl ?_ | refine br_ft rfl ?_ | refine br_ff rfl ?_))
section
variable {G : Gam} {r : Z9.Env} {h : Hh} {Q : D → Hh → Prop} {E : Nat → List D → Hh → Prop} {N : Z9.Env → Hh → Prop} {T : D → Hh → Prop} {O : Out → Prop}
/-- what stands behind a statement -/
theorem s_mid (M : Z9.Env → Hh → Prop) {s : Sm} {ss : Sms} (a : WSt G s r h M T O) (b : ∀ r1 h1, M r1 h1 → WSs G ss r1 h1 N T O) : WSs G (.cons s ss) r h N T O := by
  refine s_cons' ?_
  simp only [WSt, WSs] at *
  exact a.imp b (fun _ _ z => z) (fun _ z => z)
/-- the turns of a comprehension over a changing list -/
theorem lcV_run {f : D → Hh → Res (Option D × Hh)} {i : Nat} {ys : List D} {I : List D → List D → Hh → Prop} {Q : List D → Hh → Prop} (hI : ∀ zs acc h, I zs acc h → h[i]? = some (.lst ys))
    (step : ∀ x xs acc h, I (x :: xs) acc h → WP (f x h) (fun o h' => match o with | some y => I xs (acc ++ [y]) h' | none => I xs acc h') noE) (fin : ∀ zs h, I [] zs h → Q zs h) :
    ∀ {m : Nat} {acc : List D} {h : Hh}, m ≤ ys.length → acc.length + m ≤ 16777216 → I (ys.drop (ys.length - m)) acc h → WP (lcV f i ys.length m acc h) Q E
  | 0, acc, h, _, _, i0 => by
    rw [Nat.sub_zero, List.drop_of_length_le (Nat.le_refl _)] at i0
    unfold lcV lenV
    simp only [hI _ _ _ i0, decide_true, if_true]
    exact fin _ _ i0
  | m + 1, acc, h, hm, l, i0 => by
    have hlt : ys.length - (m + 1) < ys.length := by omega
    have ed : ys.drop (ys.length - (m + 1)) = ys[ys.length - (m + 1)] :: ys.drop (ys.length - m) := by
      rw [List.drop_eq_getElem_cons hlt]
      congr 2
      omega
    have e0 := hI _ _ _ i0
    rw [ed] at i0
    have s := step _ _ acc h i0
    unfold lcV itV
    simp only [e0, if_true, List.getElem?_eq_getElem hlt]
    cases e : f ys[ys.length - (m + 1)] h with
    | ok p =>
      rw [e] at s
      obtain ⟨o, h'⟩ := p
      cases o with
      | some y =>
        simp only
        rw [if_pos (by omega)]
        exact lcV_run hI step fin (by omega) (by rw [List.length_append, List.length_singleton]; omega) s
      | none => exact lcV_run hI step fin (by omega) (by omega) s
    | exc => rw [e] at s; exact s.elim
    | no => rw [e] at s; exact s.elim
theorem w_lcv (I : List D → List D → Hh → Prop) {elt : Ex} {t : Tg} {e : Ex} {own : List Nat}
    (a : WE G e r h (fun x h1 => ∃ i ys, x = .ref i ∧ ys.length ≤ 16777216 ∧ I ys [] h1 ∧ (∀ zs acc h, I zs acc h → h[i]? = some (.lst ys)) ∧ ∀ zs h2, I [] zs h2 → Q (.lst zs) h2) E)
    (step : ∀ x xs acc h, I (x :: xs) acc h → ∃ r1, setT t x (wipeE r own) = .ok r1 ∧ WE G elt r1 h (fun y h2 => I xs (acc ++ [y]) h2) noE) :
    WE G (.lcv false elt t e .nil own) r h Q E := by
  simp only [WE] at *
  simp only [evE]
  refine .bind (a.mono (fun x h1 w => ?_) (fun _ _ _ z => z))
  obtain ⟨i, ys, rfl, hl, i0, hI, fin⟩ := w
  simp only [refL_of (hI _ _ _ i0)]
  refine .bind (lcV_run (I := I) hI (fun x xs acc h i => ?_) (fun zs h2 i => ?_) (Nat.le_refl _) (by rw [List.length_nil, Nat.zero_add]; exact hl) (by rw [Nat.sub_self]; exact i0))
  · obtain ⟨r1, e1, w⟩ := step x xs acc h i
    exact turn_ok e1 (w_tn ⟨fun _ => w, fun z => by cases z⟩)
  · show WP (if false = true then _ else _) _ _
    rw [if_neg Bool.false_ne_true]
    exact fin zs h2 i
end
/-! the dice -/
def DiceOk (h rest : Hh) : Prop := ∃ (cs : List Int) (p : Nat) (g n c : Int), h = .lst [.lst (cs.map .int), .int (p : Int), .int g, .int n, .int c] :: rest ∧ 0 ≤ n ∧ n < 2147483647
theorem dice_ok (ns : List Int) : WP (g_law_dice [.scr ns] []) (fun d h => d = .ref 0 ∧ DiceOk h []) noE := by
  show WP (runD G_law_dice 2 ir_law_dice _ _) _ _
  refine r_run' rfl ?_
  unfold ir_law_dice
  walk_at "Z9A"
  refine w_lcI' (fun zs acc h => (∃ is : List Int, zs = is.map D.int) ∧ h = [] ∧ ∃ is : List Int, acc = is.map D.int) ?_ ?_
  · refine w_seq' ?_
    walk_at "Z9A"
    refine ⟨_, .inl rfl, ?_, ⟨⟨_, rfl⟩, rfl, [], rfl⟩, ?_⟩
    · rw [List.length_map]
      refine Nat.le_trans (m := 63) ?_ (by decide)
      unfold cutD clampD
      simp
      omega
    · rintro ys h2 ⟨_, rfl, is, rfl⟩
      rw [if_neg Bool.false_ne_true]
      walk_at "Z9A"
      exact ⟨is, 0, 0, 1, 0, rfl, by decide, by decide⟩
  · rintro x xs acc h ⟨⟨is, e⟩, rfl, js, rfl⟩
    cases is with
    | nil => cases e
    | cons i is =>
      cases e
      refine ⟨_, rfl, ?_⟩
      walk_at "Z9A"
      exact ⟨⟨_, rfl⟩, rfl, js ++ [_], by rw [List.map_append]; rfl⟩
theorem draw_w {h rest : Hh} {m : Int} {Q : D → Hh → Prop} {E : Nat → List D → Hh → Prop} (p : DiceOk h rest) (m0 : 0 < m) (m1 : m < 1073741824) (q : ∀ k h', 0 ≤ k → k < m → DiceOk h' rest → Q (.int k) h') : WC (g_law_draw [.ref 0, .int m] h) Q E := by
  refine w_C ?_
  show WP (runD G_law_draw 5 ir_law_draw _ _) _ _
  refine r_run' rfl ?_
  unfold ir_law_draw
  refine s_mid (fun r1 h1 => (∃ v, r1 = [some (.ref 0), some (.int m), none, v, none]) ∧ DiceOk h1 rest) ?_ ?_
  · obtain ⟨cs, p, g, n, c, rfl, n0, n1⟩ := p
    walk_at "Z9A"
    (refine ⟨fun hb => ?_, fun hb => ?_⟩)
    · walk_at "Z9A"
      (refine ⟨fun hb => ?_, fun hb => ?_⟩)
      · have hp : p < cs.length := by
          have := of_decide_eq_true hb
          rw [List.length_map] at this
          omega
        walk_at "Z9A"
        obtain ⟨v, hv⟩ := at_map (ss := cs) (i := (p : Int)) (by omega) (by omega)
        refine wd' (show ofO (atD (cs.map D.int) (p : Int)) = .ok (.int v) by rw [hv]; rfl) ?_
        walk_at "Z9A"
        (refine ⟨fun hb => ?_, fun hb => ?_⟩)
        · walk_at "Z9A"
          exact ⟨⟨_, rfl⟩, cs, p + 1, v, n, c, rfl, n0, n1⟩
        · walk_at "Z9A"
          exact ⟨⟨_, rfl⟩, cs, p + 1, g, _, c, rfl, (mod_range _ (by decide)).1, (mod_range _ (by decide)).2⟩
      · walk_at "Z9A"
        exact ⟨⟨_, rfl⟩, cs, p, g, n, c, rfl, n0, n1⟩
    · walk_at "Z9A"
      exact ⟨⟨_, rfl⟩, cs, p, g, n, c, rfl, n0, n1⟩
  · rintro r1 h1 ⟨⟨v, rfl⟩, cs, p, g, n, c, rfl, n0, n1⟩
    walk_at "Z9A"
    (refine ⟨fun hb => ?_, fun hb => ?_⟩)
    · walk_at "Z9A"
      refine wd' (bin_mod m0) ?_
      walk_at "Z9A"
      refine wd' (bin_div m0 m1) ?_
      walk_at "Z9A"
      exact q _ _ (mod_range _ m0).1 (mod_range _ m0).2 ⟨cs, p, _, n, c, rfl, n0, n1⟩
    · walk_at "Z9A"
      refine wd' (bin_mod m0) ?_
      walk_at "Z9A"
      exact q _ _ (mod_range _ m0).1 (mod_range _ m0).2 ⟨cs, p, g, _, _, rfl, (mod_range _ (by decide)).1, (mod_range _ (by decide)).2⟩
end Z9

set_option Elab.async false
set_option linter.all false
set_option maxRecDepth 100000
set_option maxHeartbeats 400000
namespace Z9
open PySem PySem.Spec
local macro_rules | `(tactic| walk_at "Z9A") => `(tactic| repeat (first | (with_reducible first | refine w_con' ?_ | refine w_neg' ?_ | refine w_dic0' ?_ | refine w_sn' ?_ | refine w_sc' ?_ | refine w_tup' ?_ | refine w_lst' ?_ | refine w_newl' ?_ | refine w_bin' ?_ | refine w_cmp' ?_ | refine w_cmp2' ?_ | refine w_isn' ?_ | refine w_notn' ?_ | refine w_and' ?_ | refine w_or' ?_ | refine w_a2' ?_ | refine w_a1' ?_ | refine w_not' ?_ | refine w_ife' ?_ | refine w_ix' ?_ | refine w_on' ?_ | refine w_os' ?_ | refine w_sl' ?_ | refine w_isi' ?_ | refine w_fld' ?_ | refine w_bcall' ?_ | refine w_bmeth' ?_ | refine w_meth' ?_ | refine w_lof' ?_ | refine w_lor' ?_ | refine w_sset' ?_ | refine w_inr' ?_ | refine w_tn' ?_ | refine w_tc' ?_ | refine s_nil' ?_ | refine s_cons' ?_ | refine s_set' ?_ | refine s_seti' ?_ | refine s_setf' ?_ | refine s_expr' ?_ | refine s_ret' ?_ | refine s_retn' ?_ | refine s_pass' ?_ | refine s_iff' ?_) | refine w_var' rfl ?_ | refine w_glob' rfl ?_ | refine w_call' rfl ?_ | refine w_new' rfl ?_ | refine s_rai1' rfl ?_ | (with_reducible first | refine wd' (int_eq _ _) ?_ | refine wd' (str_eq _ _) ?_ | refine wd' (int_ne _ _) ?_ | refine wd' (bin_add _ _) ?_ | refine wd' (bin_sub _ _) ?_ | refine wd' (int_lt _ _) ?_ | refine wd' (int_le _ _) ?_ | refine wd' (int_gt _ _) ?_ | refine wd' (int_ge _ _) ?_ | refine wd' (bin_mul_r (by decide) (by decide)) ?_ | refine wd' (bin_mulmod (by decide) (by decide)) ?_ | refine wd' (bin_mod (by decide)) ?_ | refine wd' (bin_div (by decide) (by decide)) ?_) | refine wd' rfl ?_ | refine ⟨rfl, ?_⟩ | refine ⟨Nat.le_of_ble_eq_true rfl, ?_⟩ | refine ⟨_, rfl, ?_⟩ | refine br_t rfl ?_ | refine br_f rfl ?_ | refine br_ft rfl ?_ | refine br_ff rfl ?_))
theorem dice_len {h rest : Hh} (p : DiceOk h rest) : h.length = rest.length + 1 := by
  obtain ⟨_, _, _, _, _, rfl, _⟩ := p
  rfl
theorem dice_at {h rest tl : Hh} {x : D} (p : DiceOk h (rest ++ x :: tl)) : h[rest.length + 1]? = some x := by
  obtain ⟨_, _, _, _, _, rfl, _⟩ := p
  rw [List.getElem?_cons_succ, List.getElem?_append_right (Nat.le_refl _), Nat.sub_self]
  rfl
theorem dice_set {h rest tl : Hh} {x : D} (p : DiceOk h (rest ++ x :: tl)) (y : D) : DiceOk (h.set (rest.length + 1) y) (rest ++ y :: tl) := by
  obtain ⟨cs, a, g, n, c, rfl, n0, n1⟩ := p
  refine ⟨cs, a, g, n, c, ?_, n0, n1⟩
  rw [List.set_cons_succ, List.set_append_right _ _ (Nat.le_refl _), Nat.sub_self]
  rfl
theorem dice_push {h rest : Hh} (p : DiceOk h rest) (x : D) : DiceOk (h ++ [x]) (rest ++ [x]) := by
  obtain ⟨cs, a, g, n, c, rfl, n0, n1⟩ := p
  exact ⟨cs, a, g, n, c, rfl, n0, n1⟩
theorem len_ref {h : Hh} {i : Nat} {ys : List D} (e : h[i]? = some (.lst ys)) : bcallD .len [.ref i] h = .ok (.int (ys.length : Int)) := by
  show bLen [.ref i] h = _
  unfold bLen lookD
  simp only [e]
theorem max_ref {h : Hh} {i : Nat} {is : List Int} (e : h[i]? = some (.lst (is.map D.int))) (n : is ≠ []) : bcallD .max [.ref i] h = .ok (.int (maxI is)) := by
  show bMax [.ref i] h = _
  unfold bMax lookD
  simp only [e]
  rw [ints_map]
  cases is with
  | nil => exact absurd rfl n
  | cons => rfl
theorem recv_pop {h : Hh} {i : Nat} {ys : List D} (e : h[i]? = some (.lst ys)) : recvD h .pop (.ref i) = true := by
  unfold recvD isLD
  simp only [e]
theorem recv_app {h : Hh} {i : Nat} {ys : List D} (e : h[i]? = some (.lst ys)) : recvD h .append (.ref i) = true := by
  unfold recvD isLD
  simp only [e]
theorem pop_at {h : Hh} {i : Nat} {ys : List D} {k : Int} (e : h[i]? = some (.lst ys)) (k0 : 0 ≤ k) (k1 : k.toNat < ys.length) : bmethD .pop (.ref i) [.int k] h = .ok (ys[k.toNat], h.set i (.lst (ys.eraseIdx k.toNat))) := by
  show mPop (.ref i) [.int k] h = _
  unfold mPop
  simp only [e, if_pos k0, List.getElem?_eq_getElem k1]
theorem app_at {h : Hh} {i : Nat} {ys : List D} {y : D} (e : h[i]? = some (.lst ys)) (l : ys.length ≤ 1000) : bmethD .append (.ref i) [y] h = .ok (.non, h.set i (.lst (ys ++ [y]))) := by
  show mAppend (.ref i) [y] h = _
  unfold mAppend
  simp only [e, okN_b (show ys.length + 1 ≤ 1000000 by omega), ofB_true]
theorem erase_perm : ∀ {l : List D} {k : Nat} (h : k < l.length), (l[k] :: l.eraseIdx k).Perm l
  | x :: l, 0, _ => List.Perm.refl _
  | x :: l, k + 1, h => (List.Perm.swap x _ _).trans ((erase_perm (l := l) (k := k) (by rw [List.length_cons] at h; omega)).cons x)
theorem shuffled_w {h rest : Hh} {xs : List D} {Q : D → Hh → Prop} {E : Nat → List D → Hh → Prop} (p : DiceOk h rest) (l : xs.length ≤ 1000) (q : ∀ ys h', ys.Perm xs → DiceOk h' (rest ++ [.lst []]) → Q (.tup ys) h') : WC (g_law_shuffled [.ref 0, .lst xs] h) Q E := by
  refine w_C ?_
  show WP (runD G_law_shuffled 4 ir_law_shuffled _ _) _ _
  refine r_run' rfl ?_
  unfold ir_law_shuffled
  walk_at "Z9A"
  refine ⟨xs, .inl rfl, ?_⟩
  have p1 := dice_push p (.lst xs)
  rw [dice_len p]
  walk_at "Z9A"
  refine w_lcI' (fun zs acc h => ∃ ys, DiceOk h (rest ++ [.lst ys]) ∧ zs.length = ys.length ∧ (acc ++ ys).Perm xs) ?_ ?_
  · refine w_range' ?_
    walk_at "Z9A"
    refine wd' (len_ref (dice_at p1)) ?_
    walk_at "Z9A"
    refine ⟨by omega, by rw [List.length_map, List.length_range]; omega, ⟨xs, p1, by rw [List.length_map, List.length_range], List.Perm.refl _⟩, ?_⟩
    rintro ys h2 ⟨zs, p2, e, pm⟩
    rw [if_neg Bool.false_ne_true]
    have : zs = [] := List.eq_nil_of_length_eq_zero e.symm
    subst this
    walk_at "Z9A"
    rw [List.append_nil] at pm
    exact q _ _ pm p2
  · rintro x zs acc h2 ⟨ys, p2, e, pm⟩
    refine ⟨_, rfl, w_tn' ⟨fun _ => ?_, fun z => (nomatch z)⟩⟩
    rw [List.length_cons] at e
    have hl : ys.length ≤ xs.length := by
      have := pm.length_eq
      rw [List.length_append] at this
      omega
    have ea := dice_at p2
    walk_at "Z9A"
    refine ⟨recv_pop ea, ?_⟩
    walk_at "Z9A"
    refine wd' (len_ref ea) ?_
    walk_at "Z9A"
    refine draw_w p2 (by omega) (by omega) (fun k h3 k0 k1 p3 => ?_)
    walk_at "Z9A"
    have kl : k.toNat < ys.length := by omega
    refine w_ceq (pop_at (dice_at p3) k0 kl) ?_
    refine ⟨_, dice_set p3 _, by rw [List.length_eraseIdx_of_lt kl]; omega, List.Perm.trans ?_ pm⟩
    rw [List.append_assoc]
    exact (erase_perm kl).append_left acc
/-! dealings -/
def cntI (rows : Nat) (fs : List Int) : Nat := ((List.range rows).filter fun (i : Nat) => decide ((i : Int) ∈ fs)).length
/-- what may have been dealt -/
def reach (rows : Nat) : Nat → List (List Int)
  | 0 => [[]]
  | k + 1 => (reach rows k).flatMap fun fs => (List.range (1 + cntI rows fs)).map fun (d : Nat) => fs ++ [(d : Int)]
def reachB (rows : Nat) : Bool := (reach rows rows).all fun fs => decide (fs.length = rows) && decide (fs ≠ []) && fs.all (fun v => decide (0 ≤ v)) && decide (maxI fs ≤ (rows : Int) - 1) && (List.range (1 + maxI fs).toNat).all fun (u : Nat) => decide ((u : Int) ∈ fs)
theorem reach_ok {rows : Nat} (r1 : 1 ≤ rows) (r3 : rows ≤ 3) : reachB rows = true := by
  rcases (by omega : rows = 1 ∨ rows = 2 ∨ rows = 3) with rfl | rfl | rfl <;> decide +kernel
theorem perm_ints {l : List Int} {ys : List D} (p : ys.Perm (l.map D.int)) : ∃ ns : List Int, ys = ns.map D.int ∧ ns.Perm l := by
  let toI : D → Int := fun d => match d with
    | .int i => i
    | _ => 0
  refine ⟨ys.map toI, ?_, ?_⟩
  · rw [List.map_map]
    have : ∀ y ∈ ys, (D.int ∘ toI) y = y := fun y m => by
      obtain ⟨i, _, rfl⟩ := List.mem_map.mp (p.mem_iff.mp m)
      rfl
    rw [List.map_congr_left this, List.map_id']
  · have := p.map toI
    rw [List.map_map] at this
    have e : (toI ∘ D.int) = id := rfl
    rw [e, List.map_id] at this
    exact this
theorem reach_len {rows : Nat} : ∀ {k : Nat} {fs : List Int}, fs ∈ reach rows k → fs.length = k
  | 0, fs, m => by rw [List.mem_singleton.mp m]; rfl
  | k + 1, fs, m => by
    unfold reach at m
    obtain ⟨gs, m1, m2⟩ := List.mem_flatMap.mp m
    obtain ⟨d, _, rfl⟩ := List.mem_map.mp m2
    rw [List.length_append, reach_len m1]
    rfl
theorem deal_ok {rows : Nat} (r1 : 1 ≤ rows) (r3 : rows ≤ 3) {fs ns : List Int} (m : fs ∈ reach rows rows) (p : ns.Perm ((List.range (1 + maxI fs).toNat).map fun (i : Nat) => (i : Int))) : dealD (.tup ((fs.map fun f => ns.getD f.toNat 0).map D.int)) (rows : Int) = true ∧ ∀ f ∈ fs, 0 ≤ f ∧ f.toNat < ns.length := by
  have B := List.all_eq_true.mp (reach_ok r1 r3) fs m
  simp only [Bool.and_eq_true, decide_eq_true_eq, List.all_eq_true, List.mem_range] at B
  obtain ⟨⟨⟨⟨b1, b2⟩, b3⟩, b4⟩, b5⟩ := B
  have nl : ns.length = (1 + maxI fs).toNat := by rw [p.length_eq, List.length_map, List.length_range]
  have mm := b3 _ (mx_mem b2)
  have hf : ∀ f ∈ fs, 0 ≤ f ∧ f.toNat < ns.length := fun f hf => ⟨b3 f hf, by have := le_mx hf; have := b3 f hf; rw [nl]; omega⟩
  refine ⟨?_, hf⟩
  have mem : ∀ v : Int, v ∈ (fs.map fun f => ns.getD f.toNat 0) ↔ 0 ≤ v ∧ v ≤ maxI fs := fun v => by
    have e : v ∈ ns ↔ 0 ≤ v ∧ v ≤ maxI fs := by
      rw [p.mem_iff, List.mem_map]
      constructor
      · rintro ⟨i, hi, rfl⟩
        rw [List.mem_range] at hi
        omega
      · rintro ⟨h0, h1⟩
        exact ⟨v.toNat, by rw [List.mem_range]; omega, by omega⟩
    rw [← e, List.mem_map]
    constructor
    · rintro ⟨f, h1, rfl⟩
      have := (hf f h1).2
      rw [List.getD_eq_getElem?_getD, List.getElem?_eq_getElem this]
      exact List.getElem_mem this
    · intro hv
      obtain ⟨j, hj, rfl⟩ := List.getElem_of_mem hv
      refine ⟨(j : Int), b5 j (by omega), ?_⟩
      rw [Int.toNat_natCast, List.getD_eq_getElem?_getD, List.getElem?_eq_getElem hj]
      rfl
  generalize hg : (fs.map fun f => ns.getD f.toNat 0) = is at mem ⊢
  have il : is.length = rows := by rw [← hg, List.length_map, b1]
  have hn : is ≠ [] := fun z => by rw [z] at il; simp at il; omega
  rw [dealD_t, ints_map, List.length_map, il, decide_eq_true rfl, Bool.true_and, Bool.and_eq_true, List.all_eq_true]
  constructor
  · intro x hx
    obtain ⟨v, hv, rfl⟩ := List.mem_map.mp hx
    have := (mem v).mp hv
    show (decide (0 ≤ v) && decide (v ≤ (rows : Int) - 1)) = true
    rw [decide_eq_true this.1, decide_eq_true (by omega)]
    rfl
  · show full is = true
    unfold full
    rw [List.all_eq_true]
    intro u hu
    rw [List.mem_range] at hu
    have := (mem _).mp (mx_mem hn)
    exact decide_eq_true ((mem _).mpr ⟨by omega, by omega⟩)
theorem cnt_eq (rows : Nat) (fs : List Int) : (((List.range rows).map fun (i : Nat) => D.int (i : Int)).filter fun z => hasD z (fs.map D.int)).length = cntI rows fs := by
  rw [List.filter_map, List.length_map]
  unfold cntI
  congr 2
  funext i
  show hasD (.int (i : Int)) _ = _
  rw [hasD_ints]
theorem in_lst (i : Int) (is : List Int) : cmpD (if false then .NotIn else .In) (.int i) (.lst (is.map D.int)) = .ok (.bl (hasD (.int i) (is.map D.int))) := by
  show ofB (canEq (.int i) && canEq (.lst (is.map D.int))) (D.bl (hasD (.int i) (is.map D.int))) = _
  rw [canEq_int, canEq_lst]
  rfl
theorem cnt_le (rows : Nat) (fs : List Int) : cntI rows fs ≤ rows := by
  unfold cntI
  refine Nat.le_trans (List.length_filter_le _ _) ?_
  rw [List.length_range]
  exact Nat.le_refl _
theorem dealing_w {h rest : Hh} {rows : Nat} {Q : D → Hh → Prop} {E : Nat → List D → Hh → Prop} (p : DiceOk h rest) (r1 : 1 ≤ rows) (r3 : rows ≤ 3) (q : ∀ (is : List Int) h' rest', dealD (.tup (is.map D.int)) (rows : Int) = true → DiceOk h' rest' → Q (.tup (is.map D.int)) h') : WC (g_law_dealing [.ref 0, .int (rows : Int)] h) Q E := by
  refine w_C ?_
  unfold g_law_dealing r_law_dealing
  generalize hR : (rows : Int) = R
  refine r_run' (e := [some (.ref 0), some (.int R), none, none, none, none]) rfl ?_
  unfold ir_law_dealing
  walk_at "Z9A"
  have p1 := dice_push p (.lst [])
  rw [dice_len p]
  refine s_for' (fun zs r h => ∃ k fs v, zs.length + k = rows ∧ fs ∈ reach rows k ∧ DiceOk h (rest ++ [.lst (fs.map D.int)]) ∧ r = [some (.ref 0), some (.int R), some (.ref (rest.length + 1)), v, none, none]) ?_ ?_ ?_
  · refine w_range' ?_
    walk_at "Z9A"
    exact ⟨rows, by rw [hR], by omega, 0, [], none, by rw [List.length_map, List.length_range]; rfl, List.mem_singleton.mpr rfl, p1, rfl⟩
  · rintro x zs r h2 ⟨k, fs, v, hk, m, p2, rfl⟩
    refine ⟨_, rfl, ?_⟩
    have ea := dice_at p2
    walk_at "Z9A"
    refine ⟨recv_app ea, ?_⟩
    walk_at "Z9A"
    refine w_lcI' (fun zs acc h3 => h3 = h2 ∧ (∀ z ∈ zs, ∃ i : Nat, z = .int (i : Int)) ∧ acc.length + (zs.filter fun z => hasD z (fs.map D.int)).length = cntI rows fs) ?_ ?_
    · refine w_range' ?_
      walk_at "Z9A"
      refine ⟨rows, by rw [hR], by omega, by rw [List.length_map, List.length_range]; omega, ⟨rfl, fun z hz => ?_, by rw [cnt_eq]; exact Nat.zero_add _⟩, ?_⟩
      · obtain ⟨i, _, rfl⟩ := List.mem_map.mp hz
        exact ⟨i, rfl⟩
      · rintro ys h3 ⟨rfl, _, hc⟩
        rw [List.filter_nil, List.length_nil, Nat.add_zero] at hc
        rw [if_neg Bool.false_ne_true]
        walk_at "Z9A"
        have cl := cnt_le rows fs
        refine draw_w p2 (by omega) (by omega) (fun d h4 d0 d1 p4 => ?_)
        walk_at "Z9A"
        have fl := reach_len m
        refine w_ceq (app_at (dice_at p4) (by rw [List.length_map]; omega)) ?_
        walk_at "Z9A"
        refine ⟨k + 1, fs ++ [d], _, by rw [List.length_cons] at hk; omega, ?_, by have := dice_set p4 (.lst (fs.map D.int ++ [.int d])); rw [List.map_append]; exact this, rfl⟩
        unfold reach
        refine List.mem_flatMap.mpr ⟨fs, m, List.mem_map.mpr ⟨d.toNat, by rw [List.mem_range]; omega, ?_⟩⟩
        rw [Int.toNat_of_nonneg d0]
    · rintro x zs acc h3 ⟨rfl, hz, hc⟩
      obtain ⟨i, rfl⟩ := hz _ List.mem_cons_self
      refine ⟨_, rfl, ?_⟩
      walk_at "Z9A"
      refine ⟨_, _, rfl, ea, wd' (in_lst _ _) ?_⟩
      walk_at "Z9A"
      rw [List.filter_cons] at hc
      (refine ⟨fun hb => ?_, fun hb => ?_⟩)
      · walk_at "Z9A"
        rw [if_pos hb, List.length_cons] at hc
        exact ⟨fun z mz => hz z (List.mem_cons_of_mem _ mz), by rw [List.length_append, List.length_singleton]; omega⟩
      · rw [if_neg (by rw [hb]; exact Bool.false_ne_true)] at hc
        walk_at "Z9A"
        exact ⟨fun z mz => hz z (List.mem_cons_of_mem _ mz), hc⟩
  · rintro r h2 ⟨k, fs, v, hk, m, p2, rfl⟩
    rw [List.length_nil, Nat.zero_add] at hk
    subst hk
    have fl := reach_len m
    have fn : fs ≠ [] := fun z => by rw [z] at fl; simp at fl; omega
    have B := List.all_eq_true.mp (reach_ok r1 r3) fs m
    simp only [Bool.and_eq_true, decide_eq_true_eq, List.all_eq_true] at B
    have mm := B.1.1.2 _ (mx_mem fn)
    have mx := B.1.2
    walk_at "Z9A"
    refine wd' (max_ref (dice_at p2) fn) ?_
    walk_at "Z9A"
    refine ⟨(1 + maxI fs).toNat, by congr 1; omega, by omega, ?_⟩
    walk_at "Z9A"
    rw [range_ints]
    refine shuffled_w p2 (by rw [List.length_map, List.length_map, List.length_range]; omega) (fun ys h3 pm p3 => ?_)
    obtain ⟨ns, rfl, pn⟩ := perm_ints pm
    obtain ⟨dk, hf⟩ := deal_ok r1 r3 m pn
    rw [List.append_assoc] at p3
    walk_at "Z9A"
    refine w_lcv (fun zs acc h4 => h4 = h3 ∧ (∃ gs : List Int, zs = gs.map D.int ∧ (∀ g ∈ gs, g ∈ fs) ∧ acc ++ (gs.map fun f => ns.getD f.toNat 0).map D.int = (fs.map fun f => ns.getD f.toNat 0).map D.int)) ?_ ?_
    · walk_at "Z9A"
      refine ⟨_, _, rfl, by rw [List.length_map]; omega, ⟨rfl, fs, rfl, fun _ z => z, rfl⟩, ?_, ?_⟩
      · rintro zs acc h4 ⟨rfl, _⟩
        exact dice_at p3
      · rintro zs h4 ⟨rfl, gs, e, _, e2⟩
        have : gs = [] := by cases gs with | nil => rfl | cons => cases e
        subst this
        walk_at "Z9A"
        rw [List.map_nil, List.map_nil, List.append_nil] at e2
        rw [e2]
        exact q _ _ _ dk p3
    · rintro x zs acc h4 ⟨rfl, gs, e, hg, e2⟩
      cases gs with
      | nil => cases e
      | cons g gs =>
        cases e
        refine ⟨_, rfl, ?_⟩
        have hgf := hf g (hg g List.mem_cons_self)
        walk_at "Z9A"
        refine wd' (d := .int (ns.getD g.toNat 0)) ?_ ⟨rfl, gs, rfl, fun z mz => hg z (List.mem_cons_of_mem _ mz), by rw [List.append_assoc]; exact e2⟩
        show ofO (atD (ns.map D.int) g) = _
        rw [atD_in hgf.1 (by rw [List.length_map]; omega), List.getElem?_map, List.getElem?_eq_getElem hgf.2, List.getD_eq_getElem?_getD, List.getElem?_eq_getElem hgf.2]
        rfl
end Z9

set_option Elab.async false
set_option linter.all false
set_option maxRecDepth 100000
set_option maxHeartbeats 400000
namespace Z9
open PySem PySem.Spec
local macro_rules | `(tactic| walk_at "Z9A") => `(tactic| repeat (first | (with_reducible first | refine w_con' ?_ | refine w_neg' ?_ | refine w_dic0' ?_ | refine w_sn' ?_ | refine w_sc' ?_ | refine w_tup' ?_ | refine w_lst' ?_ | refine w_newl' ?_ | refine w_bin' ?_ | refine w_cmp' ?_ | refine w_cmp2' ?_ | refine w_isn' ?_ | refine w_notn' ?_ | refine w_and' ?_ | refine w_or' ?_ | refine w_a2' ?_ | refine w_a1' ?_ | refine w_not' ?_ | refine w_ife' ?_ | refine w_ix' ?_ | refine w_on' ?_ | refine w_os' ?_ | refine w_sl' ?_ | refine w_isi' ?_ | refine w_fld' ?_ | refine w_bcall' ?_ | refine w_bmeth' ?_ | refine w_meth' ?_ | refine w_lof' ?_ | refine w_lor' ?_ | refine w_sset' ?_ | refine w_inr' ?_ | refine w_tn' ?_ | refine w_tc' ?_ | refine s_nil' ?_ | refine s_cons' ?_ | refine s_set' ?_ | refine s_seti' ?_ | refine s_setf' ?_ | refine s_expr' ?_ | refine s_ret' ?_ | refine s_retn' ?_ | refine s_pass' ?_ | refine s_iff' ?_) | refine w_var' rfl ?_ | refine w_glob' rfl ?_ | refine w_call' rfl ?_ | refine w_new' rfl ?_ | refine s_rai1' rfl ?_ | (with_reducible first | refine wd' (int_eq _ _) ?_ | refine wd' (str_eq _ _) ?_ | refine wd' (int_ne _ _) ?_ | refine wd' (bin_add _ _) ?_ | refine wd' (bin_sub _ _) ?_ | refine wd' (int_lt _ _) ?_ | refine wd' (int_le _ _) ?_ | refine wd' (int_gt _ _) ?_ | refine wd' (int_ge _ _) ?_ | refine wd' (bin_mul_r (by decide) (by decide)) ?_ | refine wd' (bin_mulmod (by decide) (by decide)) ?_ | refine wd' (bin_mod (by decide)) ?_ | refine wd' (bin_div (by decide) (by decide)) ?_) | refine wd' rfl ?_ | refine ⟨rfl, ?_⟩ | refine ⟨Nat.le_of_ble_eq_true rfl, ?_⟩ | refine ⟨_, rfl, ?_⟩ | refine br_t rfl ?_ | refine br_f rfl ?_ | refine br_ft rfl ?_ | refine br_ff rfl ?_))
local macro_rules | `(tactic| walk_at "Z9N") => `(tactic| repeat (first | (with_reducible first | refine w_con' ?_ | refine w_neg' ?_ | refine w_dic0' ?_ | refine w_sn' ?_ | refine w_sc' ?_ | refine w_tup' ?_ | refine w_lst' ?_ | refine w_newl' ?_ | refine w_bin' ?_ | refine w_cmp' ?_ | refine w_cmp2' ?_ | refine w_isn' ?_ | refine w_notn' ?_ | refine w_and' ?_ | refine w_or' ?_ | refine w_a2' ?_ | refine w_a1' ?_ | refine w_not' ?_ | refine w_ife' ?_ | refine w_ix' ?_ | refine w_on' ?_ | refine w_os' ?_ | refine w_sl' ?_ | refine w_isi' ?_ | refine w_fld' ?_ | refine w_bcall' ?_ | refine w_bmeth' ?_ | refine w_meth' ?_ | refine w_lof' ?_ | refine w_lor' ?_ | refine w_sset' ?_ | refine w_inr' ?_ | refine w_tn' ?_ | refine w_tc' ?_ | refine s_nil' ?_ | refine s_set' ?_ | refine s_seti' ?_ | refine s_setf' ?_ | refine s_expr' ?_ | refine s_ret' ?_ | refine s_retn' ?_ | refine s_pass' ?_ | refine s_iff' ?_) | refine w_var' rfl ?_ | refine w_glob' rfl ?_ | refine w_call' rfl ?_ | refine w_new' rfl ?_ | refine s_rai1' rfl ?_ | (with_reducible first | refine wd' (int_eq _ _) ?_ | refine wd' (str_eq _ _) ?_ | refine wd' (int_ne _ _) ?_ | refine wd' (bin_add _ _) ?_ | refine wd' (bin_sub _ _) ?_ | refine wd' (int_lt _ _) ?_ | refine wd' (int_le _ _) ?_ | refine wd' (int_gt _ _) ?_ | refine wd' (int_ge _ _) ?_ | refine wd' (bin_mul_r (by decide) (by decide)) ?_ | refine wd' (bin_mulmod (by decide) (by decide)) ?_ | refine wd' (bin_mod (by decide)) ?_ | refine wd' (bin_div (by decide) (by decide)) ?_) | refine wd' rfl ?_ | refine ⟨rfl, ?_⟩ | refine ⟨Nat.le_of_ble_eq_true rfl, ?_⟩ | refine ⟨_, rfl, ?_⟩ | refine br_t rfl ?_ | refine br_f rfl ?_ | refine br_ft rfl ?_ | refine br_ff rfl ?_))
inductive ItemR (rows l hands size : Int) : D → Prop where
  | walk {w : List Nat} {k : Int} {ns : List Int} : (w = sBegin ∧ 0 ≤ k ∧ k < rows) ∨ (w = sOn ∧ 0 ≤ k ∧ k < hands) → (ns.length : Int) = l + 1 → (∀ n ∈ ns, 0 ≤ n ∧ n < size) → ItemR rows l hands size (.tup [.str w, .int k, .tup (ns.map D.int)])
  | leave {k n : Int} : 0 ≤ k → k < hands → 0 ≤ n → n < size → ItemR rows l hands size (.tup [.str sLeave, .int k, .int n])
  | say {w : List Nat} {n : Int} : wordD (.str w) = true → 0 ≤ n → n < size → ItemR rows l hands size (.tup [.str sSay, .str w, .int n])
  | stop : ItemR rows l hands size (.tup [.str sStop])
theorem item_w {h rest : Hh} {rows l hands size kind : Int} {Q : D → Hh → Prop} {E : Nat → List D → Hh → Prop} (p : DiceOk h rest) (r1 : 1 ≤ rows) (r3 : rows ≤ 3) (l1 : 1 ≤ l) (l3 : l ≤ 3) (h1 : 1 ≤ hands) (h3 : hands ≤ 3) (s1 : 1 ≤ size) (s8 : size ≤ 8)
    (q : ∀ d h', ItemR rows l hands size d → DiceOk h' rest → Q d h') : WC (g_law_item [.ref 0, .int rows, .int l, .int hands, .int size, .int kind] h) Q E := by
  refine w_C ?_
  unfold g_law_item r_law_item
  refine r_run' rfl ?_
  unfold ir_law_item
  walk_at "Z9A"
  refine w_lcI' (fun zs acc h => DiceOk h rest ∧ (∃ ns : List Int, acc = ns.map D.int ∧ ∀ n ∈ ns, 0 ≤ n ∧ n < size) ∧ ((acc.length : Int) + (zs.length : Int) = l + 1)) ?_ ?_
  · refine w_range' ?_
    walk_at "Z9A"
    refine ⟨(l + 1).toNat, by congr 1; omega, by omega, by rw [List.length_map, List.length_range]; omega, ⟨p, ⟨[], rfl, fun _ m => by cases m⟩, by rw [List.length_map, List.length_range, List.length_nil]; omega⟩, ?_⟩
    rintro ys h2 ⟨p2, ⟨ns, rfl, hn⟩, hl⟩
    rw [if_neg Bool.false_ne_true]
    rw [List.length_map, List.length_nil] at hl
    have hl : (ns.length : Int) = l + 1 := by omega
    walk_at "Z9A"
    (refine ⟨fun hb => ?_, fun hb => ?_⟩)
    · walk_at "Z9A"
      refine draw_w p2 (by omega) (by omega) (fun k h4 k0 k1 p4 => ?_)
      walk_at "Z9A"
      exact q _ _ (.walk (.inl ⟨rfl, k0, k1⟩) hl hn) p4
    · walk_at "Z9A"
      (refine ⟨fun hb => ?_, fun hb => ?_⟩)
      · walk_at "Z9A"
        refine draw_w p2 (by omega) (by omega) (fun k h4 k0 k1 p4 => ?_)
        walk_at "Z9A"
        exact q _ _ (.walk (.inr ⟨rfl, k0, k1⟩) hl hn) p4
      · obtain ⟨n, ns, rfl⟩ : ∃ n ms, ns = n :: ms := by
          cases ns with
          | nil => simp at hl; omega
          | cons n ms => exact ⟨n, ms, rfl⟩
        have n0 := hn n List.mem_cons_self
        walk_at "Z9A"
        (refine ⟨fun hb => ?_, fun hb => ?_⟩)
        · walk_at "Z9A"
          refine draw_w p2 (by omega) (by omega) (fun k h4 k0 k1 p4 => ?_)
          walk_at "Z9A"
          refine wd' (ix0 _ _ _) ?_
          walk_at "Z9A"
          exact q _ _ (.leave k0 k1 n0.1 n0.2) p4
        · walk_at "Z9A"
          (refine ⟨fun hb => ?_, fun hb => ?_⟩)
          · walk_at "Z9A"
            refine draw_w p2 (by omega) (by omega) (fun k h4 k0 k1 p4 => ?_)
            rcases (by omega : k = 0 ∨ k = 1 ∨ k = 2) with rfl | rfl | rfl
            · walk_at "Z9A"
              refine wd' (ix0 _ _ _) ?_
              walk_at "Z9A"
              exact q _ _ (.say (by decide) n0.1 n0.2) p4
            · walk_at "Z9A"
              refine wd' (ix0 _ _ _) ?_
              walk_at "Z9A"
              exact q _ _ (.say (by decide) n0.1 n0.2) p4
            · walk_at "Z9A"
              refine wd' (ix0 _ _ _) ?_
              walk_at "Z9A"
              exact q _ _ (.say (by decide) n0.1 n0.2) p4
          · walk_at "Z9A"
            exact q _ _ .stop p2
  · rintro x zs acc h2 ⟨p2, ⟨ns, rfl, hn⟩, hl⟩
    refine ⟨_, rfl, w_tn' ⟨fun _ => ?_, fun z => (nomatch z)⟩⟩
    walk_at "Z9A"
    refine draw_w p2 (by omega) (by omega) (fun k h4 k0 k1 p4 => ?_)
    refine ⟨p4, ⟨ns ++ [k], by rw [List.map_append]; rfl, fun n m => ?_⟩, by rw [List.length_append, List.length_singleton]; rw [List.length_cons] at hl; omega⟩
    rcases List.mem_append.mp m with m | m
    · exact hn n m
    · rw [List.mem_singleton.mp m]
      exact ⟨k0, k1⟩
structure ProgR (rows l : Int) (is : List Int) (dp : D) (items : List D) : Prop where
  hr : 1 ≤ rows ∧ rows ≤ 3
  hl : 1 ≤ l ∧ l ≤ 3
  hd : dealD (.tup (is.map D.int)) rows = true
  hp : (∃ d, dp = .int d ∧ 1 ≤ d ∧ d ≤ 3) ∨ (dp = .non ∧ maxI is = 0)
  hn : 1 ≤ items.length ∧ items.length ≤ 8
  hi : ∀ x ∈ items, ItemR rows l (maxI is + 1) (items.length : Int) x
theorem seti_at {h : Hh} {i : Nat} {ys : List D} {v : D} (e : h[i]? = some (.lst ys)) (l : 0 < ys.length) : setiD (.ref i) (.int 0) v h = .ok (h.set i (.lst (ys.set 0 v))) := by
  unfold setiD
  simp only [e]
  rw [if_pos ⟨by omega, by omega⟩]
  rfl
theorem program_w {h rest : Hh} {Q : D → Hh → Prop} {E : Nat → List D → Hh → Prop} (p : DiceOk h rest)
    (q : ∀ rows l is dp items h' rest', ProgR rows l is dp items → DiceOk h' rest' → Q (.tup [.int rows, .int l, .tup (is.map D.int), dp, .tup items]) h') : WC (g_law_program [.ref 0, .int 8] h) Q E := by
  refine w_C ?_
  unfold g_law_program r_law_program
  refine r_run' rfl ?_
  unfold ir_law_program
  walk_at "Z9A"
  refine draw_w p (by omega) (by omega) (fun a h1 a0 a1 p1 => ?_)
  walk_at "Z9A"
  refine draw_w p1 (by omega) (by omega) (fun b h2 b0 b1 p2 => ?_)
  walk_at "Z9A"
  obtain ⟨rw_, hrw⟩ := Int.eq_ofNat_of_zero_le (show 0 ≤ 1 + a by omega)
  have p2 := p2
  rw [hrw]
  refine dealing_w p2 (by omega) (by omega) (fun is h3 rest3 dk p3 => ?_)
  rw [← hrw] at dk ⊢
  obtain ⟨_, e, hn, hr⟩ := deal_ints (by omega) dk
  have e := congrArg (fun d => match d with | D.tup xs => ints? xs | _ => none) e
  simp only [ints_map, Option.some.injEq] at e
  subst e
  have hm := hr _ (mx_mem hn)
  walk_at "Z9A"
  refine draw_w p3 (by omega) (by omega) (fun c h4 c0 c1 p4 => ?_)
  walk_at "Z9N"
  refine s_mid (fun r1 h1 => ∃ dp, ((∃ d, dp = .int d ∧ 1 ≤ d ∧ d ≤ 3) ∨ (dp = .non ∧ maxI is = 0)) ∧ DiceOk h1 rest3 ∧ r1 = [some (.ref 0), some (.int 8), some (.int (1 + a)), some (.int (1 + b)), some (.tup (is.map D.int)), some dp, none, none, none, none, none]) ?_ ?_
  · walk_at "Z9A"
    refine wd' (max_ints hn _) ?_
    walk_at "Z9A"
    (refine ⟨fun hb => ?_, fun hb => ?_⟩)
    · have hz := of_decide_eq_true hb
      walk_at "Z9A"
      refine draw_w p4 (by omega) (by omega) (fun f h5 f0 f1 p5 => ?_)
      walk_at "Z9A"
      (refine ⟨fun hb => ?_, fun hb => ?_⟩)
      · walk_at "Z9A"
        exact ⟨.non, .inr ⟨rfl, hz⟩, p5, rfl⟩
      · walk_at "Z9A"
        exact ⟨_, .inl ⟨_, rfl, by omega, by omega⟩, p5, rfl⟩
    · walk_at "Z9A"
      exact ⟨_, .inl ⟨_, rfl, by omega, by omega⟩, p4, rfl⟩
  · rintro r1 h5 ⟨dp, hdp, p5, rfl⟩
    walk_at "Z9A"
    refine draw_w p5 (by omega) (by omega) (fun s h6 s0 s1 p6 => ?_)
    walk_at "Z9A"
    refine w_lcI' (fun zs acc h => DiceOk h rest3 ∧ (∃ ns : List Int, acc = ns.map D.int) ∧ ((acc.length : Int) + (zs.length : Int) = 1 + s)) ?_ ?_
    · refine w_range' ?_
      walk_at "Z9A"
      refine ⟨(1 + s).toNat, by congr 1; omega, by omega, by rw [List.length_map, List.length_range]; omega, ⟨p6, ⟨[], rfl⟩, by rw [List.length_map, List.length_range, List.length_nil]; omega⟩, ?_⟩
      rintro ys h7 ⟨p7, ⟨ks, rfl⟩, hl⟩
      rw [if_pos rfl]
      rw [List.length_nil] at hl
      have p8 := dice_push p7 (.lst (ks.map D.int))
      rw [dice_len p7]
      walk_at "Z9N"
      refine s_mid (fun r1 h1 => ∃ ks : List Int, (ks.length : Int) = 1 + s ∧ DiceOk h1 (rest3 ++ [.lst (ks.map D.int)]) ∧ r1 = [some (.ref 0), some (.int 8), some (.int (1 + a)), some (.int (1 + b)), some (.tup (is.map D.int)), some dp, some (.int (1 + s)), some (.ref (rest3.length + 1)), none, none, none]) ?_ ?_
      · walk_at "Z9A"
        refine draw_w p8 (by omega) (by omega) (fun g h9 g0 g1 p9 => ?_)
        walk_at "Z9A"
        (refine ⟨fun hb => ?_, fun hb => ?_⟩)
        · walk_at "Z9A"
          have hk : 0 < (ks.map D.int).length := by omega
          refine ⟨_, seti_at (dice_at p9) hk, ?_⟩
          walk_at "Z9A"
          refine ⟨ks.set 0 0, by rw [List.length_set]; rw [List.length_map] at hl; omega, ?_, rfl⟩
          have := dice_set p9 (.lst ((ks.map D.int).set 0 (.int 0)))
          rw [List.map_set]
          exact this
        · walk_at "Z9A"
          exact ⟨ks, by rw [List.length_map] at hl; omega, p9, rfl⟩
      · rintro r1 h9 ⟨ks, hks, p9, rfl⟩
        walk_at "Z9A"
        refine w_lcv (fun zs acc h => DiceOk h (rest3 ++ [.lst (ks.map D.int)]) ∧ (∃ gs : List Int, zs = gs.map D.int) ∧ (∀ x ∈ acc, ItemR (1 + a) (1 + b) (maxI is + 1) (1 + s) x) ∧ (acc.length : Int) + (zs.length : Int) = 1 + s) ?_ ?_
        · walk_at "Z9A"
          refine ⟨_, _, rfl, by rw [List.length_map]; omega, ⟨p9, ⟨ks, rfl⟩, (fun _ m => (nomatch m)), by rw [List.length_nil, List.length_map]; omega⟩, ?_, ?_⟩
          · rintro zs acc h ⟨p, _⟩
            exact dice_at p
          · rintro zs h10 ⟨p10, _, hit, hl2⟩
            rw [List.length_nil] at hl2
            walk_at "Z9A"
            have hz : (zs.length : Int) = 1 + s := by omega
            exact q _ _ _ _ _ _ _ ⟨⟨by omega, by omega⟩, ⟨by omega, by omega⟩, dk, hdp, ⟨by omega, by omega⟩, by rw [hz]; exact hit⟩ p10
        · rintro x zs acc h10 ⟨p10, ⟨gs, e⟩, hit, hl2⟩
          cases gs with
          | nil => cases e
          | cons g gs =>
            cases e
            refine ⟨_, rfl, ?_⟩
            walk_at "Z9A"
            refine wd' (max_ints hn _) ?_
            walk_at "Z9A"
            refine item_w p10 (by omega) (by omega) (by omega) (by omega) (by omega) (by omega) (by omega) (by omega) (fun d h11 hd p11 => ?_)
            refine ⟨p11, ⟨gs, rfl⟩, fun x m => ?_, by rw [List.length_append, List.length_singleton]; rw [List.length_cons] at hl2; omega⟩
            rcases List.mem_append.mp m with m | m
            · exact hit x m
            · rw [List.mem_singleton.mp m]
              exact hd
    · rintro x zs acc h7 ⟨p7, ⟨ns, rfl⟩, hl⟩
      refine ⟨_, rfl, w_tn' ⟨fun _ => ?_, fun z => (nomatch z)⟩⟩
      walk_at "Z9A"
      refine draw_w p7 (by omega) (by omega) (fun k h8 k0 k1 p8 => ?_)
      exact ⟨p8, ⟨ns ++ [k], by rw [List.map_append]; rfl⟩, by rw [List.length_append, List.length_singleton]; rw [List.length_cons] at hl; omega⟩
end Z9

set_option Elab.async false
set_option linter.all false
set_option maxRecDepth 100000
set_option maxHeartbeats 1000000
namespace Z9
open PySem PySem.Spec
local macro_rules | `(tactic| walk_at "Z9A") => `(tactic| repeat (first | (with_reducible first | refine w_con' ?_ | refine w_neg' ?_ | refine w_dic0' ?_ | refine w_sn' ?_ | refine w_sc' ?_ | refine w_tup' ?_ | refine w_lst' ?_ | refine w_newl' ?_ | refine w_bin' ?_ | refine w_cmp' ?_ | refine w_cmp2' ?_ | refine w_isn' ?_ | refine w_notn' ?_ | refine w_and' ?_ | refine w_or' ?_ | refine w_a2' ?_ | refine w_a1' ?_ | refine w_not' ?_ | refine w_ife' ?_ | refine w_ix' ?_ | refine w_on' ?_ | refine w_os' ?_ | refine w_sl' ?_ | refine w_isi' ?_ | refine w_fld' ?_ | refine w_bcall' ?_ | refine w_bmeth' ?_ | refine w_meth' ?_ | refine w_lof' ?_ | refine w_lor' ?_ | refine w_sset' ?_ | refine w_inr' ?_ | refine w_tn' ?_ | refine w_tc' ?_ | refine s_nil' ?_ | refine s_cons' ?_ | refine s_set' ?_ | refine s_seti' ?_ | refine s_setf' ?_ | refine s_expr' ?_ | refine s_ret' ?_ | refine s_retn' ?_ | refine s_pass' ?_ | refine s_iff' ?_) | refine w_var' rfl ?_ | refine w_glob' rfl ?_ | refine w_call' rfl ?_ | refine w_new' rfl ?_ | refine s_rai1' rfl ?_ | (with_reducible first | refine wd' (int_eq _ _) ?_ | refine wd' (str_eq _ _) ?_ | refine wd' (int_ne _ _) ?_ | refine wd' (bin_add _ _) ?_ | refine wd' (bin_sub _ _) ?_ | refine wd' (int_lt _ _) ?_ | refine wd' (int_le _ _) ?_ | refine wd' (int_gt _ _) ?_ | refine wd' (int_ge _ _) ?_ | refine wd' (bin_mul_r (by decide) (by decide)) ?_ | refine wd' (bin_mulmod (by decide) (by decide)) ?_ | refine wd' (bin_mod (by decide)) ?_ | refine wd' (bin_div (by decide) (by decide)) ?_) | refine wd' rfl ?_ | refine ⟨rfl, ?_⟩ | refine ⟨Nat.le_of_ble_eq_true rfl, ?_⟩ | refine ⟨_, rfl, ?_⟩ | refine br_t rfl ?_ | refine br_f rfl ?_ | refine br_ft rfl ?_ | refine br_ff rfl ?_))
theorem kn1_ints {is : List Int} (l : is.length ≤ 100000) : kn1 (.tup (is.map D.int)) = true := by
  unfold kn1 kn0
  simp [tkD, pureD, pure_ints, l, kn0]
theorem odd_w {h rest : Hh} {near : Int} {Q : D → Hh → Prop} {E : Nat → List D → Hh → Prop} (p : DiceOk h rest) (q : ∀ d h', kn1 d = true → DiceOk h' rest → Q d h') : WC (g_law_odd [.ref 0, .int near] h) Q E := by
  refine w_C ?_
  unfold g_law_odd r_law_odd
  refine r_run' rfl ?_
  unfold ir_law_odd
  walk_at "Z9A"
  refine draw_w p (by omega) (by omega) (fun k h1 k0 k1 p1 => ?_)
  walk_at "Z9A"
  (refine ⟨fun hb => ?_, fun hb => ?_⟩)
  · walk_at "Z9A"
    exact q _ _ rfl p1
  · have hk := of_decide_eq_false hb
    rcases (by omega : k = 3 ∨ k = 4 ∨ k = 5 ∨ k = 6 ∨ k = 7 ∨ k = 8 ∨ k = 9 ∨ k = 10 ∨ k = 11 ∨ k = 12) with rfl | rfl | rfl | rfl | rfl | rfl | rfl | rfl | rfl | rfl
    · walk_at "Z9A"
      exact q _ _ (by simp [kn1, kn0, tkD, pureD, pureDs]) p1
    · walk_at "Z9A"
      exact q _ _ (by simp [kn1, kn0, tkD, pureD, pureDs]) p1
    · walk_at "Z9A"
      exact q _ _ (by simp [kn1, kn0, tkD, pureD, pureDs]) p1
    · walk_at "Z9A"
      exact q _ _ (by simp [kn1, kn0, tkD, pureD, pureDs]) p1
    · walk_at "Z9A"
      exact q _ _ (by simp [kn1, kn0, tkD, pureD, pureDs]) p1
    · walk_at "Z9A"
      exact q _ _ (by simp [kn1, kn0, tkD, pureD, pureDs]) p1
    · walk_at "Z9A"
      exact q _ _ (by simp [kn1, kn0, tkD, pureD, pureDs]) p1
    · walk_at "Z9A"
      exact q _ _ (by simp [kn1, kn0, tkD, pureD, pureDs]) p1
    · walk_at "Z9A"
      exact q _ _ (by simp [kn1, kn0, tkD, pureD, pureDs]) p1
    · walk_at "Z9A"
      exact q _ _ (by simp [kn1, kn0, tkD, pureD, pureDs]) p1

/-- three parts make an item -/
theorem kn2_3 {a b c : D} (ha : kn1 a = true) (hb : kn1 b = true) (hc : kn1 c = true) (he : canEq a = true) : kn2 (.tup [a, b, c]) = true := by
  unfold kn2
  simp [ha, hb, hc, he, kn0, tkD, pureD, pureDs, kn0_pure (kn1_0 ha), kn0_pure (kn1_0 hb), kn0_pure (kn1_0 hc)]
theorem kn1_s (w : List Nat) : kn1 (.str w) = true := by simp [kn1, kn0, tkD, pureD]
theorem kn1_i (w : Int) : kn1 (.int w) = true := by simp [kn1, kn0, tkD, pureD]
/-- an item as it is drawn -/
inductive Shp : D → Prop where
  | s {w : List Nat} : Shp (.tup [.str w])
  | it {w : List Nat} {k : Int} {ns : List Int} : 0 < ns.length → ns.length ≤ 1000 → Shp (.tup [.str w, .int k, .tup (ns.map D.int)])
  | ii {w : List Nat} {k n : Int} : Shp (.tup [.str w, .int k, .int n])
  | si {w v : List Nat} {n : Int} : Shp (.tup [.str w, .str v, .int n])
theorem item_shp {rows l hands size : Int} {d : D} (l1 : 1 ≤ l) (l3 : l ≤ 3) (i : ItemR rows l hands size d) : Shp d := by
  cases i with
  | walk a b c => exact .it (by omega) (by omega)
  | leave => exact .ii
  | say => exact .si
  | stop => exact .s
theorem kn2_1 {a : D} (ha : kn1 a = true) (he : canEq a = true) : kn2 (.tup [a]) = true := by
  unfold kn2
  simp [ha, he, kn0, tkD, pureD, pureDs, kn0_pure (kn1_0 ha)]
theorem kn2_2 {a b : D} (ha : kn1 a = true) (hb : kn1 b = true) (he : canEq a = true) : kn2 (.tup [a, b]) = true := by
  unfold kn2
  simp [ha, hb, he, kn0, tkD, pureD, pureDs, kn0_pure (kn1_0 ha), kn0_pure (kn1_0 hb)]
theorem kn2_4 {a b c d : D} (ha : kn1 a = true) (hb : kn1 b = true) (hc : kn1 c = true) (hd : kn1 d = true) (he : canEq a = true) : kn2 (.tup [a, b, c, d]) = true := by
  unfold kn2
  simp [ha, hb, hc, hd, he, kn0, tkD, pureD, pureDs, kn0_pure (kn1_0 ha), kn0_pure (kn1_0 hb), kn0_pure (kn1_0 hc), kn0_pure (kn1_0 hd)]
theorem kn2_l {a b c : D} (ha : kn1 a = true) (hb : kn1 b = true) (hc : kn1 c = true) : kn2 (.lst [a, b, c]) = true := by
  unfold kn2
  simp [kn0, tkD, pureD, pureDs, kn0_pure (kn1_0 ha), kn0_pure (kn1_0 hb), kn0_pure (kn1_0 hc)]
theorem kn1_3 {a b c : D} (ha : kn0 a = true) (hb : kn0 b = true) (hc : kn0 c = true) : kn1 (.tup [a, b, c]) = true := by
  have e : kn0 (.tup [a, b, c]) = true := by unfold kn0; simp [tkD, pureD, pureDs, kn0_pure ha, kn0_pure hb, kn0_pure hc]
  unfold kn1
  simp [e, ha, hb, hc]
theorem mem_cut {α : Type} {xs : List α} {x : α} {lo hi : Option Int} (m : x ∈ cutD xs lo hi) : x ∈ xs := List.mem_of_mem_drop (List.mem_of_mem_take m)
theorem len_cut {α : Type} (xs : List α) (lo hi : Option Int) : (cutD xs lo hi).length ≤ xs.length := by
  unfold cutD
  rw [List.length_take, List.length_drop]
  omega
theorem pureDs_all : ∀ {xs : List D}, (∀ x ∈ xs, pureD x = true) → pureDs xs = true
  | [], _ => rfl
  | x :: xs, a => by
    rw [pureDs, a x List.mem_cons_self, pureDs_all fun y m => a y (List.mem_cons_of_mem _ m)]
    rfl
theorem kn0_i (i : Int) : kn0 (.int i) = true := by simp [kn0, tkD, pureD]
theorem kn0_ints {is : List Int} : ∀ x ∈ is.map D.int, kn0 x = true := fun x m => by
  obtain ⟨i, _, rfl⟩ := List.mem_map.mp m
  exact kn0_i i
theorem kn1_all {xs : List D} (l : xs.length ≤ 100000) (a : ∀ x ∈ xs, kn0 x = true) : kn1 (.tup xs) = true := by
  have e : kn0 (.tup xs) = true := by
    unfold kn0
    rw [Bool.and_eq_true]
    exact ⟨rfl, pureDs_all fun x m => kn0_pure (a x m)⟩
  unfold kn1
  simp only [e, l, decide_true, Bool.true_and, List.all_eq_true]
  exact a
theorem kn1_put {ns : List D} {x : D} {a b c d : Option Int} (l : ns.length ≤ 1000) (hn : ∀ x ∈ ns, kn0 x = true) (hx : kn0 x = true) : kn1 (.tup ((cutD ns a b ++ [x]) ++ cutD ns c d)) = true := by
  refine kn1_all ?_ fun y m => ?_
  · have := len_cut ns a b
    have := len_cut ns c d
    simp only [List.length_append, List.length_singleton]
    omega
  · rcases List.mem_append.mp m with m | m
    · rcases List.mem_append.mp m with m | m
      · exact hn y (mem_cut m)
      · rw [List.mem_singleton.mp m]
        exact hx
    · exact hn y (mem_cut m)
theorem ichanged_w {h rest : Hh} {d : D} {Q : D → Hh → Prop} {E : Nat → List D → Hh → Prop} (s : Shp d) (p : DiceOk h rest) (q : ∀ d h', kn2 d = true → DiceOk h' rest → Q d h') : WC (g_law_item_changed [.ref 0, d] h) Q E := by
  refine w_C ?_
  unfold g_law_item_changed r_law_item_changed
  refine r_run' rfl ?_
  unfold ir_law_item_changed
  walk_at "Z9A"
  refine draw_w p (by omega) (by omega) (fun k h1 k0 k1 p1 => ?_)
  cases s with
  | s =>
    by_cases hk : k = 0
    · subst hk
      walk_at "Z9A"
      refine draw_w p1 (by omega) (by omega) (fun j h2 j0 j1 p2 => ?_)
      rcases (by omega : j = 0 ∨ j = 1 ∨ j = 2 ∨ j = 3 ∨ j = 4 ∨ j = 5 ∨ j = 6 ∨ j = 7 ∨ j = 8 ∨ j = 9) with rfl | rfl | rfl | rfl | rfl | rfl | rfl | rfl | rfl | rfl
      · walk_at "Z9A"
        exact q _ _ (kn2_1 (by first | exact kn1_s _ | exact kn1_i _ | rfl) (by first | exact canEq_str _ | exact canEq_int _ | exact canEq_non)) p2
      · walk_at "Z9A"
        exact q _ _ (kn2_1 (by first | exact kn1_s _ | exact kn1_i _ | rfl) (by first | exact canEq_str _ | exact canEq_int _ | exact canEq_non)) p2
      · walk_at "Z9A"
        exact q _ _ (kn2_1 (by first | exact kn1_s _ | exact kn1_i _ | rfl) (by first | exact canEq_str _ | exact canEq_int _ | exact canEq_non)) p2
      · walk_at "Z9A"
        exact q _ _ (kn2_1 (by first | exact kn1_s _ | exact kn1_i _ | rfl) (by first | exact canEq_str _ | exact canEq_int _ | exact canEq_non)) p2
      · walk_at "Z9A"
        exact q _ _ (kn2_1 (by first | exact kn1_s _ | exact kn1_i _ | rfl) (by first | exact canEq_str _ | exact canEq_int _ | exact canEq_non)) p2
      · walk_at "Z9A"
        exact q _ _ (kn2_1 (by first | exact kn1_s _ | exact kn1_i _ | rfl) (by first | exact canEq_str _ | exact canEq_int _ | exact canEq_non)) p2
      · walk_at "Z9A"
        exact q _ _ (kn2_1 (by first | exact kn1_s _ | exact kn1_i _ | rfl) (by first | exact canEq_str _ | exact canEq_int _ | exact canEq_non)) p2
      · walk_at "Z9A"
        exact q _ _ (kn2_1 (by first | exact kn1_s _ | exact kn1_i _ | rfl) (by first | exact canEq_str _ | exact canEq_int _ | exact canEq_non)) p2
      · walk_at "Z9A"
        exact q _ _ (kn2_1 (by first | exact kn1_s _ | exact kn1_i _ | rfl) (by first | exact canEq_str _ | exact canEq_int _ | exact canEq_non)) p2
      · walk_at "Z9A"
        exact q _ _ (kn2_1 (by first | exact kn1_s _ | exact kn1_i _ | rfl) (by first | exact canEq_str _ | exact canEq_int _ | exact canEq_non)) p2
    · walk_at "Z9A"
      (refine ⟨fun hb => ?_, fun hb => ?_⟩)
      · walk_at "Z9A"
        refine draw_w p1 (by omega) (by omega) (fun j h2 j0 j1 p2 => ?_)
        rcases (by omega : j = 0 ∨ j = 1 ∨ j = 2 ∨ j = 3 ∨ j = 4 ∨ j = 5 ∨ j = 6 ∨ j = 7 ∨ j = 8 ∨ j = 9) with rfl | rfl | rfl | rfl | rfl | rfl | rfl | rfl | rfl | rfl
        · walk_at "Z9A"
          exact q _ _ (kn2_1 (by first | exact kn1_s _ | exact kn1_i _ | rfl) (by first | exact canEq_str _ | exact canEq_int _ | exact canEq_non)) p2
        · walk_at "Z9A"
          exact q _ _ (kn2_1 (by first | exact kn1_s _ | exact kn1_i _ | rfl) (by first | exact canEq_str _ | exact canEq_int _ | exact canEq_non)) p2
        · walk_at "Z9A"
          exact q _ _ (kn2_1 (by first | exact kn1_s _ | exact kn1_i _ | rfl) (by first | exact canEq_str _ | exact canEq_int _ | exact canEq_non)) p2
        · walk_at "Z9A"
          exact q _ _ (kn2_1 (by first | exact kn1_s _ | exact kn1_i _ | rfl) (by first | exact canEq_str _ | exact canEq_int _ | exact canEq_non)) p2
        · walk_at "Z9A"
          exact q _ _ (kn2_1 (by first | exact kn1_s _ | exact kn1_i _ | rfl) (by first | exact canEq_str _ | exact canEq_int _ | exact canEq_non)) p2
        · walk_at "Z9A"
          exact q _ _ (kn2_1 (by first | exact kn1_s _ | exact kn1_i _ | rfl) (by first | exact canEq_str _ | exact canEq_int _ | exact canEq_non)) p2
        · walk_at "Z9A"
          exact q _ _ (kn2_1 (by first | exact kn1_s _ | exact kn1_i _ | rfl) (by first | exact canEq_str _ | exact canEq_int _ | exact canEq_non)) p2
        · walk_at "Z9A"
          exact q _ _ (kn2_1 (by first | exact kn1_s _ | exact kn1_i _ | rfl) (by first | exact canEq_str _ | exact canEq_int _ | exact canEq_non)) p2
        · walk_at "Z9A"
          exact q _ _ (kn2_1 (by first | exact kn1_s _ | exact kn1_i _ | rfl) (by first | exact canEq_str _ | exact canEq_int _ | exact canEq_non)) p2
        · walk_at "Z9A"
          exact q _ _ (kn2_1 (by first | exact kn1_s _ | exact kn1_i _ | rfl) (by first | exact canEq_str _ | exact canEq_int _ | exact canEq_non)) p2
      · exact absurd (of_decide_eq_true hb) hk
  | @it w k' ns n0 n1 =>
    rcases (by omega : k = 0 ∨ k = 1 ∨ k = 2 ∨ k = 3 ∨ k = 4 ∨ k = 5) with rfl | rfl | rfl | rfl | rfl | rfl
    · walk_at "Z9A"
      refine draw_w p1 (by omega) (by omega) (fun j h2 j0 j1 p2 => ?_)
      rcases (by omega : j = 0 ∨ j = 1 ∨ j = 2 ∨ j = 3 ∨ j = 4 ∨ j = 5 ∨ j = 6 ∨ j = 7 ∨ j = 8 ∨ j = 9) with rfl | rfl | rfl | rfl | rfl | rfl | rfl | rfl | rfl | rfl
      · walk_at "Z9A"
        exact q _ _ (kn2_3 (by first | exact kn1_s _ | exact kn1_i _ | rfl) (kn1_i _) (kn1_ints (by omega)) (by first | exact canEq_str _ | exact canEq_int _ | exact canEq_non)) p2
      · walk_at "Z9A"
        exact q _ _ (kn2_3 (by first | exact kn1_s _ | exact kn1_i _ | rfl) (kn1_i _) (kn1_ints (by omega)) (by first | exact canEq_str _ | exact canEq_int _ | exact canEq_non)) p2
      · walk_at "Z9A"
        exact q _ _ (kn2_3 (by first | exact kn1_s _ | exact kn1_i _ | rfl) (kn1_i _) (kn1_ints (by omega)) (by first | exact canEq_str _ | exact canEq_int _ | exact canEq_non)) p2
      · walk_at "Z9A"
        exact q _ _ (kn2_3 (by first | exact kn1_s _ | exact kn1_i _ | rfl) (kn1_i _) (kn1_ints (by omega)) (by first | exact canEq_str _ | exact canEq_int _ | exact canEq_non)) p2
      · walk_at "Z9A"
        exact q _ _ (kn2_3 (by first | exact kn1_s _ | exact kn1_i _ | rfl) (kn1_i _) (kn1_ints (by omega)) (by first | exact canEq_str _ | exact canEq_int _ | exact canEq_non)) p2
      · walk_at "Z9A"
        exact q _ _ (kn2_3 (by first | exact kn1_s _ | exact kn1_i _ | rfl) (kn1_i _) (kn1_ints (by omega)) (by first | exact canEq_str _ | exact canEq_int _ | exact canEq_non)) p2
      · walk_at "Z9A"
        exact q _ _ (kn2_3 (by first | exact kn1_s _ | exact kn1_i _ | rfl) (kn1_i _) (kn1_ints (by omega)) (by first | exact canEq_str _ | exact canEq_int _ | exact canEq_non)) p2
      · walk_at "Z9A"
        exact q _ _ (kn2_3 (by first | exact kn1_s _ | exact kn1_i _ | rfl) (kn1_i _) (kn1_ints (by omega)) (by first | exact canEq_str _ | exact canEq_int _ | exact canEq_non)) p2
      · walk_at "Z9A"
        exact q _ _ (kn2_3 (by first | exact kn1_s _ | exact kn1_i _ | rfl) (kn1_i _) (kn1_ints (by omega)) (by first | exact canEq_str _ | exact canEq_int _ | exact canEq_non)) p2
      · walk_at "Z9A"
        exact q _ _ (kn2_3 (by first | exact kn1_s _ | exact kn1_i _ | rfl) (kn1_i _) (kn1_ints (by omega)) (by first | exact canEq_str _ | exact canEq_int _ | exact canEq_non)) p2
    · walk_at "Z9A"
      refine odd_w p1 (fun x h2 kx p2 => ?_)
      walk_at "Z9A"
      refine draw_w p2 (by omega) (by omega) (fun j h3 j0 j1 p3 => ?_)
      rcases (by omega : j = 0 ∨ j = 1 ∨ j = 2 ∨ j = 3 ∨ j = 4 ∨ j = 5) with rfl | rfl | rfl | rfl | rfl | rfl
      · walk_at "Z9A"
        exact q _ _ (kn2_3 (kn1_s _) kx (kn1_ints (by omega)) (canEq_str _)) p3
      · walk_at "Z9A"
        exact q _ _ (kn2_3 (kn1_s _) (by first | exact kn1_s _ | exact kn1_i _ | rfl) (kn1_ints (by omega)) (canEq_str _)) p3
      · walk_at "Z9A"
        exact q _ _ (kn2_3 (kn1_s _) (by first | exact kn1_s _ | exact kn1_i _ | rfl) (kn1_ints (by omega)) (canEq_str _)) p3
      · walk_at "Z9A"
        exact q _ _ (kn2_3 (kn1_s _) (by first | exact kn1_s _ | exact kn1_i _ | rfl) (kn1_ints (by omega)) (canEq_str _)) p3
      · walk_at "Z9A"
        exact q _ _ (kn2_3 (kn1_s _) (by first | exact kn1_s _ | exact kn1_i _ | rfl) (kn1_ints (by omega)) (canEq_str _)) p3
      · walk_at "Z9A"
        exact q _ _ (kn2_3 (kn1_s _) (by first | exact kn1_s _ | exact kn1_i _ | rfl) (kn1_ints (by omega)) (canEq_str _)) p3
    · walk_at "Z9A"
      refine draw_w p1 (by rw [List.length_map]; omega) (by rw [List.length_map]; omega) (fun j h2 j0 j1 p2 => ?_)
      rw [List.length_map] at j1
      obtain ⟨v, hv⟩ := at_map j0 j1
      walk_at "Z9A"
      refine wd' (show ofO (atD (ns.map D.int) j) = .ok (.int v) by rw [hv]; rfl) ?_
      walk_at "Z9A"
      refine draw_w p2 (by omega) (by omega) (fun i h3 i0 i1 p3 => ?_)
      walk_at "Z9A"
      refine odd_w p3 (fun x h4 kx p4 => ?_)
      walk_at "Z9A"
      have l1 := len_cut (ns.map D.int) none (some j)
      have l2 := len_cut (ns.map D.int) (some (j + 1)) none
      rw [List.length_map] at l1 l2
      refine wd' (bin_tt (by rw [List.length_singleton]; omega)) ?_
      walk_at "Z9A"
      refine wd' (bin_tt (by rw [List.length_append, List.length_singleton]; omega)) ?_
      walk_at "Z9A"
      exact q _ _ (kn2_3 (kn1_s _) (kn1_i _) (kn1_put (by rw [List.length_map]; omega) kn0_ints (kn1_0 kx)) (canEq_str _)) p4
    · walk_at "Z9A"
      refine odd_w p1 (fun x h2 kx p2 => ?_)
      walk_at "Z9A"
      refine draw_w p2 (by omega) (by omega) (fun j h3 j0 j1 p3 => ?_)
      rcases (by omega : j = 0 ∨ j = 1 ∨ j = 2 ∨ j = 3 ∨ j = 4 ∨ j = 5) with rfl | rfl | rfl | rfl | rfl | rfl
      · walk_at "Z9A"
        exact q _ _ (kn2_3 (kn1_s _) (kn1_i _) kx (canEq_str _)) p3
      · walk_at "Z9A"
        exact q _ _ (kn2_3 (kn1_s _) (kn1_i _) rfl (canEq_str _)) p3
      · walk_at "Z9A"
        exact q _ _ (kn2_3 (kn1_s _) (kn1_i _) rfl (canEq_str _)) p3
      · walk_at "Z9A"
        exact q _ _ (kn2_3 (kn1_s _) (kn1_i _) rfl (canEq_str _)) p3
      · walk_at "Z9A"
        exact q _ _ (kn2_3 (kn1_s _) (kn1_i _) rfl (canEq_str _)) p3
      · walk_at "Z9A"
        exact q _ _ (kn2_3 (kn1_s _) (kn1_i _) rfl (canEq_str _)) p3
    · walk_at "Z9A"
      refine draw_w p1 (by omega) (by omega) (fun j h2 j0 j1 p2 => ?_)
      rcases (by omega : j = 0 ∨ j = 1 ∨ j = 2 ∨ j = 3 ∨ j = 4 ∨ j = 5 ∨ j = 6) with rfl | rfl | rfl | rfl | rfl | rfl | rfl
      · walk_at "Z9A"
        exact q _ _ (kn2_4 (kn1_s _) (kn1_i _) (kn1_ints (by omega)) (kn1_i _) (canEq_str _)) p2
      · walk_at "Z9A"
        exact q _ _ (kn2_2 (kn1_s _) (kn1_i _) (canEq_str _)) p2
      · walk_at "Z9A"
        exact q _ _ (kn2_l (kn1_s _) (kn1_i _) (kn1_ints (by omega))) p2
      · walk_at "Z9A"
        exact q _ _ rfl p2
      · walk_at "Z9A"
        exact q _ _ rfl p2
      · walk_at "Z9A"
        exact q _ _ rfl p2
      · walk_at "Z9A"
        exact q _ _ (kn2_1 (kn1_3 (kn1_0 (kn1_s _)) (kn0_i _) (kn1_0 (kn1_ints (by omega)))) (by simp [canEq, depD, depDs, depDs_ints])) p2
    · walk_at "Z9A"
      refine odd_w p1 (fun x h2 kx p2 => ?_)
      walk_at "Z9A"
      exact q _ _ (kn2_3 (kn1_s _) kx (kn1_ints (by omega)) (canEq_str _)) p2
  | @ii w k' n =>
    rcases (by omega : k = 0 ∨ k = 1 ∨ k = 2 ∨ k = 3 ∨ k = 4 ∨ k = 5) with rfl | rfl | rfl | rfl | rfl | rfl
    · walk_at "Z9A"
      refine draw_w p1 (by omega) (by omega) (fun j h2 j0 j1 p2 => ?_)
      rcases (by omega : j = 0 ∨ j = 1 ∨ j = 2 ∨ j = 3 ∨ j = 4 ∨ j = 5 ∨ j = 6 ∨ j = 7 ∨ j = 8 ∨ j = 9) with rfl | rfl | rfl | rfl | rfl | rfl | rfl | rfl | rfl | rfl
      · walk_at "Z9A"
        exact q _ _ (kn2_3 (by first | exact kn1_s _ | exact kn1_i _ | rfl) (kn1_i _) (kn1_i _) (by first | exact canEq_str _ | exact canEq_int _ | exact canEq_non)) p2
      · walk_at "Z9A"
        exact q _ _ (kn2_3 (by first | exact kn1_s _ | exact kn1_i _ | rfl) (kn1_i _) (kn1_i _) (by first | exact canEq_str _ | exact canEq_int _ | exact canEq_non)) p2
      · walk_at "Z9A"
        exact q _ _ (kn2_3 (by first | exact kn1_s _ | exact kn1_i _ | rfl) (kn1_i _) (kn1_i _) (by first | exact canEq_str _ | exact canEq_int _ | exact canEq_non)) p2
      · walk_at "Z9A"
        exact q _ _ (kn2_3 (by first | exact kn1_s _ | exact kn1_i _ | rfl) (kn1_i _) (kn1_i _) (by first | exact canEq_str _ | exact canEq_int _ | exact canEq_non)) p2
      · walk_at "Z9A"
        exact q _ _ (kn2_3 (by first | exact kn1_s _ | exact kn1_i _ | rfl) (kn1_i _) (kn1_i _) (by first | exact canEq_str _ | exact canEq_int _ | exact canEq_non)) p2
      · walk_at "Z9A"
        exact q _ _ (kn2_3 (by first | exact kn1_s _ | exact kn1_i _ | rfl) (kn1_i _) (kn1_i _) (by first | exact canEq_str _ | exact canEq_int _ | exact canEq_non)) p2
      · walk_at "Z9A"
        exact q _ _ (kn2_3 (by first | exact kn1_s _ | exact kn1_i _ | rfl) (kn1_i _) (kn1_i _) (by first | exact canEq_str _ | exact canEq_int _ | exact canEq_non)) p2
      · walk_at "Z9A"
        exact q _ _ (kn2_3 (by first | exact kn1_s _ | exact kn1_i _ | rfl) (kn1_i _) (kn1_i _) (by first | exact canEq_str _ | exact canEq_int _ | exact canEq_non)) p2
      · walk_at "Z9A"
        exact q _ _ (kn2_3 (by first | exact kn1_s _ | exact kn1_i _ | rfl) (kn1_i _) (kn1_i _) (by first | exact canEq_str _ | exact canEq_int _ | exact canEq_non)) p2
      · walk_at "Z9A"
        exact q _ _ (kn2_3 (by first | exact kn1_s _ | exact kn1_i _ | rfl) (kn1_i _) (kn1_i _) (by first | exact canEq_str _ | exact canEq_int _ | exact canEq_non)) p2
    · walk_at "Z9A"
      refine odd_w p1 (fun x h2 kx p2 => ?_)
      walk_at "Z9A"
      refine draw_w p2 (by omega) (by omega) (fun j h3 j0 j1 p3 => ?_)
      rcases (by omega : j = 0 ∨ j = 1 ∨ j = 2 ∨ j = 3 ∨ j = 4 ∨ j = 5) with rfl | rfl | rfl | rfl | rfl | rfl
      · walk_at "Z9A"
        exact q _ _ (kn2_3 (kn1_s _) kx (kn1_i _) (canEq_str _)) p3
      · walk_at "Z9A"
        exact q _ _ (kn2_3 (kn1_s _) (by first | exact kn1_s _ | exact kn1_i _ | rfl) (kn1_i _) (canEq_str _)) p3
      · walk_at "Z9A"
        exact q _ _ (kn2_3 (kn1_s _) (by first | exact kn1_s _ | exact kn1_i _ | rfl) (kn1_i _) (canEq_str _)) p3
      · walk_at "Z9A"
        exact q _ _ (kn2_3 (kn1_s _) (by first | exact kn1_s _ | exact kn1_i _ | rfl) (kn1_i _) (canEq_str _)) p3
      · walk_at "Z9A"
        exact q _ _ (kn2_3 (kn1_s _) (by first | exact kn1_s _ | exact kn1_i _ | rfl) (kn1_i _) (canEq_str _)) p3
      · walk_at "Z9A"
        exact q _ _ (kn2_3 (kn1_s _) (by first | exact kn1_s _ | exact kn1_i _ | rfl) (kn1_i _) (canEq_str _)) p3
    · walk_at "Z9A"
      refine odd_w p1 (fun x h2 kx p2 => ?_)
      walk_at "Z9A"
      exact q _ _ (kn2_3 (kn1_s _) kx (kn1_i _) (canEq_str _)) p2
    · walk_at "Z9A"
      refine odd_w p1 (fun x h2 kx p2 => ?_)
      walk_at "Z9A"
      refine draw_w p2 (by omega) (by omega) (fun j h3 j0 j1 p3 => ?_)
      rcases (by omega : j = 0 ∨ j = 1 ∨ j = 2 ∨ j = 3 ∨ j = 4 ∨ j = 5) with rfl | rfl | rfl | rfl | rfl | rfl
      · walk_at "Z9A"
        exact q _ _ (kn2_3 (kn1_s _) (kn1_i _) kx (canEq_str _)) p3
      · walk_at "Z9A"
        exact q _ _ (kn2_3 (kn1_s _) (kn1_i _) rfl (canEq_str _)) p3
      · walk_at "Z9A"
        exact q _ _ (kn2_3 (kn1_s _) (kn1_i _) rfl (canEq_str _)) p3
      · walk_at "Z9A"
        exact q _ _ (kn2_3 (kn1_s _) (kn1_i _) rfl (canEq_str _)) p3
      · walk_at "Z9A"
        exact q _ _ (kn2_3 (kn1_s _) (kn1_i _) rfl (canEq_str _)) p3
      · walk_at "Z9A"
        exact q _ _ (kn2_3 (kn1_s _) (kn1_i _) rfl (canEq_str _)) p3
    · walk_at "Z9A"
      refine draw_w p1 (by omega) (by omega) (fun j h2 j0 j1 p2 => ?_)
      rcases (by omega : j = 0 ∨ j = 1 ∨ j = 2 ∨ j = 3 ∨ j = 4 ∨ j = 5 ∨ j = 6) with rfl | rfl | rfl | rfl | rfl | rfl | rfl
      · walk_at "Z9A"
        exact q _ _ (kn2_4 (kn1_s _) (kn1_i _) (kn1_i _) (kn1_i _) (canEq_str _)) p2
      · walk_at "Z9A"
        exact q _ _ (kn2_2 (kn1_s _) (kn1_i _) (canEq_str _)) p2
      · walk_at "Z9A"
        exact q _ _ (kn2_l (kn1_s _) (kn1_i _) (kn1_i _)) p2
      · walk_at "Z9A"
        exact q _ _ rfl p2
      · walk_at "Z9A"
        exact q _ _ rfl p2
      · walk_at "Z9A"
        exact q _ _ rfl p2
      · walk_at "Z9A"
        exact q _ _ (kn2_1 (kn1_3 (kn1_0 (kn1_s _)) (kn0_i _) (kn1_0 (kn1_i _))) (by simp [canEq, depD, depDs, depDs_ints])) p2
    · walk_at "Z9A"
      refine odd_w p1 (fun x h2 kx p2 => ?_)
      walk_at "Z9A"
      exact q _ _ (kn2_3 (kn1_s _) kx (kn1_i _) (canEq_str _)) p2
  | @si w v n =>
    rcases (by omega : k = 0 ∨ k = 1 ∨ k = 2 ∨ k = 3 ∨ k = 4 ∨ k = 5) with rfl | rfl | rfl | rfl | rfl | rfl
    · walk_at "Z9A"
      refine draw_w p1 (by omega) (by omega) (fun j h2 j0 j1 p2 => ?_)
      rcases (by omega : j = 0 ∨ j = 1 ∨ j = 2 ∨ j = 3 ∨ j = 4 ∨ j = 5 ∨ j = 6 ∨ j = 7 ∨ j = 8 ∨ j = 9) with rfl | rfl | rfl | rfl | rfl | rfl | rfl | rfl | rfl | rfl
      · walk_at "Z9A"
        exact q _ _ (kn2_3 (by first | exact kn1_s _ | exact kn1_i _ | rfl) (kn1_s _) (kn1_i _) (by first | exact canEq_str _ | exact canEq_int _ | exact canEq_non)) p2
      · walk_at "Z9A"
        exact q _ _ (kn2_3 (by first | exact kn1_s _ | exact kn1_i _ | rfl) (kn1_s _) (kn1_i _) (by first | exact canEq_str _ | exact canEq_int _ | exact canEq_non)) p2
      · walk_at "Z9A"
        exact q _ _ (kn2_3 (by first | exact kn1_s _ | exact kn1_i _ | rfl) (kn1_s _) (kn1_i _) (by first | exact canEq_str _ | exact canEq_int _ | exact canEq_non)) p2
      · walk_at "Z9A"
        exact q _ _ (kn2_3 (by first | exact kn1_s _ | exact kn1_i _ | rfl) (kn1_s _) (kn1_i _) (by first | exact canEq_str _ | exact canEq_int _ | exact canEq_non)) p2
      · walk_at "Z9A"
        exact q _ _ (kn2_3 (by first | exact kn1_s _ | exact kn1_i _ | rfl) (kn1_s _) (kn1_i _) (by first | exact canEq_str _ | exact canEq_int _ | exact canEq_non)) p2
      · walk_at "Z9A"
        exact q _ _ (kn2_3 (by first | exact kn1_s _ | exact kn1_i _ | rfl) (kn1_s _) (kn1_i _) (by first | exact canEq_str _ | exact canEq_int _ | exact canEq_non)) p2
      · walk_at "Z9A"
        exact q _ _ (kn2_3 (by first | exact kn1_s _ | exact kn1_i _ | rfl) (kn1_s _) (kn1_i _) (by first | exact canEq_str _ | exact canEq_int _ | exact canEq_non)) p2
      · walk_at "Z9A"
        exact q _ _ (kn2_3 (by first | exact kn1_s _ | exact kn1_i _ | rfl) (kn1_s _) (kn1_i _) (by first | exact canEq_str _ | exact canEq_int _ | exact canEq_non)) p2
      · walk_at "Z9A"
        exact q _ _ (kn2_3 (by first | exact kn1_s _ | exact kn1_i _ | rfl) (kn1_s _) (kn1_i _) (by first | exact canEq_str _ | exact canEq_int _ | exact canEq_non)) p2
      · walk_at "Z9A"
        exact q _ _ (kn2_3 (by first | exact kn1_s _ | exact kn1_i _ | rfl) (kn1_s _) (kn1_i _) (by first | exact canEq_str _ | exact canEq_int _ | exact canEq_non)) p2
    · walk_at "Z9A"
      refine odd_w p1 (fun x h2 kx p2 => ?_)
      walk_at "Z9A"
      refine draw_w p2 (by omega) (by omega) (fun j h3 j0 j1 p3 => ?_)
      rcases (by omega : j = 0 ∨ j = 1 ∨ j = 2 ∨ j = 3 ∨ j = 4 ∨ j = 5) with rfl | rfl | rfl | rfl | rfl | rfl
      · walk_at "Z9A"
        exact q _ _ (kn2_3 (kn1_s _) kx (kn1_i _) (canEq_str _)) p3
      · walk_at "Z9A"
        exact q _ _ (kn2_3 (kn1_s _) (by first | exact kn1_s _ | exact kn1_i _ | rfl) (kn1_i _) (canEq_str _)) p3
      · walk_at "Z9A"
        exact q _ _ (kn2_3 (kn1_s _) (by first | exact kn1_s _ | exact kn1_i _ | rfl) (kn1_i _) (canEq_str _)) p3
      · walk_at "Z9A"
        exact q _ _ (kn2_3 (kn1_s _) (by first | exact kn1_s _ | exact kn1_i _ | rfl) (kn1_i _) (canEq_str _)) p3
      · walk_at "Z9A"
        exact q _ _ (kn2_3 (kn1_s _) (by first | exact kn1_s _ | exact kn1_i _ | rfl) (kn1_i _) (canEq_str _)) p3
      · walk_at "Z9A"
        exact q _ _ (kn2_3 (kn1_s _) (by first | exact kn1_s _ | exact kn1_i _ | rfl) (kn1_i _) (canEq_str _)) p3
    · walk_at "Z9A"
      refine odd_w p1 (fun x h2 kx p2 => ?_)
      walk_at "Z9A"
      exact q _ _ (kn2_3 (kn1_s _) kx (kn1_i _) (canEq_str _)) p2
    · walk_at "Z9A"
      refine odd_w p1 (fun x h2 kx p2 => ?_)
      walk_at "Z9A"
      refine draw_w p2 (by omega) (by omega) (fun j h3 j0 j1 p3 => ?_)
      rcases (by omega : j = 0 ∨ j = 1 ∨ j = 2 ∨ j = 3 ∨ j = 4 ∨ j = 5) with rfl | rfl | rfl | rfl | rfl | rfl
      · walk_at "Z9A"
        exact q _ _ (kn2_3 (kn1_s _) (kn1_s _) kx (canEq_str _)) p3
      · walk_at "Z9A"
        exact q _ _ (kn2_3 (kn1_s _) (kn1_s _) rfl (canEq_str _)) p3
      · walk_at "Z9A"
        exact q _ _ (kn2_3 (kn1_s _) (kn1_s _) rfl (canEq_str _)) p3
      · walk_at "Z9A"
        exact q _ _ (kn2_3 (kn1_s _) (kn1_s _) rfl (canEq_str _)) p3
      · walk_at "Z9A"
        exact q _ _ (kn2_3 (kn1_s _) (kn1_s _) rfl (canEq_str _)) p3
      · walk_at "Z9A"
        exact q _ _ (kn2_3 (kn1_s _) (kn1_s _) rfl (canEq_str _)) p3
    · walk_at "Z9A"
      refine draw_w p1 (by omega) (by omega) (fun j h2 j0 j1 p2 => ?_)
      rcases (by omega : j = 0 ∨ j = 1 ∨ j = 2 ∨ j = 3 ∨ j = 4 ∨ j = 5 ∨ j = 6) with rfl | rfl | rfl | rfl | rfl | rfl | rfl
      · walk_at "Z9A"
        exact q _ _ (kn2_4 (kn1_s _) (kn1_s _) (kn1_i _) (kn1_i _) (canEq_str _)) p2
      · walk_at "Z9A"
        exact q _ _ (kn2_2 (kn1_s _) (kn1_s _) (canEq_str _)) p2
      · walk_at "Z9A"
        exact q _ _ (kn2_l (kn1_s _) (kn1_s _) (kn1_i _)) p2
      · walk_at "Z9A"
        exact q _ _ rfl p2
      · walk_at "Z9A"
        exact q _ _ rfl p2
      · walk_at "Z9A"
        exact q _ _ rfl p2
      · walk_at "Z9A"
        exact q _ _ (kn2_1 (kn1_3 (kn1_0 (kn1_s _)) (kn1_0 (kn1_s _)) (kn1_0 (kn1_i _))) (by simp [canEq, depD, depDs, depDs_ints])) p2
    · walk_at "Z9A"
      refine odd_w p1 (fun x h2 kx p2 => ?_)
      walk_at "Z9A"
      exact q _ _ (kn2_3 (kn1_s _) kx (kn1_i _) (canEq_str _)) p2
end Z9

set_option Elab.async false
set_option linter.all false
set_option maxRecDepth 100000
set_option maxHeartbeats 1000000
namespace Z9
open PySem PySem.Spec
local macro_rules | `(tactic| walk_at "Z9A") => `(tactic| repeat (first | (with_reducible first | refine w_con' ?_ | refine w_neg' ?_ | refine w_dic0' ?_ | refine w_sn' ?_ | refine w_sc' ?_ | refine w_tup' ?_ | refine w_lst' ?_ | refine w_newl' ?_ | refine w_bin' ?_ | refine w_cmp' ?_ | refine w_cmp2' ?_ | refine w_isn' ?_ | refine w_notn' ?_ | refine w_and' ?_ | refine w_or' ?_ | refine w_a2' ?_ | refine w_a1' ?_ | refine w_not' ?_ | refine w_ife' ?_ | refine w_ix' ?_ | refine w_on' ?_ | refine w_os' ?_ | refine w_sl' ?_ | refine w_isi' ?_ | refine w_fld' ?_ | refine w_bcall' ?_ | refine w_bmeth' ?_ | refine w_meth' ?_ | refine w_lof' ?_ | refine w_lor' ?_ | refine w_sset' ?_ | refine w_inr' ?_ | refine w_tn' ?_ | refine w_tc' ?_ | refine s_nil' ?_ | refine s_cons' ?_ | refine s_set' ?_ | refine s_seti' ?_ | refine s_setf' ?_ | refine s_expr' ?_ | refine s_ret' ?_ | refine s_retn' ?_ | refine s_pass' ?_ | refine s_iff' ?_) | refine w_var' rfl ?_ | refine w_glob' rfl ?_ | refine w_call' rfl ?_ | refine w_new' rfl ?_ | refine s_rai1' rfl ?_ | (with_reducible first | refine wd' (int_eq _ _) ?_ | refine wd' (str_eq _ _) ?_ | refine wd' (int_ne _ _) ?_ | refine wd' (bin_add _ _) ?_ | refine wd' (bin_sub _ _) ?_ | refine wd' (int_lt _ _) ?_ | refine wd' (int_le _ _) ?_ | refine wd' (int_gt _ _) ?_ | refine wd' (int_ge _ _) ?_ | refine wd' (bin_mul_r (by decide) (by decide)) ?_ | refine wd' (bin_mulmod (by decide) (by decide)) ?_ | refine wd' (bin_mod (by decide)) ?_ | refine wd' (bin_div (by decide) (by decide)) ?_) | refine wd' rfl ?_ | refine ⟨rfl, ?_⟩ | refine ⟨Nat.le_of_ble_eq_true rfl, ?_⟩ | refine ⟨_, rfl, ?_⟩ | refine br_t rfl ?_ | refine br_f rfl ?_ | refine br_ft rfl ?_ | refine br_ff rfl ?_))
local macro_rules | `(tactic| walk_at "Z9N") => `(tactic| repeat (first | (with_reducible first | refine w_con' ?_ | refine w_neg' ?_ | refine w_dic0' ?_ | refine w_sn' ?_ | refine w_sc' ?_ | refine w_tup' ?_ | refine w_lst' ?_ | refine w_newl' ?_ | refine w_bin' ?_ | refine w_cmp' ?_ | refine w_cmp2' ?_ | refine w_isn' ?_ | refine w_notn' ?_ | refine w_and' ?_ | refine w_or' ?_ | refine w_a2' ?_ | refine w_a1' ?_ | refine w_not' ?_ | refine w_ife' ?_ | refine w_ix' ?_ | refine w_on' ?_ | refine w_os' ?_ | refine w_sl' ?_ | refine w_isi' ?_ | refine w_fld' ?_ | refine w_bcall' ?_ | refine w_bmeth' ?_ | refine w_meth' ?_ | refine w_lof' ?_ | refine w_lor' ?_ | refine w_sset' ?_ | refine w_inr' ?_ | refine w_tn' ?_ | refine w_tc' ?_ | refine s_nil' ?_ | refine s_set' ?_ | refine s_seti' ?_ | refine s_setf' ?_ | refine s_expr' ?_ | refine s_ret' ?_ | refine s_retn' ?_ | refine s_pass' ?_ | refine s_iff' ?_) | refine w_var' rfl ?_ | refine w_glob' rfl ?_ | refine w_call' rfl ?_ | refine w_new' rfl ?_ | refine s_rai1' rfl ?_ | (with_reducible first | refine wd' (int_eq _ _) ?_ | refine wd' (str_eq _ _) ?_ | refine wd' (int_ne _ _) ?_ | refine wd' (bin_add _ _) ?_ | refine wd' (bin_sub _ _) ?_ | refine wd' (int_lt _ _) ?_ | refine wd' (int_le _ _) ?_ | refine wd' (int_gt _ _) ?_ | refine wd' (int_ge _ _) ?_ | refine wd' (bin_mul_r (by decide) (by decide)) ?_ | refine wd' (bin_mulmod (by decide) (by decide)) ?_ | refine wd' (bin_mod (by decide)) ?_ | refine wd' (bin_div (by decide) (by decide)) ?_) | refine wd' rfl ?_ | refine ⟨rfl, ?_⟩ | refine ⟨Nat.le_of_ble_eq_true rfl, ?_⟩ | refine ⟨_, rfl, ?_⟩ | refine br_t rfl ?_ | refine br_f rfl ?_ | refine br_ft rfl ?_ | refine br_ff rfl ?_))
theorem item_kn {rows l hands size : Int} {d : D} (l3 : l ≤ 3) (i : ItemR rows l hands size d) : kn2 d = true := by
  cases i with
  | walk a b c => exact kn2_3 (kn1_s _) (kn1_i _) (kn1_ints (by omega)) (canEq_str _)
  | leave => exact kn2_3 (kn1_s _) (kn1_i _) (kn1_i _) (canEq_str _)
  | say => exact kn2_3 (kn1_s _) (kn1_s _) (kn1_i _) (canEq_str _)
  | stop => exact kn2_1 (kn1_s _) (canEq_str _)
theorem num_b {i lo hi : Int} (a : lo ≤ i) (b : i ≤ hi) : num (.int i) lo hi = true := by
  show (decide (lo ≤ i) && decide (i ≤ hi)) = true
  rw [decide_eq_true a, decide_eq_true b]
  rfl
theorem nexts_b {ns : List Int} {l m : Int} (a : (ns.length : Int) = l + 1) (b : ∀ n ∈ ns, 0 ≤ n ∧ n < m) : nexts (.tup (ns.map D.int)) l m = true := by
  show (decide (((ns.map D.int).length : Int) = l + 1) && (ns.map D.int).all fun x => num x 0 (m - 1)) = true
  rw [List.length_map, decide_eq_true a, Bool.true_and, List.all_eq_true]
  intro x hx
  obtain ⟨n, hn, rfl⟩ := List.mem_map.mp hx
  have := b n hn
  exact num_b this.1 (by omega)
theorem item_good {rows l m : Int} {is : List Int} {d : D} (e : (is.length : Int) = rows) (i : ItemR rows l (maxI is + 1) m d) : itemD d is l m = true := by
  cases i with
  | walk a b c =>
    rcases a with ⟨rfl, a0, a1⟩ | ⟨rfl, a0, a1⟩
    · rw [item3, if_pos rfl, num_b a0 (by rw [List.length_map]; omega), nexts_b b c]; rfl
    · rw [item3, if_neg (by decide), if_pos rfl, num_b a0 (by omega), nexts_b b c]; rfl
  | leave a b c d => rw [item3, if_neg (by decide), if_neg (by decide), if_pos rfl, num_b a (by omega), num_b c (by omega)]; rfl
  | say a b c => rw [item3, if_neg (by decide), if_neg (by decide), if_neg (by decide), if_pos rfl, a, num_b b (by omega)]; rfl
  | stop => rfl
theorem deal_len {is : List Int} {r : Int} (d : dealD (.tup (is.map D.int)) r = true) : (is.length : Int) = r := by
  rw [dealD_t, Bool.and_eq_true, Bool.and_eq_true] at d
  have := of_decide_eq_true d.1.1
  rwa [List.length_map] at this
theorem kn3_all {xs : List D} (l : xs.length ≤ 100000) (a : ∀ x ∈ xs, kn2 x = true) : kn3 (.tup xs) = true := by
  have e : kn0 (.tup xs) = true := by
    unfold kn0
    rw [Bool.and_eq_true]
    exact ⟨rfl, pureDs_all fun x m => kn0_pure (kn2_0 (a x m))⟩
  unfold kn3
  simp only [e, l, decide_true, Bool.true_and, List.all_eq_true]
  exact a
theorem prog_kn {rows l : Int} {is : List Int} {dp : D} {items : List D} (P : ProgR rows l is dp items) : knS (.int rows) (.int l) (.tup (is.map D.int)) dp (.tup items) := by
  obtain ⟨hr, hl, hd, hp, hn, hi⟩ := P
  have := deal_len hd
  refine ⟨kn0_i _, kn0_i _, kn1_ints (by omega), ?_, kn3_all (by omega) fun x m => item_kn hl.2 (hi x m)⟩
  rcases hp with ⟨d, rfl, _⟩ | ⟨rfl, _⟩
  · exact kn0_i _
  · rfl
theorem prog_none {rows l : Int} {is : List Int} {dp : D} {items : List D} (P : ProgR rows l is dp items) : Wrong (.int rows) (.int l) (.tup (is.map D.int)) dp (.tup items) none := by
  obtain ⟨hr, hl, hd, hp, hn, hi⟩ := P
  have hlen := deal_len hd
  refine .none (num_b hr.1 (by omega)) (num_b hl.1 hl.2) hd ?_ ?_
  · rcases hp with ⟨d, rfl, h1, h2⟩ | ⟨rfl, h1⟩
    · show num (.int d) 1 60 = true
      exact num_b h1 (by omega)
    · show decide (maxI is + 1 = 1) = true
      exact decide_eq_true (by omega)
  · rw [tableD_t, decide_eq_true (by omega), decide_eq_true (by omega), Bool.true_and, Bool.true_and, List.all_eq_true]
    exact fun x m => item_good hlen (hi x m)
theorem kn2_s (w : List Nat) : kn2 (.str w) = true := by simp [kn2, kn0, tkD, pureD]
theorem kn2_i (w : Int) : kn2 (.int w) = true := by simp [kn2, kn0, tkD, pureD]
theorem kn2_ints {is : List Int} (l : is.length ≤ 100000) : kn2 (.tup (is.map D.int)) = true := by
  have e := kn1_0 (kn1_ints l)
  unfold kn2
  rw [e, Bool.true_and]
  simp only [Bool.and_eq_true, decide_eq_true_eq, List.all_eq_true, List.length_map]
  refine ⟨⟨l, fun x m => ?_⟩, ?_⟩
  · obtain ⟨i, _, rfl⟩ := List.mem_map.mp m
    exact kn1_i i
  · cases is with
    | nil => rfl
    | cons i is => exact canEq_int i
theorem kn3_shp {d : D} (s : Shp d) : kn3 d = true := by
  cases s with
  | s => exact kn3_all (by simp) fun x m => by rw [List.mem_singleton.mp m]; exact kn2_s _
  | it n0 n1 =>
    refine kn3_all (by simp) fun x m => ?_
    simp only [List.mem_cons, List.not_mem_nil, or_false] at m
    rcases m with rfl | rfl | rfl
    · exact kn2_s _
    · exact kn2_i _
    · exact kn2_ints (by omega)
  | ii =>
    refine kn3_all (by simp) fun x m => ?_
    simp only [List.mem_cons, List.not_mem_nil, or_false] at m
    rcases m with rfl | rfl | rfl
    · exact kn2_s _
    · exact kn2_i _
    · exact kn2_i _
  | si =>
    refine kn3_all (by simp) fun x m => ?_
    simp only [List.mem_cons, List.not_mem_nil, or_false] at m
    rcases m with rfl | rfl | rfl
    · exact kn2_s _
    · exact kn2_s _
    · exact kn2_i _
theorem mul_stop {x : D} {n : Int} (n0 : 2 ≤ n) (n1 : n ≤ 100000) : binD .Mult (.tup [x]) (.int n) = .ok (.tup (List.replicate n.toNat x)) := by
  show ofB (!([x] : List D).isEmpty && decide (2 ≤ n) && decide (n ≤ 100000) && decide (([x] : List D).length ≤ 100)) (D.tup (List.replicate n.toNat [x]).flatten) = _
  rw [decide_eq_true n0, decide_eq_true n1]
  have : ∀ k : Nat, (List.replicate k [x]).flatten = List.replicate k x := fun k => by
    induction k with
    | zero => rfl
    | succ k ih => rw [List.replicate_succ, List.flatten_cons, ih]; rfl
  rw [this]
  rfl
theorem kn3_rep {n : Int} (n1 : n ≤ 100000) : kn3 (.tup (List.replicate n.toNat (.tup [.str sStop]))) = true := by
  refine kn3_all (by rw [List.length_replicate]; omega) fun x m => ?_
  rw [List.eq_of_mem_replicate m]
  exact kn2_1 (kn1_s _) (canEq_str _)
theorem kn3_put {ns : List D} {x : D} {a b c d : Option Int} (l : ns.length ≤ 1000) (hn : ∀ x ∈ ns, kn2 x = true) (hx : kn2 x = true) : kn3 (.tup ((cutD ns a b ++ [x]) ++ cutD ns c d)) = true := by
  refine kn3_all ?_ fun y m => ?_
  · have := len_cut ns a b
    have := len_cut ns c d
    simp only [List.length_append, List.length_singleton]
    omega
  · rcases List.mem_append.mp m with m | m
    · rcases List.mem_append.mp m with m | m
      · exact hn y (mem_cut m)
      · rw [List.mem_singleton.mp m]
        exact hx
    · exact hn y (mem_cut m)
theorem changed_w {h rest : Hh} {rows l : Int} {is : List Int} {dp : D} {items : List D} {Q : D → Hh → Prop} {E : Nat → List D → Hh → Prop} (P : ProgR rows l is dp items) (p : DiceOk h rest)
    (q : ∀ r l de dp t h', knS r l de dp t → DiceOk h' rest → Q (.tup [r, l, de, dp, t]) h') : WC (g_law_changed [.ref 0, .tup [.int rows, .int l, .tup (is.map D.int), dp, .tup items]] h) Q E := by
  have K := prog_kn P
  obtain ⟨kr, kl, kd, kp, kt⟩ := K
  obtain ⟨hr, hl, hd, hp, hn, hi⟩ := P
  have hlen := deal_len hd
  refine w_C ?_
  unfold g_law_changed r_law_changed
  refine r_run' rfl ?_
  unfold ir_law_changed
  walk_at "Z9A"
  refine s_asg' (w_var' rfl ⟨_, rfl, ?_⟩)
  walk_at "Z9A"
  refine draw_w p (by omega) (by omega) (fun k h1 k0 k1 p1 => ?_)
  walk_at "Z9A"
  refine draw_w p1 (by omega) (by omega) (fun at_ h2 t0 t1 p2 => ?_)
  by_cases hk : k < 5
  · rcases (by omega : k = 0 ∨ k = 1 ∨ k = 2 ∨ k = 3 ∨ k = 4) with rfl | rfl | rfl | rfl | rfl
    · walk_at "Z9A"
      refine odd_w p2 (fun x h3 kx p3 => ?_)
      walk_at "Z9A"
      refine draw_w p3 (by omega) (by omega) (fun j h4 j0 j1 p4 => ?_)
      rcases (by omega : j = 0 ∨ j = 1 ∨ j = 2 ∨ j = 3) with rfl | rfl | rfl | rfl
      · walk_at "Z9A"
        exact q _ _ _ _ _ _ ⟨kn1_0 kx, kl, kd, kp, kt⟩ p4
      · walk_at "Z9A"
        exact q _ _ _ _ _ _ ⟨kn0_i _, kl, kd, kp, kt⟩ p4
      · walk_at "Z9A"
        exact q _ _ _ _ _ _ ⟨kn0_i _, kl, kd, kp, kt⟩ p4
      · walk_at "Z9A"
        exact q _ _ _ _ _ _ ⟨kn0_i _, kl, kd, kp, kt⟩ p4
    · walk_at "Z9A"
      refine odd_w p2 (fun x h3 kx p3 => ?_)
      walk_at "Z9A"
      refine draw_w p3 (by omega) (by omega) (fun j h4 j0 j1 p4 => ?_)
      rcases (by omega : j = 0 ∨ j = 1 ∨ j = 2 ∨ j = 3) with rfl | rfl | rfl | rfl
      · walk_at "Z9A"
        exact q _ _ _ _ _ _ ⟨kr, kn1_0 kx, kd, kp, kt⟩ p4
      · walk_at "Z9A"
        exact q _ _ _ _ _ _ ⟨kr, kn0_i _, kd, kp, kt⟩ p4
      · walk_at "Z9A"
        exact q _ _ _ _ _ _ ⟨kr, kn0_i _, kd, kp, kt⟩ p4
      · walk_at "Z9A"
        exact q _ _ _ _ _ _ ⟨kr, kn0_i _, kd, kp, kt⟩ p4
    · walk_at "Z9A"
      obtain ⟨v, hv⟩ := at_map (ss := is) t0 (by omega)
      refine wd' (show ofO (atD (is.map D.int) at_) = .ok (.int v) by rw [hv]; rfl) ?_
      walk_at "Z9A"
      refine odd_w p2 (fun x h3 kx p3 => ?_)
      walk_at "Z9A"
      have l1 := len_cut (is.map D.int) none (some at_)
      have l2 := len_cut (is.map D.int) (some (at_ + 1)) none
      rw [List.length_map] at l1 l2
      refine wd' (bin_tt (by rw [List.length_singleton]; omega)) ?_
      walk_at "Z9A"
      refine wd' (bin_tt (by rw [List.length_append, List.length_singleton]; omega)) ?_
      walk_at "Z9A"
      refine wd' (bin_tt (by rw [List.length_map, List.length_singleton]; omega)) ?_
      walk_at "Z9A"
      refine draw_w p3 (by omega) (by omega) (fun j h4 j0 j1 p4 => ?_)
      rcases (by omega : j = 0 ∨ j = 1 ∨ j = 2 ∨ j = 3) with rfl | rfl | rfl | rfl
      · walk_at "Z9A"
        exact q _ _ _ _ _ _ ⟨kr, kl, kn1_put (by rw [List.length_map]; omega) kn0_ints (kn1_0 kx), kp, kt⟩ p4
      · walk_at "Z9A"
        exact q _ _ _ _ _ _ ⟨kr, kl, by simp [kn1, kn0, tkD, pureD, pure_ints], kp, kt⟩ p4
      · walk_at "Z9A"
        exact q _ _ _ _ _ _ ⟨kr, kl, kn1_all (by rw [List.length_append, List.length_map, List.length_singleton]; omega) (fun x m => (List.mem_append.mp m).elim (fun m => kn0_ints x m) (fun m => by rw [List.mem_singleton.mp m]; exact kn0_i _)), kp, kt⟩ p4
      · walk_at "Z9A"
        exact q _ _ _ _ _ _ ⟨kr, kl, kn1_all (by have := len_cut (is.map D.int) (some 1) none; rw [List.length_map] at this; omega) (fun x m => kn0_ints x (mem_cut m)), kp, kt⟩ p4
    · walk_at "Z9A"
      refine odd_w p2 (fun x h3 kx p3 => ?_)
      walk_at "Z9A"
      refine draw_w p3 (by omega) (by omega) (fun j h4 j0 j1 p4 => ?_)
      rcases (by omega : j = 0 ∨ j = 1 ∨ j = 2 ∨ j = 3) with rfl | rfl | rfl | rfl
      · walk_at "Z9A"
        exact q _ _ _ _ _ _ ⟨kr, kl, kd, kn1_0 kx, kt⟩ p4
      · walk_at "Z9A"
        exact q _ _ _ _ _ _ ⟨kr, kl, kd, kn0_i _, kt⟩ p4
      · walk_at "Z9A"
        exact q _ _ _ _ _ _ ⟨kr, kl, kd, kn0_i _, kt⟩ p4
      · walk_at "Z9A"
        exact q _ _ _ _ _ _ ⟨kr, kl, kd, rfl, kt⟩ p4
    · walk_at "Z9A"
      obtain ⟨i0, is', rfl⟩ : ∃ a b, items = a :: b := by
        cases items with
        | nil => simp at hn
        | cons a b => exact ⟨a, b, rfl⟩
      have s0 := item_shp hl.1 hl.2 (hi i0 List.mem_cons_self)
      refine draw_w p2 (by omega) (by omega) (fun f h3 f0 f1 p3 => ?_)
      walk_at "Z9A"
      (refine ⟨fun hb => ?_, fun hb => ?_⟩)
      · walk_at "Z9A"
        refine draw_w p3 (by omega) (by omega) (fun g h3 g0 g1 p3 => ?_)
        obtain ⟨n, en, n0, n1⟩ : ∃ n : Int, ixD h3 (.lst [.int 19999, .int 20000, .int 20001]) (.int g) = .ok (.int n) ∧ 2 ≤ n ∧ n ≤ 100000 := by
          rcases (by omega : g = 0 ∨ g = 1 ∨ g = 2) with rfl | rfl | rfl
          · exact ⟨_, rfl, by decide, by decide⟩
          · exact ⟨_, rfl, by decide, by decide⟩
          · exact ⟨_, rfl, by decide, by decide⟩
        refine wd' en (wd' (mul_stop n0 n1) ?_)
        have ks := kn3_rep n1
        generalize D.tup (List.replicate n.toNat (.tup [.str sStop])) = st at ks ⊢
        walk_at "Z9A"
        refine wd' (ix0 _ _ _) ?_
        walk_at "Z9A"
        refine draw_w p3 (by omega) (by omega) (fun j h4 j0 j1 p4 => ?_)
        rcases (by omega : j = 0 ∨ j = 1 ∨ j = 2 ∨ j = 3 ∨ j = 4) with rfl | rfl | rfl | rfl | rfl
        · walk_at "Z9A"
          exact q _ _ _ _ _ _ ⟨kr, kl, kd, kp, by have := kn0_pure (kn3_0 kt); simp only [kn3, kn0, tkD, pureD] at this ⊢; rw [this]; rfl⟩ p4
        · walk_at "Z9A"
          exact q _ _ _ _ _ _ ⟨kr, kl, kd, kp, ks⟩ p4
        · walk_at "Z9A"
          exact q _ _ _ _ _ _ ⟨kr, kl, kd, kp, rfl⟩ p4
        · walk_at "Z9A"
          exact q _ _ _ _ _ _ ⟨kr, kl, kd, kp, by simp [kn3, kn0, tkD, pureD]⟩ p4
        · walk_at "Z9A"
          exact q _ _ _ _ _ _ ⟨kr, kl, kd, kp, kn3_shp s0⟩ p4
      · walk_at "Z9A"
        refine wd' (ix0 _ _ _) ?_
        walk_at "Z9A"
        refine draw_w p3 (by omega) (by omega) (fun j h4 j0 j1 p4 => ?_)
        rcases (by omega : j = 0 ∨ j = 1 ∨ j = 2 ∨ j = 3 ∨ j = 4) with rfl | rfl | rfl | rfl | rfl
        · walk_at "Z9A"
          exact q _ _ _ _ _ _ ⟨kr, kl, kd, kp, by have := kn0_pure (kn3_0 kt); simp only [kn3, kn0, tkD, pureD] at this ⊢; rw [this]; rfl⟩ p4
        · walk_at "Z9A"
          exact q _ _ _ _ _ _ ⟨kr, kl, kd, kp, rfl⟩ p4
        · walk_at "Z9A"
          exact q _ _ _ _ _ _ ⟨kr, kl, kd, kp, rfl⟩ p4
        · walk_at "Z9A"
          exact q _ _ _ _ _ _ ⟨kr, kl, kd, kp, by simp [kn3, kn0, tkD, pureD]⟩ p4
        · walk_at "Z9A"
          exact q _ _ _ _ _ _ ⟨kr, kl, kd, kp, kn3_shp s0⟩ p4
  · walk_at "Z9A"
    refine br_f (decide_eq_false (by omega)) ?_
    walk_at "Z9A"
    refine br_f (decide_eq_false (by omega)) ?_
    walk_at "Z9A"
    refine br_f (decide_eq_false (by omega)) ?_
    walk_at "Z9A"
    refine br_f (decide_eq_false (by omega)) ?_
    walk_at "Z9A"
    refine br_f (decide_eq_false (by omega)) ?_
    walk_at "Z9A"
    refine draw_w p2 (by omega) (by omega) (fun a2 h3 a0 a1 p3 => ?_)
    have al : a2.toNat < items.length := by omega
    walk_at "Z9A"
    refine wd' (d := items[a2.toNat]) (by show ofO (atD items a2) = _; rw [atD_in a0 a1, List.getElem?_eq_getElem al]; rfl) ?_
    walk_at "Z9A"
    refine ichanged_w (item_shp hl.1 hl.2 (hi _ (List.getElem_mem al))) p3 (fun x h4 kx p4 => ?_)
    walk_at "Z9A"
    have l1 := len_cut items none (some a2)
    have l2 := len_cut items (some (a2 + 1)) none
    refine wd' (bin_tt (by rw [List.length_singleton]; omega)) ?_
    walk_at "Z9A"
    refine wd' (bin_tt (by rw [List.length_append, List.length_singleton]; omega)) ?_
    walk_at "Z9A"
    exact q _ _ _ _ _ _ ⟨kr, kl, kd, kp, kn3_put (by omega) (fun y m => item_kn hl.2 (hi y m)) kx⟩ p4
/-! the law -/
theorem told_eqD (s : List Nat) : eqD (told (some s)) (.tup [.str [114, 101, 102, 117, 115, 101, 100], partD (some s)]) = true := by simp [told, partD, eqD, eqDs]
theorem law_wp (ns : List Int) : WP (g_law [.scr ns] []) (fun d _ => d = .bl true) noE := by
  unfold g_law r_law
  refine r_run' rfl ?_
  unfold ir_law
  walk_at "Z9A"
  refine w_C ((dice_ok ns).imp fun d h0 e => ?_)
  obtain ⟨rfl, p⟩ := e
  walk_at "Z9A"
  refine draw_w p (by omega) (by omega) (fun k h1 k0 k1 p1 => ?_)
  walk_at "Z9A"
  refine program_w p1 (fun rows l is dp items h2 rest P p2 => ?_)
  walk_at "Z9N"
  have K := prog_kn P
  have W := prog_none P
  refine s_cons' ?_
  walk_at "Z9N"
  refine s_mid (fun r1 h3 => ∃ r l' de dp' t, knS r l' de dp' t ∧ r1 = [some (.scr ns), some (.ref 0), some (.int k), some (.tup [.int rows, .int l, .tup (is.map D.int), dp, .tup items]), some (.tup [r, l', de, dp', t]), none, none]) ?_ ?_
  · walk_at "Z9A"
    (refine ⟨fun hb => ?_, fun hb => ?_⟩)
    · walk_at "Z9A"
      refine changed_w P p2 (fun r l' de dp' t h3 K3 p3 => ?_)
      walk_at "Z9A"
      exact ⟨r, l', de, dp', t, K3, rfl⟩
    · walk_at "Z9A"
      exact ⟨_, _, _, _, _, K, rfl⟩
  · rintro r1 h3 ⟨r, l', de, dp', t, K3, rfl⟩
    obtain ⟨w, W3⟩ := is_wrong r l' de dp' t
    walk_at "Z9A"
    refine w_ceq (law_wrong_eq K3 W3 _) ?_
    have fin : ∀ {G : Gam} {rr : Z9.Env} {h : Hh}, True := trivial
    cases w with
    | none =>
      walk_at "Z9A"
      refine w_ceq (refused_eq K3 W3 _) ?_
      walk_at "Z9A"
      refine w_ceq (refused_eq K W _) ?_
      walk_at "Z9A"
      exact rfl
    | some s =>
      walk_at "Z9A"
      refine w_ceq (refused_eq K3 W3 _) ?_
      walk_at "Z9A"
      refine br_t (told_eqD s) ?_
      walk_at "Z9A"
      refine w_ceq (refused_eq K W _) ?_
      walk_at "Z9A"
      exact rfl
theorem law_plain (ns : List Int) (hl : ns.length ≤ 63) : ∃ h, g_law [.scr ns] [] = .ok (.bl true, h) := by
  obtain ⟨d, h, e, rfl⟩ := WP.ex (law_wp ns)
  exact ⟨h, e⟩
end Z9

namespace Z9
open PySem PySem.Spec PyProof.Rows L2
structure Txt (P : Program) (K : PySem.W.Frag) (mg : Str → Option Value) (ca : Nat → Value) : Prop where
  s_is_integer : Stands K mg "is_integer" (topS 6) ["thing"]
  s_is_string_of : Stands K mg "is_string_of" (topS 8) ["thing", "signs"]
  s_hands_of : Stands K mg "hands_of" (topS 18) ["dealing"]
  s_law_dice : Stands K mg "_law_dice" (topS 23) ["_law_script"]
  s_law_draw : Stands K mg "_law_draw" (topS 24) ["_law_dice_here", "_law_sides"]
  s_law_is_number : Stands K mg "_law_is_number" (topS 29) ["_law_thing", "_law_least", "_law_most"]
  s_law_is_word : Stands K mg "_law_is_word" (topS 31) ["_law_thing"]
  s_is_within : Stands K mg "is_within" (topS 7) ["thing", "least", "most"]
  s_is_word : Stands K mg "is_word" (topS 9) ["thing"]
  s_law_shuffled : Stands K mg "_law_shuffled" (topS 25) ["_law_dice_here", "_law_items"]
  s_law_item : Stands K mg "_law_item" (topS 27) ["_law_dice_here", "_law_rows", "_law_letters", "_law_hands", "_law_size", "_law_kind"]
  s_law_are_nexts : Stands K mg "_law_are_nexts" (topS 30) ["_law_thing", "_law_letters", "_law_many"]
  s_law_is_dealing : Stands K mg "_law_is_dealing" (topS 33) ["_law_thing", "_law_rows"]
  s_law_odd : Stands K mg "_law_odd" (topS 35) ["_law_dice_here", "_law_near"]
  s_are_nexts : Stands K mg "are_nexts" (topS 12) ["thing", "letters", "many"]
  s_is_say : Stands K mg "is_say" (topS 13) ["thing", "many"]
  s_is_dealing : Stands K mg "is_dealing" (topS 17) ["rows", "thing"]
  s_is_depth : Stands K mg "is_depth" (topS 19) ["thing", "dealing"]
  s_law_dealing : Stands K mg "_law_dealing" (topS 26) ["_law_dice_here", "_law_rows"]
  s_law_is_item : Stands K mg "_law_is_item" (topS 32) ["_law_thing", "_law_dealing_here", "_law_letters", "_law_many"]
  s_law_item_changed : Stands K mg "_law_item_changed" (topS 36) ["_law_dice_here", "_law_item_here"]
  s_is_program_item : Stands K mg "is_program_item" (topS 20) ["thing", "dealing", "letters", "many"]
  s_law_program : Stands K mg "_law_program" (topS 28) ["_law_dice_here", "_law_most"]
  s_law_wrong : Stands K mg "_law_wrong" (topS 34) ["_law_spec"]
  s_law_changed : Stands K mg "_law_changed" (topS 37) ["_law_dice_here", "_law_spec"]
  s_law_refused : Stands K mg "_law_refused" (topS 38) ["_law_spec"]
  s_law : Stands K mg "law" (topS 39) ["_law_script"]
  o_Program : ∃ (C f : Addr), Mk K C f ∧ mg "Program" = some (.ref C) ∧ clsNm K C = some "Program" ∧ StandsM K f "__init__" "Program.__init__" (inCls (topS 21) 0) ["self", "rows", "letters", "dealing", "depth", "table"]
  o_Program_keep : ∀ C, clsNm K C = some "Program" → ∃ (f : Addr), Cls K C ∧ Meth K C "keep" f ∧ StandsM K f "keep" "Program.keep" (inCls (topS 21) 1) ["self", "rows", "letters", "dealing", "depth", "table"]
  of_Program : ∀ C, clsNm K C = some "Program" → Cls K C ∧ NoAttr K C "rows" ∧ NoAttr K C "letters" ∧ NoAttr K C "dealing" ∧ NoAttr K C "depth" ∧ NoAttr K C "table"
  con : ConOk nmL K mg consL
  blt : ∀ x ∈ bnames, mg x = none
  xo : XOk nmL ca (fun k => exL.contains k) (fun k => (tabL.map (·.1)).contains k) (subOf tabL) K mg
  xt : ∀ (w : World) (base : Heap) (lv : Nat), 2 ≤ lv → XtOk nmL P w K mg base ca lv xtL
section
variable {P : Program} {w : World} {K : PySem.W.Frag} {mg : Str → Option Value} {base : Heap} {ca : Nat → Value}
theorem at_is_integer (T : Txt P K mg ca) : DefAt P w K mg base ca 3 "is_integer" 1 g_is_integer := (def_at (G := G_is_integer) T.s_is_integer sc_is_integer m_is_integer (gok_of (hf_nil) T.con T.blt (T.xt _ _ _ (by decide))) T.xo).pure
theorem at_is_string_of (T : Txt P K mg ca) : DefAt P w K mg base ca 3 "is_string_of" 2 g_is_string_of := (def_at (G := G_is_string_of) T.s_is_string_of sc_is_string_of m_is_string_of (gok_of (hf_nil) T.con T.blt (T.xt _ _ _ (by decide))) T.xo).pure
theorem at_hands_of (T : Txt P K mg ca) : DefAt P w K mg base ca 3 "hands_of" 1 g_hands_of := (def_at (G := G_hands_of) T.s_hands_of sc_hands_of m_hands_of (gok_of (hf_nil) T.con T.blt (T.xt _ _ _ (by decide))) T.xo).pure
theorem at_law_dice (T : Txt P K mg ca) : DefAt P w K mg base ca 3 "_law_dice" 1 g_law_dice := (def_at (G := G_law_dice) T.s_law_dice sc_law_dice m_law_dice (gok_of (hf_nil) T.con T.blt (T.xt _ _ _ (by decide))) T.xo)
theorem at_law_draw (T : Txt P K mg ca) : DefAt P w K mg base ca 3 "_law_draw" 2 g_law_draw := (def_at (G := G_law_draw) T.s_law_draw sc_law_draw m_law_draw (gok_of (hf_nil) T.con T.blt (T.xt _ _ _ (by decide))) T.xo)
theorem at_law_is_number (T : Txt P K mg ca) : DefAt P w K mg base ca 3 "_law_is_number" 3 g_law_is_number := (def_at (G := G_law_is_number) T.s_law_is_number sc_law_is_number m_law_is_number (gok_of (hf_nil) T.con T.blt (T.xt _ _ _ (by decide))) T.xo).pure
theorem at_law_is_word (T : Txt P K mg ca) : DefAt P w K mg base ca 3 "_law_is_word" 1 g_law_is_word := (def_at (G := G_law_is_word) T.s_law_is_word sc_law_is_word m_law_is_word (gok_of (hf_nil) T.con T.blt (T.xt _ _ _ (by decide))) T.xo).pure
theorem at_Program_keep (T : Txt P K mg ca) {f : Addr} (S : StandsM K f "keep" "Program.keep" (inCls (topS 21) 1) ["self", "rows", "letters", "dealing", "depth", "table"]) : MethAt P w K mg base ca 3 f 6 g_Program_keep := meth_at (G := G_Program_keep) S sc_Program_keep m_Program_keep (gok_of (hf_nil) T.con T.blt (T.xt _ _ _ (by decide)) ⟨all_nil, all_nil, all_cons (fun C hC => ⟨(T.of_Program C hC).1, (T.of_Program C hC).2.1⟩) (all_cons (fun C hC => ⟨(T.of_Program C hC).1, (T.of_Program C hC).2.2.1⟩) (all_cons (fun C hC => ⟨(T.of_Program C hC).1, (T.of_Program C hC).2.2.2.1⟩) (all_cons (fun C hC => ⟨(T.of_Program C hC).1, (T.of_Program C hC).2.2.2.2.1⟩) (all_cons (fun C hC => ⟨(T.of_Program C hC).1, (T.of_Program C hC).2.2.2.2.2⟩) (all_nil)))))⟩) T.xo
theorem at_is_within (T : Txt P K mg ca) : DefAt P w K mg base ca 4 "is_within" 3 g_is_within := (def_at (G := G_is_within) T.s_is_within sc_is_within m_is_within (gok_of (hf_cons (x := "is_integer") rfl ((at_is_integer T)) (hf_nil)) T.con T.blt (T.xt _ _ _ (by decide))) T.xo).pure
theorem at_is_word (T : Txt P K mg ca) : DefAt P w K mg base ca 4 "is_word" 1 g_is_word := (def_at (G := G_is_word) T.s_is_word sc_is_word m_is_word (gok_of (hf_cons (x := "is_string_of") rfl ((at_is_string_of T)) (hf_nil)) T.con T.blt (T.xt _ _ _ (by decide))) T.xo).pure
theorem at_law_shuffled (T : Txt P K mg ca) : DefAt P w K mg base ca 4 "_law_shuffled" 2 g_law_shuffled := (def_at (G := G_law_shuffled) T.s_law_shuffled sc_law_shuffled m_law_shuffled (gok_of (hf_cons (x := "_law_draw") rfl ((at_law_draw T)) (hf_nil)) T.con T.blt (T.xt _ _ _ (by decide))) T.xo)
theorem at_law_item (T : Txt P K mg ca) : DefAt P w K mg base ca 4 "_law_item" 6 g_law_item := (def_at (G := G_law_item) T.s_law_item sc_law_item m_law_item (gok_of (hf_cons (x := "_law_draw") rfl ((at_law_draw T)) (hf_nil)) T.con T.blt (T.xt _ _ _ (by decide))) T.xo)
theorem at_law_are_nexts (T : Txt P K mg ca) : DefAt P w K mg base ca 4 "_law_are_nexts" 3 g_law_are_nexts := (def_at (G := G_law_are_nexts) T.s_law_are_nexts sc_law_are_nexts m_law_are_nexts (gok_of (hf_cons (x := "_law_is_number") rfl ((at_law_is_number T)) (hf_nil)) T.con T.blt (T.xt _ _ _ (by decide))) T.xo).pure
theorem at_law_is_dealing (T : Txt P K mg ca) : DefAt P w K mg base ca 4 "_law_is_dealing" 2 g_law_is_dealing := (def_at (G := G_law_is_dealing) T.s_law_is_dealing sc_law_is_dealing m_law_is_dealing (gok_of (hf_cons (x := "_law_is_number") rfl ((at_law_is_number T)) (hf_nil)) T.con T.blt (T.xt _ _ _ (by decide))) T.xo).pure
theorem at_law_odd (T : Txt P K mg ca) : DefAt P w K mg base ca 4 "_law_odd" 2 g_law_odd := (def_at (G := G_law_odd) T.s_law_odd sc_law_odd m_law_odd (gok_of (hf_cons (x := "_law_draw") rfl ((at_law_draw T)) (hf_nil)) T.con T.blt (T.xt _ _ _ (by decide))) T.xo)
theorem at_are_nexts (T : Txt P K mg ca) : DefAt P w K mg base ca 5 "are_nexts" 3 g_are_nexts := (def_at (G := G_are_nexts) T.s_are_nexts sc_are_nexts m_are_nexts (gok_of (hf_cons (x := "is_within") rfl ((at_is_within T)) (hf_nil)) T.con T.blt (T.xt _ _ _ (by decide))) T.xo).pure
theorem at_is_say (T : Txt P K mg ca) : DefAt P w K mg base ca 5 "is_say" 2 g_is_say := (def_at (G := G_is_say) T.s_is_say sc_is_say m_is_say (gok_of (hf_cons (x := "is_word") rfl ((at_is_word T)) (hf_cons (x := "is_within") rfl ((at_is_within T)) (hf_nil))) T.con T.blt (T.xt _ _ _ (by decide))) T.xo).pure
theorem at_is_dealing (T : Txt P K mg ca) : DefAt P w K mg base ca 5 "is_dealing" 2 g_is_dealing := (def_at (G := G_is_dealing) T.s_is_dealing sc_is_dealing m_is_dealing (gok_of (hf_cons (x := "is_within") rfl ((at_is_within T)) (hf_nil)) T.con T.blt (T.xt _ _ _ (by decide))) T.xo).pure
theorem at_is_depth (T : Txt P K mg ca) : DefAt P w K mg base ca 5 "is_depth" 2 g_is_depth := (def_at (G := G_is_depth) T.s_is_depth sc_is_depth m_is_depth (gok_of (hf_cons (x := "hands_of") rfl ((at_hands_of T).up (by decide)) (hf_cons (x := "is_within") rfl ((at_is_within T)) (hf_nil))) T.con T.blt (T.xt _ _ _ (by decide))) T.xo).pure
theorem at_law_dealing (T : Txt P K mg ca) : DefAt P w K mg base ca 5 "_law_dealing" 2 g_law_dealing := (def_at (G := G_law_dealing) T.s_law_dealing sc_law_dealing m_law_dealing (gok_of (hf_cons (x := "_law_draw") rfl ((at_law_draw T).up (by decide)) (hf_cons (x := "_law_shuffled") rfl ((at_law_shuffled T)) (hf_nil))) T.con T.blt (T.xt _ _ _ (by decide))) T.xo)
theorem at_law_is_item (T : Txt P K mg ca) : DefAt P w K mg base ca 5 "_law_is_item" 4 g_law_is_item := (def_at (G := G_law_is_item) T.s_law_is_item sc_law_is_item m_law_is_item (gok_of (hf_cons (x := "_law_is_number") rfl ((at_law_is_number T).up (by decide)) (hf_cons (x := "_law_are_nexts") rfl ((at_law_are_nexts T)) (hf_cons (x := "_law_is_word") rfl ((at_law_is_word T).up (by decide)) (hf_nil)))) T.con T.blt (T.xt _ _ _ (by decide))) T.xo).pure
theorem at_law_item_changed (T : Txt P K mg ca) : DefAt P w K mg base ca 5 "_law_item_changed" 2 g_law_item_changed := (def_at (G := G_law_item_changed) T.s_law_item_changed sc_law_item_changed m_law_item_changed (gok_of (hf_cons (x := "_law_draw") rfl ((at_law_draw T).up (by decide)) (hf_cons (x := "_law_odd") rfl ((at_law_odd T)) (hf_nil))) T.con T.blt (T.xt _ _ _ (by decide))) T.xo)
theorem at_is_program_item (T : Txt P K mg ca) : DefAt P w K mg base ca 6 "is_program_item" 4 g_is_program_item := (def_at (G := G_is_program_item) T.s_is_program_item sc_is_program_item m_is_program_item (gok_of (hf_cons (x := "is_within") rfl ((at_is_within T).up (by decide)) (hf_cons (x := "are_nexts") rfl ((at_are_nexts T)) (hf_cons (x := "is_say") rfl ((at_is_say T)) (hf_nil)))) T.con T.blt (T.xt _ _ _ (by decide))) T.xo).pure
theorem at_law_program (T : Txt P K mg ca) : DefAt P w K mg base ca 6 "_law_program" 2 g_law_program := (def_at (G := G_law_program) T.s_law_program sc_law_program m_law_program (gok_of (hf_cons (x := "_law_draw") rfl ((at_law_draw T).up (by decide)) (hf_cons (x := "_law_dealing") rfl ((at_law_dealing T)) (hf_cons (x := "_law_item") rfl ((at_law_item T).up (by decide)) (hf_nil)))) T.con T.blt (T.xt _ _ _ (by decide))) T.xo)
theorem at_law_wrong (T : Txt P K mg ca) : DefAt P w K mg base ca 6 "_law_wrong" 1 g_law_wrong := (def_at (G := G_law_wrong) T.s_law_wrong sc_law_wrong m_law_wrong (gok_of (hf_cons (x := "_law_is_number") rfl ((at_law_is_number T).up (by decide)) (hf_cons (x := "_law_is_dealing") rfl ((at_law_is_dealing T).up (by decide)) (hf_cons (x := "_law_is_item") rfl ((at_law_is_item T)) (hf_nil)))) T.con T.blt (T.xt _ _ _ (by decide))) T.xo).pure
theorem at_law_changed (T : Txt P K mg ca) : DefAt P w K mg base ca 6 "_law_changed" 2 g_law_changed := (def_at (G := G_law_changed) T.s_law_changed sc_law_changed m_law_changed (gok_of (hf_cons (x := "_law_draw") rfl ((at_law_draw T).up (by decide)) (hf_cons (x := "_law_odd") rfl ((at_law_odd T).up (by decide)) (hf_cons (x := "_law_item_changed") rfl ((at_law_item_changed T)) (hf_nil)))) T.con T.blt (T.xt _ _ _ (by decide))) T.xo)
theorem at_Program_init (T : Txt P K mg ca) {f : Addr} (S : StandsM K f "__init__" "Program.__init__" (inCls (topS 21) 0) ["self", "rows", "letters", "dealing", "depth", "table"]) : MethAt P w K mg base ca 7 f 6 g_Program_init := meth_at (G := G_Program_init) S sc_Program_init m_Program_init (gok_of (hf_cons (x := "is_within") rfl ((at_is_within T).up (by decide)) (hf_cons (x := "is_dealing") rfl ((at_is_dealing T).up (by decide)) (hf_cons (x := "is_depth") rfl ((at_is_depth T).up (by decide)) (hf_cons (x := "is_program_item") rfl ((at_is_program_item T)) (hf_nil))))) T.con T.blt (T.xt _ _ _ (by decide)) ⟨all_nil, all_cons (fun C hC => let ⟨f, a, b, S⟩ := T.o_Program_keep C hC; ⟨f, a, b, (at_Program_keep T S).up (by decide)⟩) (all_nil), all_nil⟩) T.xo
theorem at_law_refused (T : Txt P K mg ca) : DefAt P w K mg base ca 9 "_law_refused" 1 g_law_refused := (def_at (G := G_law_refused) T.s_law_refused sc_law_refused m_law_refused (gok_of (hf_nil) T.con T.blt (T.xt _ _ _ (by decide)) ⟨all_cons (fun x e => by cases e; obtain ⟨C, f, h1, h2, h3, S⟩ := T.o_Program; exact ⟨7, C, f, by decide, h1, h2, h3, at_Program_init T S⟩) (all_nil), all_nil, all_cons (fun C hC => ⟨(T.of_Program C hC).1, (T.of_Program C hC).2.1⟩) (all_cons (fun C hC => ⟨(T.of_Program C hC).1, (T.of_Program C hC).2.2.1⟩) (all_cons (fun C hC => ⟨(T.of_Program C hC).1, (T.of_Program C hC).2.2.2.1⟩) (all_cons (fun C hC => ⟨(T.of_Program C hC).1, (T.of_Program C hC).2.2.2.2.1⟩) (all_cons (fun C hC => ⟨(T.of_Program C hC).1, (T.of_Program C hC).2.2.2.2.2⟩) (all_nil)))))⟩) T.xo).pure
theorem at_law (T : Txt P K mg ca) : DefAt P w K mg base ca 10 "law" 1 g_law := (def_at (G := G_law) T.s_law sc_law m_law (gok_of (hf_cons (x := "_law_dice") rfl ((at_law_dice T).up (by decide)) (hf_cons (x := "_law_draw") rfl ((at_law_draw T).up (by decide)) (hf_cons (x := "_law_program") rfl ((at_law_program T).up (by decide)) (hf_cons (x := "_law_changed") rfl ((at_law_changed T).up (by decide)) (hf_cons (x := "_law_wrong") rfl ((at_law_wrong T).up (by decide)) (hf_cons (x := "_law_refused") rfl ((at_law_refused T)) (hf_nil))))))) T.con T.blt (T.xt _ _ _ (by decide))) T.xo)
end
theorem all_mk {l : PySem.W.OpenLaw} {w : World} {K : PySem.W.Frag} {h : Heap} {mg : Str → Option Value} {fa f0 f1 f2 f3 f4 f5 f6 f7 f8 f9 f10 f11 f12 f13 f14 f15 f16 f17 f18 f19 f20 f21 f22 f23 f24 f25 f26 O0 y0 y1 g1 cel1 co1 C0 C1 : Addr} (X : K.In h) (G : h.Ns mainGlobals mg) (hfa : mg "law" = some (.ref fa))
    {od0 an0 od1 an1 od2 an2 od3 an3 od4 an4 od5 an5 od6 an6 od7 an7 od8 an8 od9 an9 od10 an10 od11 an11 od12 an12 od13 an13 od14 an14 od15 an15 od16 an16 od17 an17 od18 an18 od19 an19 od20 an20 od21 an21 od22 an22 od23 an23 od24 an24 od25 an25 od26 an26 : Option Addr} {sl0 sl1 sl2 sl3 sl4 sl5 sl6 sl7 sl8 sl9 sl10 sl11 sl12 sl13 sl14 sl15 sl16 sl17 sl18 sl19 sl20 sl21 sl22 sl23 sl24 sl25 sl26 : Array (Option Value)} {oc0 kV0 dc0 pm0 cd0 ct0 oc1 kV1 dc1 pm1 cd1 ct1 oc2 kV2 dc2 pm2 cd2 ct2 oc3 kV3 dc3 pm3 cd3 ct3 oc4 kV4 dc4 pm4 cd4 ct4 oc5 kV5 dc5 pm5 cd5 ct5 oc6 kV6 dc6 pm6 cd6 ct6 oc7 kV7 dc7 pm7 cd7 ct7 oc8 kV8 dc8 pm8 cd8 ct8 oc9 kV9 dc9 pm9 cd9 ct9 oc10 kV10 dc10 pm10 cd10 ct10 oc11 kV11 dc11 pm11 cd11 ct11 oc12 kV12 dc12 pm12 cd12 ct12 oc13 kV13 dc13 pm13 cd13 ct13 oc14 kV14 dc14 pm14 cd14 ct14 oc15 kV15 dc15 pm15 cd15 ct15 oc16 kV16 dc16 pm16 cd16 ct16 oc17 kV17 dc17 pm17 cd17 ct17 oc18 kV18 dc18 pm18 cd18 ct18 oc19 kV19 dc19 pm19 cd19 ct19 oc20 kV20 dc20 pm20 cd20 ct20 oc21 kV21 dc21 pm21 cd21 ct21 oc22 kV22 dc22 pm22 cd22 ct22 oc23 kV23 dc23 pm23 cd23 ct23 oc24 kV24 dc24 pm24 cd24 ct24 oc25 kV25 dc25 pm25 cd25 ct25 oc26 kV26 dc26 pm26 cd26 ct26 : Value}
    (a0 : PySem.W.nsIn K mainGlobals "is_integer" = some (some (.ref f0)))
    (l0 : K.lookup f0 = some ⟨oc0, od0, .func (PySem.W.fnOf "is_integer" "is_integer" (defArgs (topS 6)) (defBody (topS 6)) (defScope (topS 6)) .none kV0 dc0 pm0 an0 cd0 ct0), sl0⟩)
    (c0 : PySem.W.codeIn K cd0 "is_integer" = true) (k0 : PySem.W.keepIn K (.ref f0) = true)
    (a1 : PySem.W.nsIn K mainGlobals "is_string_of" = some (some (.ref f1)))
    (l1 : K.lookup f1 = some ⟨oc1, od1, .func (PySem.W.fnOf "is_string_of" "is_string_of" (defArgs (topS 8)) (defBody (topS 8)) (defScope (topS 8)) .none kV1 dc1 pm1 an1 cd1 ct1), sl1⟩)
    (c1 : PySem.W.codeIn K cd1 "is_string_of" = true) (k1 : PySem.W.keepIn K (.ref f1) = true)
    (a2 : PySem.W.nsIn K mainGlobals "hands_of" = some (some (.ref f2)))
    (l2 : K.lookup f2 = some ⟨oc2, od2, .func (PySem.W.fnOf "hands_of" "hands_of" (defArgs (topS 18)) (defBody (topS 18)) (defScope (topS 18)) .none kV2 dc2 pm2 an2 cd2 ct2), sl2⟩)
    (c2 : PySem.W.codeIn K cd2 "hands_of" = true) (k2 : PySem.W.keepIn K (.ref f2) = true)
    (a3 : PySem.W.nsIn K mainGlobals "_law_dice" = some (some (.ref f3)))
    (l3 : K.lookup f3 = some ⟨oc3, od3, .func (PySem.W.fnOf "_law_dice" "_law_dice" (defArgs (topS 23)) (defBody (topS 23)) (defScope (topS 23)) .none kV3 dc3 pm3 an3 cd3 ct3), sl3⟩)
    (c3 : PySem.W.codeIn K cd3 "_law_dice" = true) (k3 : PySem.W.keepIn K (.ref f3) = true)
    (a4 : PySem.W.nsIn K mainGlobals "_law_draw" = some (some (.ref f4)))
    (l4 : K.lookup f4 = some ⟨oc4, od4, .func (PySem.W.fnOf "_law_draw" "_law_draw" (defArgs (topS 24)) (defBody (topS 24)) (defScope (topS 24)) .none kV4 dc4 pm4 an4 cd4 ct4), sl4⟩)
    (c4 : PySem.W.codeIn K cd4 "_law_draw" = true) (k4 : PySem.W.keepIn K (.ref f4) = true)
    (a5 : PySem.W.nsIn K mainGlobals "_law_is_number" = some (some (.ref f5)))
    (l5 : K.lookup f5 = some ⟨oc5, od5, .func (PySem.W.fnOf "_law_is_number" "_law_is_number" (defArgs (topS 29)) (defBody (topS 29)) (defScope (topS 29)) .none kV5 dc5 pm5 an5 cd5 ct5), sl5⟩)
    (c5 : PySem.W.codeIn K cd5 "_law_is_number" = true) (k5 : PySem.W.keepIn K (.ref f5) = true)
    (a6 : PySem.W.nsIn K mainGlobals "_law_is_word" = some (some (.ref f6)))
    (l6 : K.lookup f6 = some ⟨oc6, od6, .func (PySem.W.fnOf "_law_is_word" "_law_is_word" (defArgs (topS 31)) (defBody (topS 31)) (defScope (topS 31)) .none kV6 dc6 pm6 an6 cd6 ct6), sl6⟩)
    (c6 : PySem.W.codeIn K cd6 "_law_is_word" = true) (k6 : PySem.W.keepIn K (.ref f6) = true)
    (a7 : PySem.W.nsIn K mainGlobals "is_within" = some (some (.ref f7)))
    (l7 : K.lookup f7 = some ⟨oc7, od7, .func (PySem.W.fnOf "is_within" "is_within" (defArgs (topS 7)) (defBody (topS 7)) (defScope (topS 7)) .none kV7 dc7 pm7 an7 cd7 ct7), sl7⟩)
    (c7 : PySem.W.codeIn K cd7 "is_within" = true) (k7 : PySem.W.keepIn K (.ref f7) = true)
    (a8 : PySem.W.nsIn K mainGlobals "is_word" = some (some (.ref f8)))
    (l8 : K.lookup f8 = some ⟨oc8, od8, .func (PySem.W.fnOf "is_word" "is_word" (defArgs (topS 9)) (defBody (topS 9)) (defScope (topS 9)) .none kV8 dc8 pm8 an8 cd8 ct8), sl8⟩)
    (c8 : PySem.W.codeIn K cd8 "is_word" = true) (k8 : PySem.W.keepIn K (.ref f8) = true)
    (a9 : PySem.W.nsIn K mainGlobals "_law_shuffled" = some (some (.ref f9)))
    (l9 : K.lookup f9 = some ⟨oc9, od9, .func (PySem.W.fnOf "_law_shuffled" "_law_shuffled" (defArgs (topS 25)) (defBody (topS 25)) (defScope (topS 25)) .none kV9 dc9 pm9 an9 cd9 ct9), sl9⟩)
    (c9 : PySem.W.codeIn K cd9 "_law_shuffled" = true) (k9 : PySem.W.keepIn K (.ref f9) = true)
    (a10 : PySem.W.nsIn K mainGlobals "_law_item" = some (some (.ref f10)))
    (l10 : K.lookup f10 = some ⟨oc10, od10, .func (PySem.W.fnOf "_law_item" "_law_item" (defArgs (topS 27)) (defBody (topS 27)) (defScope (topS 27)) .none kV10 dc10 pm10 an10 cd10 ct10), sl10⟩)
    (c10 : PySem.W.codeIn K cd10 "_law_item" = true) (k10 : PySem.W.keepIn K (.ref f10) = true)
    (a11 : PySem.W.nsIn K mainGlobals "_law_are_nexts" = some (some (.ref f11)))
    (l11 : K.lookup f11 = some ⟨oc11, od11, .func (PySem.W.fnOf "_law_are_nexts" "_law_are_nexts" (defArgs (topS 30)) (defBody (topS 30)) (defScope (topS 30)) .none kV11 dc11 pm11 an11 cd11 ct11), sl11⟩)
    (c11 : PySem.W.codeIn K cd11 "_law_are_nexts" = true) (k11 : PySem.W.keepIn K (.ref f11) = true)
    (a12 : PySem.W.nsIn K mainGlobals "_law_is_dealing" = some (some (.ref f12)))
    (l12 : K.lookup f12 = some ⟨oc12, od12, .func (PySem.W.fnOf "_law_is_dealing" "_law_is_dealing" (defArgs (topS 33)) (defBody (topS 33)) (defScope (topS 33)) .none kV12 dc12 pm12 an12 cd12 ct12), sl12⟩)
    (c12 : PySem.W.codeIn K cd12 "_law_is_dealing" = true) (k12 : PySem.W.keepIn K (.ref f12) = true)
    (a13 : PySem.W.nsIn K mainGlobals "_law_odd" = some (some (.ref f13)))
    (l13 : K.lookup f13 = some ⟨oc13, od13, .func (PySem.W.fnOf "_law_odd" "_law_odd" (defArgs (topS 35)) (defBody (topS 35)) (defScope (topS 35)) .none kV13 dc13 pm13 an13 cd13 ct13), sl13⟩)
    (c13 : PySem.W.codeIn K cd13 "_law_odd" = true) (k13 : PySem.W.keepIn K (.ref f13) = true)
    (a14 : PySem.W.nsIn K mainGlobals "are_nexts" = some (some (.ref f14)))
    (l14 : K.lookup f14 = some ⟨oc14, od14, .func (PySem.W.fnOf "are_nexts" "are_nexts" (defArgs (topS 12)) (defBody (topS 12)) (defScope (topS 12)) .none kV14 dc14 pm14 an14 cd14 ct14), sl14⟩)
    (c14 : PySem.W.codeIn K cd14 "are_nexts" = true) (k14 : PySem.W.keepIn K (.ref f14) = true)
    (a15 : PySem.W.nsIn K mainGlobals "is_say" = some (some (.ref f15)))
    (l15 : K.lookup f15 = some ⟨oc15, od15, .func (PySem.W.fnOf "is_say" "is_say" (defArgs (topS 13)) (defBody (topS 13)) (defScope (topS 13)) .none kV15 dc15 pm15 an15 cd15 ct15), sl15⟩)
    (c15 : PySem.W.codeIn K cd15 "is_say" = true) (k15 : PySem.W.keepIn K (.ref f15) = true)
    (a16 : PySem.W.nsIn K mainGlobals "is_dealing" = some (some (.ref f16)))
    (l16 : K.lookup f16 = some ⟨oc16, od16, .func (PySem.W.fnOf "is_dealing" "is_dealing" (defArgs (topS 17)) (defBody (topS 17)) (defScope (topS 17)) .none kV16 dc16 pm16 an16 cd16 ct16), sl16⟩)
    (c16 : PySem.W.codeIn K cd16 "is_dealing" = true) (k16 : PySem.W.keepIn K (.ref f16) = true)
    (a17 : PySem.W.nsIn K mainGlobals "is_depth" = some (some (.ref f17)))
    (l17 : K.lookup f17 = some ⟨oc17, od17, .func (PySem.W.fnOf "is_depth" "is_depth" (defArgs (topS 19)) (defBody (topS 19)) (defScope (topS 19)) .none kV17 dc17 pm17 an17 cd17 ct17), sl17⟩)
    (c17 : PySem.W.codeIn K cd17 "is_depth" = true) (k17 : PySem.W.keepIn K (.ref f17) = true)
    (a18 : PySem.W.nsIn K mainGlobals "_law_dealing" = some (some (.ref f18)))
    (l18 : K.lookup f18 = some ⟨oc18, od18, .func (PySem.W.fnOf "_law_dealing" "_law_dealing" (defArgs (topS 26)) (defBody (topS 26)) (defScope (topS 26)) .none kV18 dc18 pm18 an18 cd18 ct18), sl18⟩)
    (c18 : PySem.W.codeIn K cd18 "_law_dealing" = true) (k18 : PySem.W.keepIn K (.ref f18) = true)
    (a19 : PySem.W.nsIn K mainGlobals "_law_is_item" = some (some (.ref f19)))
    (l19 : K.lookup f19 = some ⟨oc19, od19, .func (PySem.W.fnOf "_law_is_item" "_law_is_item" (defArgs (topS 32)) (defBody (topS 32)) (defScope (topS 32)) .none kV19 dc19 pm19 an19 cd19 ct19), sl19⟩)
    (c19 : PySem.W.codeIn K cd19 "_law_is_item" = true) (k19 : PySem.W.keepIn K (.ref f19) = true)
    (a20 : PySem.W.nsIn K mainGlobals "_law_item_changed" = some (some (.ref f20)))
    (l20 : K.lookup f20 = some ⟨oc20, od20, .func (PySem.W.fnOf "_law_item_changed" "_law_item_changed" (defArgs (topS 36)) (defBody (topS 36)) (defScope (topS 36)) .none kV20 dc20 pm20 an20 cd20 ct20), sl20⟩)
    (c20 : PySem.W.codeIn K cd20 "_law_item_changed" = true) (k20 : PySem.W.keepIn K (.ref f20) = true)
    (a21 : PySem.W.nsIn K mainGlobals "is_program_item" = some (some (.ref f21)))
    (l21 : K.lookup f21 = some ⟨oc21, od21, .func (PySem.W.fnOf "is_program_item" "is_program_item" (defArgs (topS 20)) (defBody (topS 20)) (defScope (topS 20)) .none kV21 dc21 pm21 an21 cd21 ct21), sl21⟩)
    (c21 : PySem.W.codeIn K cd21 "is_program_item" = true) (k21 : PySem.W.keepIn K (.ref f21) = true)
    (a22 : PySem.W.nsIn K mainGlobals "_law_program" = some (some (.ref f22)))
    (l22 : K.lookup f22 = some ⟨oc22, od22, .func (PySem.W.fnOf "_law_program" "_law_program" (defArgs (topS 28)) (defBody (topS 28)) (defScope (topS 28)) .none kV22 dc22 pm22 an22 cd22 ct22), sl22⟩)
    (c22 : PySem.W.codeIn K cd22 "_law_program" = true) (k22 : PySem.W.keepIn K (.ref f22) = true)
    (a23 : PySem.W.nsIn K mainGlobals "_law_wrong" = some (some (.ref f23)))
    (l23 : K.lookup f23 = some ⟨oc23, od23, .func (PySem.W.fnOf "_law_wrong" "_law_wrong" (defArgs (topS 34)) (defBody (topS 34)) (defScope (topS 34)) .none kV23 dc23 pm23 an23 cd23 ct23), sl23⟩)
    (c23 : PySem.W.codeIn K cd23 "_law_wrong" = true) (k23 : PySem.W.keepIn K (.ref f23) = true)
    (a24 : PySem.W.nsIn K mainGlobals "_law_changed" = some (some (.ref f24)))
    (l24 : K.lookup f24 = some ⟨oc24, od24, .func (PySem.W.fnOf "_law_changed" "_law_changed" (defArgs (topS 37)) (defBody (topS 37)) (defScope (topS 37)) .none kV24 dc24 pm24 an24 cd24 ct24), sl24⟩)
    (c24 : PySem.W.codeIn K cd24 "_law_changed" = true) (k24 : PySem.W.keepIn K (.ref f24) = true)
    (a25 : PySem.W.nsIn K mainGlobals "_law_refused" = some (some (.ref f25)))
    (l25 : K.lookup f25 = some ⟨oc25, od25, .func (PySem.W.fnOf "_law_refused" "_law_refused" (defArgs (topS 38)) (defBody (topS 38)) (defScope (topS 38)) .none kV25 dc25 pm25 an25 cd25 ct25), sl25⟩)
    (c25 : PySem.W.codeIn K cd25 "_law_refused" = true) (k25 : PySem.W.keepIn K (.ref f25) = true)
    (a26 : PySem.W.nsIn K mainGlobals "law" = some (some (.ref f26)))
    (l26 : K.lookup f26 = some ⟨oc26, od26, .func (PySem.W.fnOf "law" "law" (defArgs (topS 39)) (defBody (topS 39)) (defScope (topS 39)) .none kV26 dc26 pm26 an26 cd26 ct26), sl26⟩)
    (c26 : PySem.W.codeIn K cd26 "law" = true) (k26 : PySem.W.keepIn K (.ref f26) = true)
    (z0 : PySem.W.nsIn K mainGlobals "len" = some none)
    (z1 : PySem.W.nsIn K mainGlobals "abs" = some none)
    (z2 : PySem.W.nsIn K mainGlobals "int" = some none)
    (z3 : PySem.W.nsIn K mainGlobals "sum" = some none)
    (z4 : PySem.W.nsIn K mainGlobals "all" = some none)
    (z5 : PySem.W.nsIn K mainGlobals "any" = some none)
    (z6 : PySem.W.nsIn K mainGlobals "list" = some none)
    (z7 : PySem.W.nsIn K mainGlobals "tuple" = some none)
    (z8 : PySem.W.nsIn K mainGlobals "min" = some none)
    (z9 : PySem.W.nsIn K mainGlobals "max" = some none)
    (z10 : PySem.W.nsIn K mainGlobals "sorted" = some none)
    (z11 : PySem.W.nsIn K mainGlobals "str" = some none)
    (z12 : PySem.W.nsIn K mainGlobals "range" = some none)
    (z13 : PySem.W.nsIn K mainGlobals "enumerate" = some none)
    (z14 : PySem.W.nsIn K mainGlobals "zip" = some none)
    (z15 : PySem.W.nsIn K mainGlobals "isinstance" = some none)
    (z16 : PySem.W.nsIn K mainGlobals "bool" = some none)
    (z17 : PySem.W.nsIn K mainGlobals "dict" = some none)
    (z18 : PySem.W.nsIn K mainGlobals "set" = some none)
    {vt0 : _} (v0 : PySem.W.nsIn K mainGlobals "LETTERS" = some (some (.str ⟨([97, 98, 99] : List Nat).toArray⟩ vt0)))
    {vt1 : _} (v1 : PySem.W.nsIn K mainGlobals "SMALL" = some (some (.str ⟨([97, 98, 99, 100, 101, 102, 103, 104, 105, 106, 107, 108, 109, 110, 111, 112, 113, 114, 115, 116, 117, 118, 119, 120, 121, 122] : List Nat).toArray⟩ vt1)))
    {vt2 : _} (v2 : PySem.W.nsIn K mainGlobals "MOST_ROWS" = some (some (.int 6 vt2)))
    {vt3 : _} (v3 : PySem.W.nsIn K mainGlobals "MOST_ITEMS" = some (some (.int 20000 vt3)))
    {vt4 : _} (v4 : PySem.W.nsIn K mainGlobals "MOST_DEPTH" = some (some (.int 60 vt4)))
    (aC0 : PySem.W.nsIn K mainGlobals "WalkError" = some (some (.ref C0)))
    (bC0 : PySem.W.subIn K (.ref C0) (.type "BaseException") = some true)
    (tC0 : PySem.W.typeIn K (.ref C0) = some (.type "type"))
    (dC0 : PySem.W.hasDictIn K C0 = true)
    (aC1 : PySem.W.nsIn K mainGlobals "BadProgram" = some (some (.ref C1)))
    (bC1 : PySem.W.subIn K (.ref C1) (.type "BaseException") = some true)
    (tC1 : PySem.W.typeIn K (.ref C1) = some (.type "type"))
    (dC1 : PySem.W.hasDictIn K C1 = true)
    (cl1 : (PySem.W.clsIn K C1).isSome = true)
    (uC1 : uniqCls K "BadProgram" = some C1)
    (nC1 : clsNm K C1 = some "BadProgram")
    (hg1 : PySem.W.findIn K (.ref C1) "__getattribute__" = some (some (.builtin "BaseException.__getattribute__")))
    (hk1 : PySem.W.findIn K (.ref C1) "__getattr__" = some none)
    (ha1 : PySem.W.findIn K (.ref C1) "__class__" = some (some (.builtin "object.__class__")))
    (hm1 : PySem.W.mroIn K C1 (.type "object") = some true)
    (rC1 : PySem.W.subIn K (.ref C1) (.ref C1) = some true)
    {oI1 ocd1 doc1 pmI1 ctI1 occ1 : Value} {dI1 odI1 occd1 : Option Addr} {slI1 slc1 occs1 : Array (Option Value)} {vs1 : Array Value} {file1 : Str} {tf1 : Tok}
    {nmC1 qC1 : Str} {NC1 : Addr} {bs1 bm1 : List Value} {sn1 : List Str} {sub1 : List Value} {ab1 : Bool} {col1 : Option Bool} {ddC1 : Option Addr} {kz1 ky1 kx1 kw1 kv1 : Option Value}
    (iC1 : PySem.W.findIn K (.ref C1) "__init__" = some (some (.ref g1)))
    (tI1 : PySem.W.typeIn K (.ref g1) = some (.type "function"))
    (lI1 : K.lookup g1 = some ⟨oI1, dI1, .func (PySem.W.fnX "__init__" "BadProgram.__init__" (defArgs (inCls (topS 2) 0)) (defBody (inCls (topS 2) 0)) (defScope (inCls (topS 2) 0)) [(("__class__" : Str), cel1)] .none .none doc1 pmI1 none (.ref co1) ctI1), slI1⟩)
    (cI1 : PySem.W.codeIn K (.ref co1) "BadProgram.__init__" = true)
    (ce1 : K.lookup cel1 = some ⟨ocd1, odI1, .cell (some (.ref C1)), slc1⟩)
    (coI1 : K.lookup co1 = some ⟨occ1, occd1, .fields vs1, occs1⟩)
    (fi1 : vs1[2]? = some (.str file1 tf1))
    (fe1 : (l.prog.main.file == file1) = true)
    (sa1 : PySem.W.findIn K (.ref C1) "__setattr__" = some (some (.builtin "object.__setattr__")))
    (lC1 : K.lookup C1 = some (excClassObj nmC1 qC1 C1 NC1 bs1 bm1 true sn1 sub1 ab1 col1 ddC1 kz1 ky1 kx1 kw1 kv1 "ValueError.__new__"))
    (rv1 : PySem.HandSPX.refsVE bm1 = true)
    (kC1 : PySem.W.keepIn K (.ref C1) = true)
    (sv1 : PySem.W.subIn K (.ref C1) (.type "ValueError") = some true)
    (su1 : PySem.W.ks_superIn K C1 C1 "__init__" = some (some (.builtin "ValueError.__init__")))
    (ex1 : PySem.W.excInitIn K C1 bmVE "ValueError.__new__" = true)
    (fd1 : PySem.W.findIn K (.ref C1) "part" = some none)
    (oaC0 : PySem.W.nsIn K mainGlobals "Program" = some (some (.ref O0)))
    (opg0 : PySem.W.plainGet K O0 Str.empty = true)
    (ohd0 : PySem.W.hasDictIn K O0 = true)
    (opo0 : PySem.W.plainOver K O0 = true)
    (osa0 : PySem.W.findIn K (.ref O0) "__setattr__" = some (some (.builtin "object.__setattr__")))
    (omk0 : PySem.W.makesIn K O0 = true)
    (okc0 : PySem.W.keepIn K (.ref O0) = true)
    (ouC0 : uniqCls K "Program" = some O0)
    (onC0 : clsNm K O0 = some "Program")
    (onf0rows : PySem.W.findIn K (.ref O0) "rows" = some none)
    (onf0letters : PySem.W.findIn K (.ref O0) "letters" = some none)
    (onf0dealing : PySem.W.findIn K (.ref O0) "dealing" = some none)
    (onf0depth : PySem.W.findIn K (.ref O0) "depth" = some none)
    (onf0table : PySem.W.findIn K (.ref O0) "table" = some none)
    {yod0 yan0 : Option Addr} {ysl0 : Array (Option Value)} {yoc0 ykV0 ydc0 ypm0 ycd0 yct0 : Value}
    (ya0 : PySem.W.findIn K (.ref O0) "keep" = some (some (.ref y0)))
    (yi0 : PySem.W.isFn K (.ref y0) = true)
    (yl0 : K.lookup y0 = some ⟨yoc0, yod0, .func (PySem.W.fnOf "keep" "Program.keep" (defArgs (inCls (topS 21) 1)) (defBody (inCls (topS 21) 1)) (defScope (inCls (topS 21) 1)) .none ykV0 ydc0 ypm0 yan0 ycd0 yct0), ysl0⟩)
    (yc0 : PySem.W.codeIn K ycd0 "Program.keep" = true)
    (yk0 : PySem.W.keepIn K (.ref y0) = true)
    {yod1 yan1 : Option Addr} {ysl1 : Array (Option Value)} {yoc1 ykV1 ydc1 ypm1 ycd1 yct1 : Value}
    (ya1 : PySem.W.findIn K (.ref O0) "__init__" = some (some (.ref y1)))
    (yi1 : PySem.W.isFn K (.ref y1) = true)
    (yl1 : K.lookup y1 = some ⟨yoc1, yod1, .func (PySem.W.fnOf "__init__" "Program.__init__" (defArgs (inCls (topS 21) 0)) (defBody (inCls (topS 21) 0)) (defScope (inCls (topS 21) 0)) .none ykV1 ydc1 ypm1 yan1 ycd1 yct1), ysl1⟩)
    (yc1 : PySem.W.codeIn K ycd1 "Program.__init__" = true)
    (yk1 : PySem.W.keepIn K (.ref y1) = true)
    (q0x0 : PySem.W.subIn K (.ref C0) (.ref C0) = some true)
    (q0x1 : PySem.W.subIn K (.ref C0) (.ref C1) = some false)
    (q1x0 : PySem.W.subIn K (.ref C1) (.ref C0) = some true)
    (q1x1 : PySem.W.subIn K (.ref C1) (.ref C1) = some true)
    (hn : PySem.W.specialIn K (.builtin "object.__class__") "__get__" = some (some (.builtin "getset_descriptor.__get__")))
    (ht : PySem.W.takesIn K (.builtin "object.__class__") = some true)
    (opq : PySem.W.nsIn K cStatics "thirdparty.any" = some none)
    (zsup : PySem.W.nsIn K mainGlobals "super" = some none)
    (zve : PySem.W.nsIn K mainGlobals "ValueError" = some none)
    (nsup : (l.prog.main.scope.names.lookup ("super" : Str)).isSome = false)
    : LawFd l w K mg fa 10 := by
  have e := hfa.symm.trans (PySem.W.mg_of X G a26)
  cases e
  have F0 := fun_mk (st := topS 6) l0 c0 k0
  have F1 := fun_mk (st := topS 8) l1 c1 k1
  have F2 := fun_mk (st := topS 18) l2 c2 k2
  have F3 := fun_mk (st := topS 23) l3 c3 k3
  have F4 := fun_mk (st := topS 24) l4 c4 k4
  have F5 := fun_mk (st := topS 29) l5 c5 k5
  have F6 := fun_mk (st := topS 31) l6 c6 k6
  have F7 := fun_mk (st := topS 7) l7 c7 k7
  have F8 := fun_mk (st := topS 9) l8 c8 k8
  have F9 := fun_mk (st := topS 25) l9 c9 k9
  have F10 := fun_mk (st := topS 27) l10 c10 k10
  have F11 := fun_mk (st := topS 30) l11 c11 k11
  have F12 := fun_mk (st := topS 33) l12 c12 k12
  have F13 := fun_mk (st := topS 35) l13 c13 k13
  have F14 := fun_mk (st := topS 12) l14 c14 k14
  have F15 := fun_mk (st := topS 13) l15 c15 k15
  have F16 := fun_mk (st := topS 17) l16 c16 k16
  have F17 := fun_mk (st := topS 19) l17 c17 k17
  have F18 := fun_mk (st := topS 26) l18 c18 k18
  have F19 := fun_mk (st := topS 32) l19 c19 k19
  have F20 := fun_mk (st := topS 36) l20 c20 k20
  have F21 := fun_mk (st := topS 20) l21 c21 k21
  have F22 := fun_mk (st := topS 28) l22 c22 k22
  have F23 := fun_mk (st := topS 34) l23 c23 k23
  have F24 := fun_mk (st := topS 37) l24 c24 k24
  have F25 := fun_mk (st := topS 38) l25 c25 k25
  have F26 := fun_mk (st := topS 39) l26 c26 k26
  have Y0 := fun_mk (st := (inCls (topS 21) 1)) yl0 yc0 yk0
  have Y1 := fun_mk (st := (inCls (topS 21) 0)) yl1 yc1 yk1
  have T : Txt l.prog K mg (caL [(27, C0), (28, C1)]) := {
    s_is_integer := stands_mk (PySem.W.mg_of X G a0) F0 (F0.binds (ps := ["thing"]) fun _ _ _ _ _ _ us hl => match us, hl with | [_], _ => rfl)
    s_is_string_of := stands_mk (PySem.W.mg_of X G a1) F1 (F1.binds (ps := ["thing", "signs"]) fun _ _ _ _ _ _ us hl => match us, hl with | [_, _], _ => rfl)
    s_hands_of := stands_mk (PySem.W.mg_of X G a2) F2 (F2.binds (ps := ["dealing"]) fun _ _ _ _ _ _ us hl => match us, hl with | [_], _ => rfl)
    s_law_dice := stands_mk (PySem.W.mg_of X G a3) F3 (F3.binds (ps := ["_law_script"]) fun _ _ _ _ _ _ us hl => match us, hl with | [_], _ => rfl)
    s_law_draw := stands_mk (PySem.W.mg_of X G a4) F4 (F4.binds (ps := ["_law_dice_here", "_law_sides"]) fun _ _ _ _ _ _ us hl => match us, hl with | [_, _], _ => rfl)
    s_law_is_number := stands_mk (PySem.W.mg_of X G a5) F5 (F5.binds (ps := ["_law_thing", "_law_least", "_law_most"]) fun _ _ _ _ _ _ us hl => match us, hl with | [_, _, _], _ => rfl)
    s_law_is_word := stands_mk (PySem.W.mg_of X G a6) F6 (F6.binds (ps := ["_law_thing"]) fun _ _ _ _ _ _ us hl => match us, hl with | [_], _ => rfl)
    s_is_within := stands_mk (PySem.W.mg_of X G a7) F7 (F7.binds (ps := ["thing", "least", "most"]) fun _ _ _ _ _ _ us hl => match us, hl with | [_, _, _], _ => rfl)
    s_is_word := stands_mk (PySem.W.mg_of X G a8) F8 (F8.binds (ps := ["thing"]) fun _ _ _ _ _ _ us hl => match us, hl with | [_], _ => rfl)
    s_law_shuffled := stands_mk (PySem.W.mg_of X G a9) F9 (F9.binds (ps := ["_law_dice_here", "_law_items"]) fun _ _ _ _ _ _ us hl => match us, hl with | [_, _], _ => rfl)
    s_law_item := stands_mk (PySem.W.mg_of X G a10) F10 (F10.binds (ps := ["_law_dice_here", "_law_rows", "_law_letters", "_law_hands", "_law_size", "_law_kind"]) fun _ _ _ _ _ _ us hl => match us, hl with | [_, _, _, _, _, _], _ => rfl)
    s_law_are_nexts := stands_mk (PySem.W.mg_of X G a11) F11 (F11.binds (ps := ["_law_thing", "_law_letters", "_law_many"]) fun _ _ _ _ _ _ us hl => match us, hl with | [_, _, _], _ => rfl)
    s_law_is_dealing := stands_mk (PySem.W.mg_of X G a12) F12 (F12.binds (ps := ["_law_thing", "_law_rows"]) fun _ _ _ _ _ _ us hl => match us, hl with | [_, _], _ => rfl)
    s_law_odd := stands_mk (PySem.W.mg_of X G a13) F13 (F13.binds (ps := ["_law_dice_here", "_law_near"]) fun _ _ _ _ _ _ us hl => match us, hl with | [_, _], _ => rfl)
    s_are_nexts := stands_mk (PySem.W.mg_of X G a14) F14 (F14.binds (ps := ["thing", "letters", "many"]) fun _ _ _ _ _ _ us hl => match us, hl with | [_, _, _], _ => rfl)
    s_is_say := stands_mk (PySem.W.mg_of X G a15) F15 (F15.binds (ps := ["thing", "many"]) fun _ _ _ _ _ _ us hl => match us, hl with | [_, _], _ => rfl)
    s_is_dealing := stands_mk (PySem.W.mg_of X G a16) F16 (F16.binds (ps := ["rows", "thing"]) fun _ _ _ _ _ _ us hl => match us, hl with | [_, _], _ => rfl)
    s_is_depth := stands_mk (PySem.W.mg_of X G a17) F17 (F17.binds (ps := ["thing", "dealing"]) fun _ _ _ _ _ _ us hl => match us, hl with | [_, _], _ => rfl)
    s_law_dealing := stands_mk (PySem.W.mg_of X G a18) F18 (F18.binds (ps := ["_law_dice_here", "_law_rows"]) fun _ _ _ _ _ _ us hl => match us, hl with | [_, _], _ => rfl)
    s_law_is_item := stands_mk (PySem.W.mg_of X G a19) F19 (F19.binds (ps := ["_law_thing", "_law_dealing_here", "_law_letters", "_law_many"]) fun _ _ _ _ _ _ us hl => match us, hl with | [_, _, _, _], _ => rfl)
    s_law_item_changed := stands_mk (PySem.W.mg_of X G a20) F20 (F20.binds (ps := ["_law_dice_here", "_law_item_here"]) fun _ _ _ _ _ _ us hl => match us, hl with | [_, _], _ => rfl)
    s_is_program_item := stands_mk (PySem.W.mg_of X G a21) F21 (F21.binds (ps := ["thing", "dealing", "letters", "many"]) fun _ _ _ _ _ _ us hl => match us, hl with | [_, _, _, _], _ => rfl)
    s_law_program := stands_mk (PySem.W.mg_of X G a22) F22 (F22.binds (ps := ["_law_dice_here", "_law_most"]) fun _ _ _ _ _ _ us hl => match us, hl with | [_, _], _ => rfl)
    s_law_wrong := stands_mk (PySem.W.mg_of X G a23) F23 (F23.binds (ps := ["_law_spec"]) fun _ _ _ _ _ _ us hl => match us, hl with | [_], _ => rfl)
    s_law_changed := stands_mk (PySem.W.mg_of X G a24) F24 (F24.binds (ps := ["_law_dice_here", "_law_spec"]) fun _ _ _ _ _ _ us hl => match us, hl with | [_, _], _ => rfl)
    s_law_refused := stands_mk (PySem.W.mg_of X G a25) F25 (F25.binds (ps := ["_law_spec"]) fun _ _ _ _ _ _ us hl => match us, hl with | [_], _ => rfl)
    s_law := stands_mk (PySem.W.mg_of X G a26) F26 (F26.binds (ps := ["_law_script"]) fun _ _ _ _ _ _ us hl => match us, hl with | [_], _ => rfl)
    o_Program_keep := fun C hC => by cases uniq_of ouC0 hC; exact ⟨y0, ⟨opg0, ohd0, opo0, osa0⟩, ⟨ya0, yi0, yk0⟩, ⟨_, Y0, Y0.binds (ps := ["self", "rows", "letters", "dealing", "depth", "table"]) fun _ _ _ _ _ _ us hl => match us, hl with | [_, _, _, _, _, _], _ => rfl⟩⟩
    o_Program := ⟨O0, y1, ⟨omk0, ya1, yi1, okc0⟩, PySem.W.mg_of X G oaC0, onC0, ⟨_, Y1, Y1.binds (ps := ["self", "rows", "letters", "dealing", "depth", "table"]) fun _ _ _ _ _ _ us hl => match us, hl with | [_, _, _, _, _, _], _ => rfl⟩⟩
    of_Program := fun C hC => by cases uniq_of ouC0 hC; exact ⟨⟨opg0, ohd0, opo0, osa0⟩, onf0rows, onf0letters, onf0dealing, onf0depth, onf0table⟩
    con := all_cons (con1 rfl (con_str (s := [97, 98, 99]) ⟨_, PySem.W.mg_of X G v0⟩ (by decide) (by decide))) (all_cons (con1 rfl (con_str (s := [97, 98, 99, 100, 101, 102, 103, 104, 105, 106, 107, 108, 109, 110, 111, 112, 113, 114, 115, 116, 117, 118, 119, 120, 121, 122]) ⟨_, PySem.W.mg_of X G v1⟩ (by decide) (by decide))) (all_cons (con1 rfl (con_int ⟨_, PySem.W.mg_of X G v2⟩)) (all_cons (con1 rfl (con_int ⟨_, PySem.W.mg_of X G v3⟩)) (all_cons (con1 rfl (con_int ⟨_, PySem.W.mg_of X G v4⟩)) (all_nil)))))
    blt := all_cons (PySem.W.mg_none_of X G z0) (all_cons (PySem.W.mg_none_of X G z1) (all_cons (PySem.W.mg_none_of X G z2) (all_cons (PySem.W.mg_none_of X G z3) (all_cons (PySem.W.mg_none_of X G z4) (all_cons (PySem.W.mg_none_of X G z5) (all_cons (PySem.W.mg_none_of X G z6) (all_cons (PySem.W.mg_none_of X G z7) (all_cons (PySem.W.mg_none_of X G z8) (all_cons (PySem.W.mg_none_of X G z9) (all_cons (PySem.W.mg_none_of X G z10) (all_cons (PySem.W.mg_none_of X G z11) (all_cons (PySem.W.mg_none_of X G z12) (all_cons (PySem.W.mg_none_of X G z13) (all_cons (PySem.W.mg_none_of X G z14) (all_cons (PySem.W.mg_none_of X G z15) (all_cons (PySem.W.mg_none_of X G z16) (all_cons (PySem.W.mg_none_of X G z17) (all_cons (PySem.W.mg_none_of X G z18) (all_nil)))))))))))))))))))
    xt := fun w base lv h2 => ⟨all_cons (fun x e => by cases e; exact ⟨h2, C1, g1, _, ["self", "part"], ⟨⟨_, _, _, _, _, _, _, _, _, _, _, _, _, _, _, lC1, rv1⟩, sa1, bC1, tC1, kC1⟩, iC1, tI1, init_ok (sup_of (P := l.prog) (mg := mg) (st := (inCls (topS 2) 0)) (slf := "self") (part := "part") (fld := "part") (by decide +kernel) lI1 cI1 ce1 coI1 fi1 fe1 nsup (PySem.W.mg_none_of X G zsup) ⟨⟨_, _, _, _, _, _, _, _, _, _, _, _, _, _, _, lC1, rv1⟩, sa1, bC1, tC1, kC1⟩ rC1 sv1 su1 opq ex1 fd1), Binds.all (fun us hl => match us, hl with | [_, _], _ => rfl), PySem.W.mg_of X G aC1, nC1, rfl⟩) (all_nil), all_cons (fun x e => by cases e; exact ⟨.ref C1, .ref C1, .own _, rfl, (.inl (PySem.W.mg_of X G aC1)), all_cons (fun C hC => by cases uniq_of uC1 hC; exact ⟨ec_mk cl1 hg1 hk1 bC1 dC1 ha1 hn ht hm1, kit_own rC1 rC1 cl1 tC1⟩) (all_nil)⟩) (all_cons (fun x e => by cases e; exact ⟨.ty "ValueError", .type "ValueError", .ty _, rfl, .inr ⟨PySem.W.mg_none_of X G zve, by decide +kernel⟩, all_cons (fun C hC => by cases uniq_of uC1 hC; exact ⟨ec_mk cl1 hg1 hk1 bC1 dC1 ha1 hn ht hm1, kit_blt (T := "ValueError") (by decide +kernel) sv1⟩) (all_nil)⟩) (all_nil)), all_cons (fun C hC => by cases uniq_of uC1 hC; exact ⟨⟨hg1, hk1, bC1, dC1⟩, fd1⟩) (all_nil)⟩
    xo := xok_of (all_nil) (all_cons (all_cons (PySem.W.exm_ref bC0 dC0 tC0 q0x0) (all_cons (PySem.W.exm_ref bC1 dC1 tC1 q0x1) (all_nil))) (all_cons (all_cons (PySem.W.exm_ref bC0 dC0 tC0 q1x0) (all_cons (PySem.W.exm_ref bC1 dC1 tC1 q1x1) (all_nil))) (all_nil))) (all_cons ⟨"WalkError", rfl, PySem.W.mg_of X G aC0⟩ (all_cons ⟨"BadProgram", rfl, PySem.W.mg_of X G aC1⟩ (all_nil))) }
  exact ⟨_, fun s u => .of_eq rfl, fun base _ _ => law_end (x := "law") (def_fn (G := G_law) F26 sc_law m_law (gok_of (hf_cons (x := "_law_dice") rfl ((at_law_dice T).up (by decide)) (hf_cons (x := "_law_draw") rfl ((at_law_draw T).up (by decide)) (hf_cons (x := "_law_program") rfl ((at_law_program T).up (by decide)) (hf_cons (x := "_law_changed") rfl ((at_law_changed T).up (by decide)) (hf_cons (x := "_law_wrong") rfl ((at_law_wrong T).up (by decide)) (hf_cons (x := "_law_refused") rfl ((at_law_refused T)) (hf_nil))))))) T.con T.blt (T.xt _ _ _ (by decide))) T.xo) law_plain⟩
end Z9
open PySem PySem.W PyProof.Rows
set_option maxRecDepth 100000 in
set_option maxHeartbeats 0 in
theorem PySem.Challenge.cw_wholewalks_k16_programs_judged_holds : PySem.Challenge.rw_wholewalks_k16_programs_judged.Holds := by
  w_on; o_law; k_head; (case hw => w_witness2)
  k_fill
  refine Z9.walk_k (k := 10) (l := PySem.Challenge.rw_wholewalks_k16_programs_judged) ⟨rfl, by decide, by decide⟩ rfl rfl (fun w h Y => PySem.W.kIn_of Y) ?F
  case F =>
    intro w mg fa h KX G hmg
    refine' Z9.all_mk KX G hmg ?a0 ?l0 ?c0 ?k0 ?a1 ?l1 ?c1 ?k1 ?a2 ?l2 ?c2 ?k2 ?a3 ?l3 ?c3 ?k3 ?a4 ?l4 ?c4 ?k4 ?a5 ?l5 ?c5 ?k5 ?a6 ?l6 ?c6 ?k6 ?a7 ?l7 ?c7 ?k7 ?a8 ?l8 ?c8 ?k8 ?a9 ?l9 ?c9 ?k9 ?a10 ?l10 ?c10 ?k10 ?a11 ?l11 ?c11 ?k11 ?a12 ?l12 ?c12 ?k12 ?a13 ?l13 ?c13 ?k13 ?a14 ?l14 ?c14 ?k14 ?a15 ?l15 ?c15 ?k15 ?a16 ?l16 ?c16 ?k16 ?a17 ?l17 ?c17 ?k17 ?a18 ?l18 ?c18 ?k18 ?a19 ?l19 ?c19 ?k19 ?a20 ?l20 ?c20 ?k20 ?a21 ?l21 ?c21 ?k21 ?a22 ?l22 ?c22 ?k22 ?a23 ?l23 ?c23 ?k23 ?a24 ?l24 ?c24 ?k24 ?a25 ?l25 ?c25 ?k25 ?a26 ?l26 ?c26 ?k26 ?z0 ?z1 ?z2 ?z3 ?z4 ?z5 ?z6 ?z7 ?z8 ?z9 ?z10 ?z11 ?z12 ?z13 ?z14 ?z15 ?z16 ?z17 ?z18 ?v0 ?v1 ?v2 ?v3 ?v4 ?aC0 ?bC0 ?tC0 ?dC0 ?aC1 ?bC1 ?tC1 ?dC1 ?cl1 ?uC1 ?nC1 ?hg1 ?hk1 ?ha1 ?hm1 ?rC1 ?iC1 ?tI1 ?lI1 ?cI1 ?ce1 ?coI1 ?fi1 ?fe1 ?sa1 ?lC1 ?rv1 ?kC1 ?sv1 ?su1 ?ex1 ?fd1 ?oaC0 ?opg0 ?ohd0 ?opo0 ?osa0 ?omk0 ?okc0 ?ouC0 ?onC0 ?onf0rows ?onf0letters ?onf0dealing ?onf0depth ?onf0table ?ya0 ?yi0 ?yl0 ?yc0 ?yk0 ?ya1 ?yi1 ?yl1 ?yc1 ?yk1 ?q0x0 ?q0x1 ?q1x0 ?q1x1 ?hn ?ht ?opq ?zsup ?zve ?nsup
    (case a0 => k_is)
    (case l0 => k_is)
    (case c0 => k_is)
    (case k0 => k_is)
    (case a1 => k_is)
    (case l1 => k_is)
    (case c1 => k_is)
    (case k1 => k_is)
    (case a2 => k_is)
    (case l2 => k_is)
    (case c2 => k_is)
    (case k2 => k_is)
    (case a3 => k_is)
    (case l3 => k_is)
    (case c3 => k_is)
    (case k3 => k_is)
    (case a4 => k_is)
    (case l4 => k_is)
    (case c4 => k_is)
    (case k4 => k_is)
    (case a5 => k_is)
    (case l5 => k_is)
    (case c5 => k_is)
    (case k5 => k_is)
    (case a6 => k_is)
    (case l6 => k_is)
    (case c6 => k_is)
    (case k6 => k_is)
    (case a7 => k_is)
    (case l7 => k_is)
    (case c7 => k_is)
    (case k7 => k_is)
    (case a8 => k_is)
    (case l8 => k_is)
    (case c8 => k_is)
    (case k8 => k_is)
    (case a9 => k_is)
    (case l9 => k_is)
    (case c9 => k_is)
    (case k9 => k_is)
    (case a10 => k_is)
    (case l10 => k_is)
    (case c10 => k_is)
    (case k10 => k_is)
    (case a11 => k_is)
    (case l11 => k_is)
    (case c11 => k_is)
    (case k11 => k_is)
    (case a12 => k_is)
    (case l12 => k_is)
    (case c12 => k_is)
    (case k12 => k_is)
    (case a13 => k_is)
    (case l13 => k_is)
    (case c13 => k_is)
    (case k13 => k_is)
    (case a14 => k_is)
    (case l14 => k_is)
    (case c14 => k_is)
    (case k14 => k_is)
    (case a15 => k_is)
    (case l15 => k_is)
    (case c15 => k_is)
    (case k15 => k_is)
    (case a16 => k_is)
    (case l16 => k_is)
    (case c16 => k_is)
    (case k16 => k_is)
    (case a17 => k_is)
    (case l17 => k_is)
    (case c17 => k_is)
    (case k17 => k_is)
    (case a18 => k_is)
    (case l18 => k_is)
    (case c18 => k_is)
    (case k18 => k_is)
    (case a19 => k_is)
    (case l19 => k_is)
    (case c19 => k_is)
    (case k19 => k_is)
    (case a20 => k_is)
    (case l20 => k_is)
    (case c20 => k_is)
    (case k20 => k_is)
    (case a21 => k_is)
    (case l21 => k_is)
    (case c21 => k_is)
    (case k21 => k_is)
    (case a22 => k_is)
    (case l22 => k_is)
    (case c22 => k_is)
    (case k22 => k_is)
    (case a23 => k_is)
    (case l23 => k_is)
    (case c23 => k_is)
    (case k23 => k_is)
    (case a24 => k_is)
    (case l24 => k_is)
    (case c24 => k_is)
    (case k24 => k_is)
    (case a25 => k_is)
    (case l25 => k_is)
    (case c25 => k_is)
    (case k25 => k_is)
    (case a26 => k_is)
    (case l26 => k_is)
    (case c26 => k_is)
    (case k26 => k_is)
    (case z0 => k_is)
    (case z1 => k_is)
    (case z2 => k_is)
    (case z3 => k_is)
    (case z4 => k_is)
    (case z5 => k_is)
    (case z6 => k_is)
    (case z7 => k_is)
    (case z8 => k_is)
    (case z9 => k_is)
    (case z10 => k_is)
    (case z11 => k_is)
    (case z12 => k_is)
    (case z13 => k_is)
    (case z14 => k_is)
    (case z15 => k_is)
    (case z16 => k_is)
    (case z17 => k_is)
    (case z18 => k_is)
    (case v0 => k_is)
    (case v1 => k_is)
    (case v2 => k_is)
    (case v3 => k_is)
    (case v4 => k_is)
    (case aC0 => k_is)
    (case bC0 => k_is)
    (case tC0 => k_is)
    (case dC0 => k_is)
    (case aC1 => k_is)
    (case bC1 => k_is)
    (case tC1 => k_is)
    (case dC1 => k_is)
    (case cl1 => first | k_is | rfl)
    (case uC1 => first | k_is | rfl)
    (case nC1 => first | k_is | rfl)
    (case hg1 => k_is)
    (case hk1 => k_is)
    (case ha1 => k_is)
    (case hm1 => k_is)
    (case rC1 => k_is)
    (case iC1 => k_is)
    (case tI1 => k_is)
    (case lI1 => k_is)
    (case cI1 => k_is)
    (case ce1 => k_is)
    (case coI1 => k_is)
    (case fi1 => rfl)
    (case fe1 => first | rfl | decide +kernel)
    (case sa1 => k_is)
    (case lC1 => k_is)
    (case rv1 => first | rfl | decide +kernel)
    (case kC1 => k_is)
    (case sv1 => k_is)
    (case su1 => first | k_is | rfl)
    (case ex1 => first | k_is | rfl)
    (case fd1 => k_is)
    (case oaC0 => k_is)
    (case opg0 => k_is)
    (case ohd0 => k_is)
    (case opo0 => k_is)
    (case osa0 => k_is)
    (case omk0 => k_is)
    (case okc0 => k_is)
    (case ouC0 => first | k_is | rfl)
    (case onC0 => first | k_is | rfl)
    (case onf0rows => k_is)
    (case onf0letters => k_is)
    (case onf0dealing => k_is)
    (case onf0depth => k_is)
    (case onf0table => k_is)
    (case ya0 => k_is)
    (case yi0 => k_is)
    (case yl0 => k_is)
    (case yc0 => k_is)
    (case yk0 => k_is)
    (case ya1 => k_is)
    (case yi1 => k_is)
    (case yl1 => k_is)
    (case yc1 => k_is)
    (case yk1 => k_is)
    (case q0x0 => first | rfl | k_is)
    (case q0x1 => first | rfl | k_is)
    (case q1x0 => first | rfl | k_is)
    (case q1x1 => first | rfl | k_is)
    (case hn => k_is)
    (case ht => k_is)
    (case opq => k_is)
    (case zsup => k_is)
    (case zve => k_is)
    (case nsup => first | rfl | decide +kernel)
#print axioms PySem.Challenge.cw_wholewalks_k16_programs_judged_holds

