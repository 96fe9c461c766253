import PyProof.Rows.All
import Wide.All
import OpenK.AllK
import Wide.FinOn
import HandS.ExcInit
import HandS.ExcSuper
import HandS.NestedK
import KE.KExcSuper
import HandS.ForMost
import HandS.Exc
import HandS.CallSlots
import HandS.StrMore
import HandS.FStr
import HandS.Flow
import HandS.IsInst
import HandS.Wide
import HandS.Deep
import HandS.Zip
import HandS.ExcIs
import HandS.ExcField
import KE.KExcIs
import HandS.WordsExc
import PySem.Challenge.RW_everylater_k01_each_bad_text
set_option Elab.async false
set_option linter.all false
set_option maxRecDepth  100000
set_option maxHeartbeats  8000000
set_option exponentiation.threshold  1000
/-! DP.Super: super().__init__(text) in an own exception's __init__, under the hand layer. -/
namespace DP
open PySem PySem.Spec PyProof.Rows L2 NdefX
/-- what stands fast of such an __init__: its function f, its code's file, the cell of its class D -/
structure SupC (P : Program) (K : PySem.W.Frag) (env : Env) (f cda cc D : Addr) (first : Str) : Prop where
  fn : env.func = some f
  code : env.code = .ref cda
  fd : ∃ oc od fd osl ar, K.lookup f = some ⟨oc, od, .func fd, osl⟩ ∧ (fd.params.posonlyargs ++ fd.params.args).head? = some ar ∧ ar.arg = first
  file : ∃ ccl cdd vs ccs file tf, K.lookup cda = some ⟨ccl, cdd, .fields vs, ccs⟩ ∧ vs[2]? = some (.str file tf) ∧ ((P.main.file : Str) == file) = true
  cell : ∃ cl cld csl, K.lookup cc = some ⟨cl, cld, .cell (some (.ref D)), csl⟩
  cellE : env.cells.lookup ("__class__" : Str) = some cc
  sup : env.kindOf "super" = some .globalImplicit
  cls : env.kindOf "__class__" = some .free
  slf : env.kindOf first = some .local
  kind : env.scope.kind = .function
  glb : env.globals = mainGlobals
  blt : env.builtins = builtinsNs
  top : (P.main.scope.names.lookup ("super" : Str)).isSome = false
  any : PySem.W.nsIn K cStatics "thirdparty.any" = some none
  mro : ∃ cd, PySem.W.clsIn K D = some cd ∧ PySem.W.alongIn K "__init__" ((cd.mro.dropWhile (· != .ref D)).drop 1) = some (some (.builtin "ValueError.__init__"))
  own : PySem.W.mroIn K D (.ref D) = some true
  ve : PySem.W.subIn K (.ref D) (.type "ValueError") = some true
section
variable {X : Cx} {pins : List (Addr × Obj)} {σ : L2.St} {H : Hp} {s : Shared} {f cda cc D a : Addr} {first : Str} {body : List Stmt} {p0 p1 p2 p3 p4 p5 : Pos} {lit : Str} {E : Value → Shared → Prop}
theorem super_step (T : OexC X.K D) (S : SupC X.prog X.K X.env f cda cc D first) (I : Inv X pins σ H s) (hN : X.N[0]? = some first) (hσ : σ[0]? = some (some (.ref a))) (ha : H a = some (exo a D none)) (hm : X.mg "super" = none)
    {c : Expr} (hc : ∀ (Q : Value → Shared → Prop) (s : Shared), (∀ t k, Q (.str lit t) { s with toks := k }) → wpAny (model X.prog X.w) X.A (eval c X.env) Q E s)
    {Q : Flow → Shared → Prop} (h : ∀ s', Inv X pins σ H s' → Q .next s')
    (he : eval (.Call (.Attribute (.Call (.Name "super" p0) [] [] p1) "__init__" p2) [c] [] p4) X.env = (do
      let ov ← attributeBase (.Call (.Name "super" p0) [] [] p1) "__init__" X.env (eval (.Call (.Name "super" p0) [] [] p1) X.env)
      standAt p2.atName
      let (f, first) ← holding [ov] (getMethod ov "__init__" (pure false))
      callWith p4 f first (backTo p4 (starEach [c] X.env)) []))
    (hst : starEach [c] X.env = [(false, eval c X.env)]) (hi : interactive X.env = false) (hsw : swapsWith (.Call (.Attribute (.Call (.Name "super" p0) [] [] p1) "__init__" p2) [c] [] p4) none p5.line X.env = pure false) :
    _root_.PySem.wpAt (model X.prog X.w) X.A (.func body X.env) (PySem.exec (.Expr (.Call (.Attribute (.Call (.Name "super" p0) [] [] p1) "__init__" p2) [c] [] p4) p5) X.env) Q E s := by
  obtain ⟨oc, od, fd, osl, ar, hf, hp, rfl⟩ := S.fd
  obtain ⟨ccl, cdd, vs, ccs, file, tf, hcda, hvs, hfile⟩ := S.file
  obtain ⟨cl, cld, csl, hcell⟩ := S.cell
  obtain ⟨cd, hcd, hal⟩ := S.mro
  have KI := I.kIn
  refine PySem.ks_wpAt_Expr_any (PySem.ks_wpAt_MethodCall (pl := pure false) (PySem.ks_wpAt_super_base S.sup S.cls rfl S.fn (KI _ _ hf) rfl hp S.code (KI _ _ hcda) rfl hvs hfile S.top ?_) he) hi hsw
  obtain ⟨mb, hb1, hb2⟩ := I.mod.blt
  refine PySem.W.ks_loadName_global S.kind S.sup (Calls.loadGlobal_builtin (by rw [I.ok.glob]; exact I.mod.glob.keeps I.bk) hm (by rw [I.ok.blt]; exact hb1.keeps I.bk) ((hb2 _ (by decide)).trans (by decide +kernel)) ⟨rfl, ?_⟩)
  refine wpAny_loadName_free S.kind S.cls S.cellE ⟨_, KI _ _ hcell, rfl⟩ ?_
  obtain ⟨m, hns, hlk⟩ := I.loc
  obtain ⟨u, ru, hlook⟩ := hlk 0 ar.arg (.ref a) hN hσ (.inl S.slf)
  obtain rfl : u = Value.ref a := ru
  have hmv : m ar.arg = some (.ref a) := by
    rcases hlook with ⟨_, e⟩ | ⟨e, _⟩
    · exact e
    · rw [S.slf] at e
      rcases e with e | e <;> cases e
  refine wpAny_loadName_local S.kind S.slf hns hmv ?_
  obtain ⟨oD, hD1, hD2⟩ : ∃ oD, s.heap.get? D = some oD ∧ oD.data = .cls cd := by
    unfold PySem.W.clsIn at hcd
    split at hcd
    · rename_i c d cd' sl ho
      cases hcd
      exact ⟨_, KI _ _ ho, rfl⟩
    · cases hcd
  obtain ⟨t1, hoa⟩ := exo_at I.hok ha
  obtain ⟨hh, g, d, t, os⟩ := s
  refine PySem.ks_wpAny_isType_cls hD1 hD2 ⟨rfl, ?_⟩
  refine PySem.ks_wpAny_call_super hD1 hD2 hoa rfl (fun c e => by cases e) (PySem.W.looks_mroIn KI S.own) (fun h' e k => ?_)
  have I1 : Inv X pins σ H ⟨h', g, d, t, os⟩ := I.kept k
  have hoa1 := k _ _ hoa
  have inst : PySem.W.InstAt h' a _ D none := ⟨hoa1, rfl, rfl, True.intro⟩
  refine PySem.W.kxs_getMethod PySem.W.kxs_ValueError e (PySem.W.looks_opaque I1.kIn S.any) (l₀ := cd.mro) (fun A Q E s k q => wpAny_bind ((PySem.W.looks_clsIn I1.kIn hcd) A _ E s k (wpAny_pure q))) rfl I1.kIn hal
    (inst.type.andThen (PySem.W.looks_subIn I1.kIn S.ve)) (PySem.W.ks_ne I1.kIn inst hcd) rfl ?_
  have k2 : ∀ b o, h'.get? b = some o → (h'.push (PySem.W.kxs_mw "ValueError.__init__" a)).get? b = some o := fun b o e => Heap.get?_push_of_some _ e
  have hmw : (h'.push (PySem.W.kxs_mw "ValueError.__init__" a)).get? h'.objs.size = some (PySem.W.kxs_mw "ValueError.__init__" a) := Heap.get?_push_at rfl rfl
  have I2 : Inv X pins σ H ⟨h'.push (PySem.W.kxs_mw "ValueError.__init__" a), g, d, t + 1, os⟩ := I1.kept k2
  generalize h'.push (PySem.W.kxs_mw "ValueError.__init__" a) = h2 at k2 hmw I2 ⊢
  have hoa2 := k2 _ _ hoa1
  rw [hst]
  refine PySem.W.kxs_callWith (i := "ValueError.__init__") (x := a) rfl (Calls.evalArgs_plain ?_)
  refine Calls.spliced_cons (hc _ _ fun t3 k3 => Calls.spliced_nil ⟨hmw, ?_⟩)
  obtain ⟨nm, q, N, bs, bm, sn, sub, ab, col, dd, k0, k1, k2', k3', k5, hC, hbm⟩ := T.cls
  have hC2 := I2.kIn _ _ hC
  refine wpAny_call (codeAny_of_tree ?_)
  show wpAny _ X.A.in1 (callAny (.ref h'.objs.size) ⟨[.str lit t3], []⟩) _ _ _
  simp only [callAny]
  refine wpAny_bind (wpAny_load hmw ?_)
  simp only [PySem.W.kxs_mw, show (Value.type "method-wrapper" == Value.type "method" || Value.type "method-wrapper" == Value.type "builtin_function_or_method" || Value.type "method-wrapper" == Value.type "method-wrapper") = true by decide, if_true]
  refine PySem.W.KFB.if_so (by decide) ?_
  refine wpAny_bind (PySem.W.check_bound_init F.excBase_ValueError.toExcCallFacts hC2 hoa2 rfl ?_)
  refine wpAny_bind (wpAny_pure (wpAny_pure ?_))
  refine ⟨plainId_quiet F.excBase_ValueError.init.plain _, codeAny_builtin F.excBase_ValueError.initEntry ?_⟩
  refine PySem.W.exc_init_tree (cls := .ref D) (t0 := t1) (dv := none) (c2 := .none) (c3 := .none) (b4 := .bool false) hoa2 (by simp [sizeLine_eq]) ?_
  intro h3 kk hx _
  have J := I2.write (h' := h3) (t' := k3) (x := a) (e := a) (o := exo a D none) (by rw [ha]; exact True.intro) (.inl rfl) kk ⟨_, hx⟩ (exo_ok hx)
  have eu : upd H a (exo a D none) = H := by
    funext b
    by_cases hb : b = a
    · rw [hb, upd_same, ha]
    · rw [upd_ne hb]
  rw [eu] at J
  exact h _ J
end
section
variable {CX : CXT} {P : Program} {w : World} {K : PySem.W.Frag} {mg : Str → Option Value} {base : Heap} {N ps : List Str} {F : NF} {f cc D : Addr} {k : Nat} {sp : Sp} {first : Str} {p0 p1 p2 p4 p5 : Pos} {lit : Str} {c : Expr} {rest : List Stmt}
theorem cells_one {s : Heap} {H : Hp} (hcl : F.cl = [(("__class__" : Str), cc)]) (hc : H cc = none) {v : Option Value} (hv : s.IsCell cc v) : CellsAt F.cl ["__class__"] [none] s H := by
  rw [hcl]
  have one : ∀ y c, ([("__class__", cc)] : List (Str × Addr)).lookup y = some c → y = "__class__" ∧ c = cc := by
    intro y c h
    rw [List.lookup_cons] at h
    split at h
    · rename_i q
      cases h
      exact ⟨beq_iff_eq.mp q, rfl⟩
    · cases h
  refine ⟨rfl, fun y c h => ?_, fun x y c h1 h2 => (one x c h1).1.trans (one y c h2).1.symm, fun i y h => ?_⟩
  · rw [(one y c h).2]
    exact ⟨hc, v, hv⟩
  · cases i with
    | succ i => cases h
    | zero =>
      cases h
      refine ⟨cc, ?_, fun v h => by cases h⟩
      rw [List.lookup_cons, beq_self_eq_true]
theorem fn_super {oc : Value} {od an : Option Addr} {dV kV doc pm ctv : Value} {osl : Array (Option Value)} (hcl : F.cl = [(("__class__" : Str), cc)]) (hlk : K.lookup f = some ⟨oc, od, .func (PySem.W.fnX F.name F.qual F.params F.body F.scope F.cl dV kV doc pm an (.ref F.c) ctv), osl⟩)
    (hcd : PySem.W.codeIn K (.ref F.c) F.qual = true) (S : NScope N ps ["__class__"] F.scope) (hS : ∀ L, SupC P K (envF F f L) f F.c cc D first) (T : OexC K D) (hN : N[0]? = some first) (hm : mg "super" = none)
    (hb0 : F.body = .Expr (.Call (.Attribute (.Call (.Name "super" p0) [] [] p1) "__init__" p2) [c] [] p4) p5 :: rest)
    (hc : ∀ (A : Around) (E : Value → Shared → Prop) (env : PySem.Env) (Q : Value → Shared → Prop) (s : Shared), (∀ t k, Q (.str lit t) { s with toks := k }) → wpAny (model P w) A (eval c env) Q E s)
    (he : ∀ env : PySem.Env, eval (.Call (.Attribute (.Call (.Name "super" p0) [] [] p1) "__init__" p2) [c] [] p4) env = (do
      let ov ← attributeBase (.Call (.Name "super" p0) [] [] p1) "__init__" env (eval (.Call (.Name "super" p0) [] [] p1) env)
      standAt p2.atName
      let (f, first) ← holding [ov] (getMethod ov "__init__" (pure false))
      callWith p4 f first (backTo p4 (starEach [c] env)) []))
    (hst : ∀ env, starEach [c] env = [(false, eval c env)]) (hi : ∀ L, interactive (envF F f L) = false) (hsw : ∀ env, swapsWith (.Call (.Attribute (.Call (.Name "super" p0) [] [] p1) "__init__" p2) [c] [] p4) none p5.line env = pure false)
    (len : ∀ vs H Q E, sp vs H Q E → vs.length = ps.length)
    (hbody : ∀ (A : Around) (outer : List PySem.Env) (s : Shared) (H : Hp) (vs : List V) (Q : VK) (E : XK), Room k (A.deeper (envF F f s.heap.objs.size)) → sp vs H Q E → ∃ a vs', vs = .ref a :: vs' ∧ H a = some (exo a D none) ∧
      ∃ t, PSs (ncx CX P w K mg base N F f A outer s H E) rest t ∧ t { nx := fun _ H' => Q .non H', rt := Q } (startF N vs [none]) H) :
    FnOk P w K mg base CX (k + 1) f (PySem.W.fnX F.name F.qual F.params F.body F.scope F.cl dV kV doc pm an (.ref F.c) ctv) ps sp := by
  refine ⟨len, fun A outer s H args us vs Q E hr e0 hb r hsp => ?_⟩
  have KX : K.In s.heap := e0.mod.kin.keeps fun b o e => (e0.bs b o e).1
  have hl := len _ _ _ _ hsp
  have lim : s.heap.NoLimit := e0.mod.nolimit.keeps fun b o e => (e0.bs b o e).1
  refine PySem.ks_codeAny_call_defAt (body := F.body) hr.depth (KX _ _ hlk) rfl lim (PySem.W.codeRec_of KX hcd) rfl hb S.nocell (fun ⟨n, _⟩ hy => S.par n (List.of_mem_zip hy).1) (fun h₁ hns kp => ?_) S.co S.gen S.kind
  obtain ⟨a, vs', rfl, ha, t, ht, hq⟩ := hbody A outer s H vs Q E (hr.deeper _) hsp
  obtain ⟨cl, cld, csl, hcell⟩ := (hS 0).cell
  have hbc := e0.bs cc _ (e0.mod.kin _ _ hcell)
  have C : CellsAt F.cl ["__class__"] [none] s.heap H := cells_one hcl hbc.2 (v := some (.ref D)) ⟨_, hbc.1, rfl⟩
  have I : Inv (ncx CX P w K mg base N F f A outer s H E) [] (startF N (.ref a :: vs') [none]) H { s with heap := h₁, toks := s.toks + (ps.zip us).length } := inv_startN S hr.hd e0 hl r C hns kp
  rw [hb0]
  have bh : ∀ s', Inv (ncx CX P w K mg base N F f A outer s H E) [] (startF N (.ref a :: vs') [none]) H s' → wpAny (model P w) (A.deeper (envF F f s.heap.objs.size)) (PySem.execs rest (envF F f s.heap.objs.size)) (fun fl s'' => CR CX outer P w H s Q E (.ok (.ret (match fl with | .ret v => v | _ => .none))) s'')
      (fun e s' => wpAny (model P w) (A.deeper (envF F f s.heap.objs.size)) (leaving (envF F f s.heap.objs.size) e) (fun _ s'' => CR CX outer P w H s Q E (.error e) s'') (fun e' s'' => CR CX outer P w H s Q E (.error e') s'') s') s' := fun s1 I1 => by
    refine wpAny_mono (ht.run [] _ _ H _ I1 hq) (fun fl s' hs => ?_) fun e s' hs => hs
    cases fl with
    | ret u =>
      obtain ⟨y, _, Hy, J, ry, qy⟩ := hs
      exact ⟨y, Hy, J.os, J.bare, J.base, J.hok, ry, qy⟩
    | next =>
      obtain ⟨_, Hy, J, qy⟩ := hs
      exact ⟨V.non, Hy, J.os, J.bare, J.base, J.hok, rfl, qy⟩
    | brk => exact hs.elim fun _ h => h.elim fun _ h => h.2.elim
    | cont => exact hs.elim fun _ h => h.elim fun _ h => h.2.elim
  refine PySem.ks_wpAt_execs_cons ?_
  exact super_step (X := ncx CX P w K mg base N F f A outer s H E) T (hS _) I hN rfl ha hm (hc _ _ _) (fun s' I' => wpAt_of_wpAny (bh s' I')) (he _) (hst _) (hi _) (hsw _)
end
end DP

/-! DP.Super2: the assignments behind super().__init__(text): self.g = p, one by one. -/
namespace DP
open PySem PySem.Spec PyProof.Rows L2 NdefX
/-- the readings, one behind the other: field, slot -/
def tInits (K : PySem.W.Frag) : List (Str × Nat) → TS
  | [] => tNext
  | (g, j) :: r => tSeq (tOst K g (tVar 0) (tVar j)) (tInits K r)
inductive ARest (X : Cx) (first : Str) : List Stmt → List (Str × Nat) → Prop where
  | nil : ARest X first [] []
  | cons {g x : Str} {j : Nat} {q1 q2 q3 q4 : Pos} {rest : List Stmt} {r : List (Str × Nat)} (hj : X.N[j]? = some x) (hv : Vis X.env.scope x) (hd : (x == ("__debug__" : Str)) = false) (hcd : (x == ("__classdict__" : Str)) = false)
      (hs : swapsWith (.Name x q3) (some (.Attribute (.Name first q1) g q2)) q4.line X.env = pure false) (t : ARest X first rest r) : ARest X first (.Assign [.Attribute (.Name first q1) g q2] (.Name x q3) q4 :: rest) ((g, j) :: r)
theorem pss_asg {X : Cx} {first : Str} {rest : List Stmt} {r : List (Str × Nat)} (h0 : X.N[0]? = some first) (hv0 : Vis X.env.scope first) (hd0 : (first == ("__debug__" : Str)) = false) (hcd0 : (first == ("__classdict__" : Str)) = false) (h : ARest X first rest r) : PSs X rest (tInits X.K r) := by
  induction h with
  | nil => exact pss_nil
  | cons hj hv hd hcd hs t ih => exact pss_cons (ps_ost (pe_var h0 hv0 hd0 hcd0) (pe_var hj hv hd hcd) hs) ih
/-- the fields' values -/
def fvals (σ : L2.St) : List (Str × Nat) → List (Str × V) → Option (List (Str × V))
  | [], fs => some fs
  | (g, j) :: r, fs => match σ[j]? with
    | some (some v) => fvals σ r ((g, v) :: fs)
    | _ => none
theorem asg_old {K : PySem.W.Frag} {σ : L2.St} {D : Ends} {a dx C : Addr} (T : OexC K C) (hσ : σ[0]? = some (some (.ref a))) (hne : dx ≠ a) : ∀ (r : List (Str × Nat)) (fs ys : List (Str × V)) (H : Hp), (∀ p ∈ r, PySem.W.findIn K (.ref C) p.1 = some none) → fvals σ r fs = some ys → fs.length + r.length ≤ 900 →
    H a = some (exo a C (some dx)) → H dx = some (exd dx fs) → (∀ H', (∀ b, b ≠ dx → H' b = H b) → H' dx = some (exd dx ys) → D.nx σ H') → tInits K r D σ H
  | [], fs, ys, H, _, hf, _, _, hd, k => by
    cases hf
    exact k H (fun _ _ => rfl) hd
  | (g, j) :: r, fs, ys, H, hn, hf, hl, ha, hd, k => by
    rw [fvals] at hf
    split at hf
    · rename_i v hv
      rw [List.length_cons] at hl
      refine ⟨v, hv, .ref a, hσ, a, C, rfl, T, hn _ List.mem_cons_self, .inr ⟨dx, fs, ha, hd, by omega, ?_⟩⟩
      refine asg_old T hσ hne r ((g, v) :: fs) ys (upd H dx (exd dx ((g, v) :: fs))) (fun p m => hn p (List.mem_cons_of_mem _ m)) hf (by rw [List.length_cons]; omega) ?_ upd_same fun H' h1 h2 => k H' (fun b hb => ?_) h2
      · rw [upd_ne (Ne.symm hne)]; exact ha
      · rw [h1 b hb, upd_ne hb]
    · cases hf
theorem asg_new {K : PySem.W.Frag} {σ : L2.St} {D : Ends} {a C : Addr} {H : Hp} {g : Str} {j : Nat} {r : List (Str × Nat)} {ys : List (Str × V)} (T : OexC K C) (hσ : σ[0]? = some (some (.ref a))) (hn : ∀ p ∈ (g, j) :: r, PySem.W.findIn K (.ref C) p.1 = some none) (hf : fvals σ ((g, j) :: r) [] = some ys) (hl : r.length ≤ 800)
    (ha : H a = some (exo a C none)) (k : ∀ dx H', H dx = none → dx ≠ a → (∀ b, b ≠ dx → b ≠ a → H' b = H b) → H' a = some (exo a C (some dx)) → H' dx = some (exd dx ys) → D.nx σ H') : tInits K ((g, j) :: r) D σ H := by
  rw [fvals] at hf
  split at hf
  · rename_i v hv
    refine ⟨v, hv, .ref a, hσ, a, C, rfl, T, hn _ List.mem_cons_self, .inl ⟨ha, fun dx hx hne => ?_⟩⟩
    refine asg_old T hσ hne r [(g, v)] ys _ (fun p m => hn p (List.mem_cons_of_mem _ m)) hf (by simp; omega) upd_same (by rw [upd_ne hne, upd_same]) fun H' h1 h2 => k dx H' hx hne (fun b hb hb2 => ?_) ?_ h2
    · rw [h1 b hb, upd_ne hb2, upd_ne hb]
    · rw [h1 a (Ne.symm hne), upd_same]
  · cases hf
/-- what such an __init__ keeps: r = field and slot, in the order of the text -/
def spI (N : List Str) (D : Addr) (m : Nat) (r : List (Str × Nat)) : Sp := fun vs H Q _ => ∃ (a : Addr) (us : List V) (ys : List (Str × V)), vs = .ref a :: us ∧ us.length = m ∧ H a = some (exo a D none) ∧ fvals (startF N vs [none]) r [] = some ys ∧
  ∀ dx H', H dx = none → dx ≠ a → (∀ b, b ≠ dx → b ≠ a → H' b = H b) → H' a = some (exo a D (some dx)) → H' dx = some (exd dx ys) → Q .non H'
section
variable {CX : CXT} {P : Program} {w : World} {K : PySem.W.Frag} {mg : Str → Option Value} {base : Heap} {N ps : List Str} {F : NF} {f cc D : Addr} {k m : Nat} {first : Str} {p0 p1 p2 p4 p5 : Pos} {lit : Str} {c : Expr} {rest : List Stmt} {g : Str} {j : Nat} {r : List (Str × Nat)}
theorem fn_init {oc : Value} {od an : Option Addr} {dV kV doc pm ctv : Value} {osl : Array (Option Value)} (hcl : F.cl = [(("__class__" : Str), cc)]) (hlk : K.lookup f = some ⟨oc, od, .func (PySem.W.fnX F.name F.qual F.params F.body F.scope F.cl dV kV doc pm an (.ref F.c) ctv), osl⟩)
    (hcd : PySem.W.codeIn K (.ref F.c) F.qual = true) (S : NScope N ps ["__class__"] F.scope) (hS : ∀ L, SupC P K (envF F f L) f F.c cc D first) (T : OexC K D) (hN : N[0]? = some first) (hm : mg "super" = none)
    (hb0 : F.body = .Expr (.Call (.Attribute (.Call (.Name "super" p0) [] [] p1) "__init__" p2) [c] [] p4) p5 :: rest)
    (hc : ∀ (A : Around) (E : Value → Shared → Prop) (env : PySem.Env) (Q : Value → Shared → Prop) (s : Shared), (∀ t k, Q (.str lit t) { s with toks := k }) → wpAny (model P w) A (eval c env) Q E s)
    (he : ∀ env : PySem.Env, eval (.Call (.Attribute (.Call (.Name "super" p0) [] [] p1) "__init__" p2) [c] [] p4) env = (do
      let ov ← attributeBase (.Call (.Name "super" p0) [] [] p1) "__init__" env (eval (.Call (.Name "super" p0) [] [] p1) env)
      standAt p2.atName
      let (f, first) ← holding [ov] (getMethod ov "__init__" (pure false))
      callWith p4 f first (backTo p4 (starEach [c] env)) []))
    (hst : ∀ env, starEach [c] env = [(false, eval c env)]) (hi : ∀ L, interactive (envF F f L) = false) (hsw : ∀ env, swapsWith (.Call (.Attribute (.Call (.Name "super" p0) [] [] p1) "__init__" p2) [c] [] p4) none p5.line env = pure false)
    (hps : ps.length = m + 1) (hd0 : (first == ("__debug__" : Str)) = false) (hcd0 : (first == ("__classdict__" : Str)) = false) (hn : ∀ p ∈ (g, j) :: r, PySem.W.findIn K (.ref D) p.1 = some none) (hl : r.length ≤ 800)
    (hr : ∀ (A : Around) (outer : List PySem.Env) (s : Shared) (H : Hp) (E : XK), ARest (ncx CX P w K mg base N F f A outer s H E) first rest ((g, j) :: r)) :
    FnOk P w K mg base CX (k + 1) f (PySem.W.fnX F.name F.qual F.params F.body F.scope F.cl dV kV doc pm an (.ref F.c) ctv) ps (spI N D m ((g, j) :: r)) := by
  refine fn_super hcl hlk hcd S hS T hN hm hb0 hc he hst hi hsw (fun vs H Q E h => ?_) fun A outer s H vs Q E _ h => ?_
  · obtain ⟨a, us, ys, rfl, hu, _⟩ := h
    rw [List.length_cons, hu, hps]
  · obtain ⟨a, us, ys, rfl, hu, ha, hf, q⟩ := h
    refine ⟨a, us, rfl, ha, _, pss_asg (X := ncx CX P w K mg base N F f A outer s H E) hN (.inl (hS s.heap.objs.size).slf) hd0 hcd0 (hr A outer s H E), ?_⟩
    exact asg_new T rfl hn hf hl ha fun dx H' h1 h2 h3 h4 h5 => q dx H' h1 h2 h3 h4 h5
end
end DP

/-! DP.Core: data, memory, the small language and its evaluation. -/
namespace DP
open PySem PySem.Spec PyProof.Rows L2

/-- data: what a value stands for. err: a caught exception, its class's number, its fields. klist: a list that is only read (locked, or of the module's top); loc n: the n-th cell of the memory -/
inductive D where
  | non | bl (b : Bool) | int (i : Int) | str (s : Str) | list (xs : List D) | klist (xs : List D) | tup (xs : List D) | loc (n : Nat)
  | err (c : Nat) (ns : List Str) (ds : List D)

/-- a cell of the memory: a list that may change; an instance; nothing any more (it was frozen) -/
inductive Cell where
  | lst (xs : List D) | obj (c : Nat) (fs : List (Str × D)) | dead

abbrev Mem := List Cell
/-- an exception: its class's number, its fields -/
structure Exn where
  cls : Nat
  fs : List (Str × D)
/-- an evaluation's end: stuck; an exception; a result -/
inductive Res (α : Type) where
  | bad | exc (x : Exn) (M : Mem) | ok (a : α) (M : Mem)
@[simp] def Res.bind {α β : Type} : Res α → (α → Mem → Res β) → Res β
  | .bad, _ => .bad
  | .exc x M, _ => .exc x M
  | .ok a M, f => f a M

abbrev Env := List (Option D)

/-- primitive operations -/
inductive Pr where
  | add | sub | mul | fdiv | mod | pow | neg
  | lt | le | gt | ge | eq | ne | isN | notN | in_ | notIn | not_
  | list | listM | tup | idx | slice (lo hi : Bool)
  | len | int_ | str_ | abs | sum | all | any | tuple_ | list_ | isinst (t : String) | min2 | max2
  | append | join | split | rmsuf | rmpre | strip | fmt1 | fmt
  | freeze | setIdx | iadd
  | isC (yes no : List Nat) | fld (f : Str) | repl1

/-- what a loop walks -/
inductive SrcK where
  | seq | rng1 | rng2 | enum | zip

/-- targets -/
inductive T where
  | nm (i : Nat) | tp (is : List Nat)

inductive E where
  | c (d : D)
  | v (i : Nat)
  | pr (p : Pr) (es : List E)
  | and_ (a b : E)
  | or_ (a b : E)
  | ite (c a b : E)
  | call (f : Nat) (es : List E)
  | meth (p : Pr) (t : String) (o : E) (es : List E)
  | fstr (es : List E)
  | slc3 (a l u : E)
  | never
  | comp (mt : Bool) (own : List Nat) (t : T) (k : SrcK) (src : List E) (cond : Option E) (elt : E)

inductive Flow where
  | nx | rt (d : D) | bk | ct | ex (x : Exn)
/-- a statement's end -/
inductive SRes where
  | bad | done (f : Flow) (env : Env) (M : Mem)
@[simp] def Res.sb {α : Type} (env : Env) : Res α → (α → Mem → SRes) → SRes
  | .bad, _ => .bad
  | .exc x M, _ => .done (.ex x) env M
  | .ok a M, f => f a M

inductive S where
  | asg (t : T) (e : E)
  | setIx (o i e : E)
  | aug (i : Nat) (p : Pr) (e : E)
  | augIx (o i : E) (p : Pr) (e : E)
  | ex (e : E)
  | ret (e : E)
  | retN
  | ife (c : E) (a b : List S)
  | for_ (t : T) (k : SrcK) (src : List E) (body : List S)
  | raise (c n : Nat) (fs : List (Str × Nat)) (es : List E)
  | try_ (body : List S) (yes : List Nat) (i : Nat) (suite : List S)
  | pass | brk | cont | never

/-! ### data by their parts -/
def asL (M : Mem) : D → Option (List D)
  | .list xs => some xs
  | .klist xs => some xs
  | .loc n => match M[n]? with
    | some (.lst xs) => some xs
    | _ => none
  | _ => none
def asT : D → Option (List D)
  | .tup xs => some xs
  | _ => none
/-- a list (not a locked one) -/
def asLL (M : Mem) : D → Option (List D)
  | .klist _ => none
  | d => asL M d
def asSeq (M : Mem) (d : D) : Option (List D) := match d with
  | .tup xs => some xs
  | d => asL M d
mutual
/-- as plain data, lists by what they hold now -/
def py (M : Mem) (n : Nat) : D → Option PyData
  | .non => some .none
  | .bl b => some (.bool b)
  | .int i => some (.int i)
  | .str s => some (.str s)
  | .list xs => (pys M n xs).map .list
  | .klist xs => (pys M n xs).map .list
  | .tup xs => (pys M n xs).map .tuple
  | .loc _ => none
  | .err _ _ _ => none
def pys (M : Mem) (n : Nat) : List D → Option (List PyData)
  | [] => some []
  | d :: ds => match py M n d, pys M n ds with
    | some a, some b => some (a :: b)
    | _, _ => none
end
/-- .. a changing list of plain data too -/
def pyM (M : Mem) : D → Option PyData
  | .loc n => match M[n]? with
    | some (.lst xs) => (pys M 0 xs).map .list
    | _ => none
  | d => py M 0 d
def truth (M : Mem) : D → Option Bool
  | .non => some false
  | .bl b => some b
  | .int i => some (i != 0)
  | .str s => if s.length ≤ sizeLine then some ((s.length : Int) != 0) else none
  | .tup xs => some (!xs.isEmpty)
  | d => (asL M d).map fun xs => !xs.isEmpty
def strsOf : List D → Option (List Str)
  | [] => some []
  | .str s :: r => (strsOf r).map (s :: ·)
  | _ => none
def intsOf : List D → Option (List Int)
  | [] => some []
  | .int s :: r => (intsOf r).map (s :: ·)
  | _ => none
def boolsOf : List D → Option (List Bool)
  | [] => some []
  | .bl s :: r => (boolsOf r).map (s :: ·)
  | _ => none

/-! ### the primitive operations -/
abbrev PRes := Option (D × Mem)
def okB (b : Bool) (M : Mem) : PRes := some (.bl b, M)
def prAdd (M : Mem) : List D → PRes
  | [.int i, .int j] => some (.int (i + j), M)
  | [.str s, .str t] => if s.length + t.length ≤ sizeLine then some (.str (s ++ t), M) else none
  | [a, b] => match asLL M a, asLL M b with
    | some xs, some ys => if xs.length + ys.length ≤ sizeLine then some (.list (xs ++ ys), M) else none
    | _, _ => match asT a, asT b with
      | some (x :: xs), some (y :: ys) => if xs.length + 1 + (ys.length + 1) ≤ sizeLine then some (.tup ((x :: xs) ++ (y :: ys)), M) else none
      | _, _ => none
  | _ => none
def prIadd (M : Mem) : List D → PRes
  | [.int i, .int j] => some (.int (i + j), M)
  | _ => none
def prSub (M : Mem) : List D → PRes
  | [.int i, .int j] => some (.int (i - j), M)
  | _ => none
/-- a product's size -/
def mulFits (i j : Int) : Prop := i.natAbs.log2 + j.natAbs.log2 < 1000000
open Classical in
noncomputable def prMul (M : Mem) : List D → PRes
  | [.int i, .int j] => if mulFits i j then some (.int (i * j), M) else none
  | [.str i, .int k] => if i.length ≤ 1000 ∧ 0 ≤ k ∧ k ≤ 1000 then some (.str (Txt.mul i k), M) else none
  | [a, .int k] => match asLL M a with
    | some xs => if -(2 ^ 63) ≤ k ∧ k < 2 ^ 63 ∧ xs.length * k.toNat ≤ sizeLine then some (.list (List.replicate k.toNat xs).flatten, M) else none
    | none => none
  | _ => none
open Classical in
noncomputable def prFdiv (M : Mem) : List D → PRes
  | [.int i, .int j] => if 0 < j ∧ j.natAbs.log2 < 9000 then some (.int (i / j), M) else none
  | _ => none
def prMod (M : Mem) : List D → PRes
  | [.int i, .int j] => if 0 < j then some (.int (i % j), M) else none
  | _ => none
def prPow (M : Mem) : List D → PRes
  | [.int i, .int j] => if 0 ≤ j ∧ j ≤ 1000 ∧ i.natAbs < 2 ^ 64 then some (.int (i ^ j.toNat), M) else none
  | _ => none
def prNeg (M : Mem) : List D → PRes
  | [.int i] => some (.int (-i), M)
  | _ => none
def prCmp (f : Int → Int → Bool) (M : Mem) : List D → PRes
  | [.int i, .int j] => okB (f i j) M
  | _ => none
def prEq (M : Mem) : List D → PRes
  | [a, b] => match pyM M a, pyM M b with
    | some x, some y => if SeqAt.shaped x = true ∧ SeqAt.shaped y = true then okB (PyData.eqv x y) M else none
    | _, _ => none
  | _ => none
def prNe (M : Mem) : List D → PRes
  | [a, b] => match pyM M a, pyM M b with
    | some x, some y => if SeqAt.shaped x = true ∧ SeqAt.shaped y = true then okB (!PyData.eqv x y) M else none
    | _, _ => none
  | _ => none
def D.isN : D → Bool
  | .non => true
  | _ => false
def prIsN (M : Mem) : List D → PRes
  | [a] => okB a.isN M
  | _ => none
def prNotN (M : Mem) : List D → PRes
  | [a] => okB (!a.isN) M
  | _ => none
/-- a in b -/
def inB (M : Mem) : List D → Option Bool
  | [.str s, .str t] => match s.cps.toList with
    | [c] => some (decide (c ∈ t.cps.toList))
    | _ => some (!(Builtin.Str.occurrences t s 0 t.length 1).isEmpty)
  | [a, b] => match pyM M a, asSeq M b with
    | some x, some ys => match pys M 0 ys with
      | some zs => if SeqAt.shaped x = true ∧ SeqAt.shaped (.list zs) = true then some (zs.any fun z => PyData.eqv z x) else none
      | none => none
    | _, _ => none
  | _ => none
def prIn (M : Mem) (ds : List D) : PRes := match inB M ds with
  | some b => okB b M
  | none => none
def prNotIn (M : Mem) (ds : List D) : PRes := match inB M ds with
  | some b => okB (!b) M
  | none => none
def prNot (M : Mem) : List D → PRes
  | [a] => match truth M a with
    | some b => okB (!b) M
    | none => none
  | _ => none
def prList (M : Mem) (ds : List D) : PRes := if ds.length ≤ sizeLine then some (.list ds, M) else none
def prListM (M : Mem) (ds : List D) : PRes := if ds.length ≤ sizeLine then some (.loc M.length, M ++ [.lst ds]) else none
def prTup (M : Mem) (ds : List D) : PRes := if ds.length ≤ sizeLine then some (.tup ds, M) else none
def prIdx (M : Mem) : List D → PRes
  | [.str z, .int i] => if z.length ≤ sizeLine then (match atI z.cps.toList i with
    | some c => some (.str ⟨#[c]⟩, M)
    | none => none) else none
  | [a, .int i] => match asSeq M a with
    | some xs => match atI xs i with
      | some d => some (d, M)
      | none => none
    | none => none
  | _ => none
/-- an item of a list -/
def prIdxL (M : Mem) : List D → PRes
  | [a, .int i] => match asL M a with
    | some xs => match atI xs i with
      | some d => some (d, M)
      | none => none
    | none => none
  | _ => none
def cutD (xs : List D) (lo hi : Option Int) : List D := (xs.drop (HT.sIx xs.length 0 lo)).take (HT.sIx xs.length xs.length hi - HT.sIx xs.length 0 lo)
def slc (M : Mem) (lo hi : Option Int) : D → PRes
  | .str z => if z.length ≤ sizeLine then some (.str (cutS z lo hi), M) else none
  | .tup xs => if (cutD xs lo hi).length < xs.length then some (.tup (cutD xs lo hi), M) else none
  | a => match asL M a with
    | some xs => some (.list (cutD xs lo hi), M)
    | none => none
def prSlice (lo hi : Bool) (M : Mem) : List D → PRes
  | [a, .int i] => if lo && !hi then slc M (some i) none a else if !lo && hi then slc M none (some i) a else none
  | [a] => if !lo && !hi then slc M none none a else none
  | _ => none
def prLen (M : Mem) : List D → PRes
  | [.str z] => if z.length ≤ sizeLine then some (.int z.length, M) else none
  | [a] => match asSeq M a with
    | some xs => some (.int xs.length, M)
    | none => none
  | _ => none
def prInt (M : Mem) : List D → PRes
  | [.int i] => some (.int i, M)
  | [.str s] => if s.length ≤ 640 then (match PySem.intText? s with
    | some n => some (.int n, M)
    | none => none) else none
  | _ => none
def prStr (M : Mem) : List D → PRes
  | [.int i] => if i.natAbs.log2 < 1920 then some (.str (toString i), M) else none
  | _ => none
def prAbs (M : Mem) : List D → PRes
  | [.int i] => some (.int (if i < 0 then -i else i), M)
  | _ => none
def prSum (M : Mem) : List D → PRes
  | [a] => match asL M a with
    | some xs => match intsOf xs with
      | some ns => some (.int ns.sum, M)
      | none => none
    | none => none
  | _ => none
def prAll (M : Mem) : List D → PRes
  | [a] => match asL M a with
    | some xs => match boolsOf xs with
      | some bs => okB (bs.all id) M
      | none => none
    | none => none
  | _ => none
def prAny (M : Mem) : List D → PRes
  | [a] => match asL M a with
    | some xs => match boolsOf xs with
      | some bs => okB (bs.any id) M
      | none => none
    | none => none
  | _ => none
def prTuple (M : Mem) : List D → PRes
  | [.tup xs] => some (.tup xs, M)
  | [a] => match asL M a with
    | some xs => some (.tup xs, M)
    | none => none
  | _ => none
def prListOf (M : Mem) : List D → PRes
  | [a] => match asSeq M a with
    | some xs => some (.list xs, M)
    | none => none
  | _ => none
/-- the built-in class of data -/
def D.ty (M : Mem) : D → Option String
  | .non => some "NoneType"
  | .bl _ => some "bool"
  | .int _ => some "int"
  | .str _ => some "str"
  | .list _ => some "list"
  | .klist _ => none
  | .tup _ => some "tuple"
  | .loc n => match M[n]? with
    | some (.lst _) => some "list"
    | _ => none
  | .err _ _ _ => none
def prIsInst (t : String) (M : Mem) : List D → PRes
  | [a] => match a.ty M with
    | some u => match L2.kitB u t with
      | some b => okB b M
      | none => none
    | none => none
  | _ => none
def prMin2 (M : Mem) : List D → PRes
  | [.int i, .int j] => some (.int (if j < i then j else i), M)
  | _ => none
def prMax2 (M : Mem) : List D → PRes
  | [.int i, .int j] => some (.int (if j > i then j else i), M)
  | _ => none
def prAppend (M : Mem) : List D → PRes
  | [.loc n, d] => match M[n]? with
    | some (.lst xs) => if xs.length < sizeLine then some (.non, M.set n (.lst (xs ++ [d]))) else none
    | _ => none
  | _ => none
def prSetIdx (M : Mem) : List D → PRes
  | [.loc n, .int i, d] => match M[n]? with
    | some (.lst xs) => match ixN xs.length i with
      | some j => some (.non, M.set n (.lst (xs.set j d)))
      | none => none
    | _ => none
  | _ => none
/-- the size of texts joined, by a bound that is easy to reckon -/
def joinSize (s : Str) (ys : List Str) : Nat := (ys.map (·.length)).sum + ys.length * s.length
def prJoin (M : Mem) : List D → PRes
  | [.str s, a] => match asSeq M a with
    | some xs => match strsOf xs with
      | some ys => if joinSize s ys ≤ 16777216 then some (.str (Txt.join s ys), M) else none
      | none => none
    | none => none
  | _ => none
def prSplit (M : Mem) : List D → PRes
  | [.str s, .str t] => if (t.length == 0) = false ∧ s.length + 2 ≤ sizeLine then some (.list ((Txt.split s t).map .str), M) else none
  | _ => none
def prRmsuf (M : Mem) : List D → PRes
  | [.str s, .str t] => if s.length ≤ sizeLine then some (.str (Txt.removesuffix s t), M) else none
  | _ => none
def prRmpre (M : Mem) : List D → PRes
  | [.str s, .str t] => if s.length ≤ sizeLine then some (.str (Txt.removeprefix s t), M) else none
  | _ => none
def prStrip (M : Mem) : List D → PRes
  | [.str s, .str t] => if s.length ≤ sizeLine then some (.str (Txt.stripChars s t), M) else none
  | _ => none
def prFmt1 (M : Mem) : List D → PRes
  | [.str s] => if s.length ≤ sizeLine then some (.str s, M) else none
  | [.int i] => if i.natAbs.log2 < 1920 then some (.str (toString i), M) else none
  | _ => none
def fmtAll (acc : Str) : List D → Option Str
  | [] => some acc
  | .str s :: r => if (acc ++ s).length ≤ sizeLine then fmtAll (acc ++ s) r else none
  | _ => none
def prFmt (M : Mem) (ds : List D) : PRes := match fmtAll Str.empty ds with
  | some s => some (.str s, M)
  | none => none
/-- a changing list becomes a plain one (its changing items too) -/
def fz : Nat → Mem → D → Option (D × Mem)
  | 0, _, .loc _ => none
  | k + 1, M, .loc n => match M[n]? with
    | some (.lst xs) => (xs.foldl (fun (r : Option (List D × Mem)) x => match r with
        | some (acc, M1) => match fz k M1 x with
          | some (y, M2) => some (acc ++ [y], M2)
          | none => none
        | none => none) (some ([], M.set n .dead))).map fun p => (.list p.1, p.2)
    | _ => none
  | _, M, d => some (d, M)
def prFreeze (M : Mem) : List D → PRes
  | [d] => fz 4 M d
  | _ => none

/-- the first y in x becomes z -/
def repl1 (x y z : Str) : Str := if ((Builtin.Str.occurrences x y 0 x.length 1).isEmpty || (y.length == 0 && z.length == 0)) = true then x else Builtin.Str.glued z (Builtin.Str.partsBetween x (Builtin.Str.occurrences x y 0 x.length 1) y.length)
def prRepl1 (M : Mem) : List D → PRes
  | [.str x, .str y, .str z] => if (y == z) = false ∧ x.length + (Builtin.Str.occurrences x y 0 x.length 1).length * z.length ≤ sizeLine ∧ (repl1 x y z).length ≤ sizeLine then some (.str (repl1 x y z), M) else none
  | _ => none
/-- isinstance(e, C) of a caught exception -/
def prIsC (yes no : List Nat) (M : Mem) : List D → PRes
  | [.err c _ _] => if c ∈ yes then okB true M else if c ∈ no then okB false M else none
  | _ => none
/-- e.f -/
def prFld (f : Str) (M : Mem) : List D → PRes
  | [.err _ ns ds] => match (ns.zip ds).lookup f with
    | some d => some (d, M)
    | none => none
  | _ => none

noncomputable def pr : Pr → Mem → List D → PRes
  | .add => prAdd | .sub => prSub | .mul => prMul | .fdiv => prFdiv | .mod => prMod | .pow => prPow | .neg => prNeg
  | .lt => prCmp fun i j => decide (i < j) | .le => prCmp fun i j => decide (i ≤ j) | .gt => prCmp fun i j => decide (j < i) | .ge => prCmp fun i j => decide (j ≤ i)
  | .eq => prEq | .ne => prNe | .isN => prIsN | .notN => prNotN | .in_ => prIn | .notIn => prNotIn | .not_ => prNot
  | .list => prList | .listM => prListM | .tup => prTup | .idx => prIdx | .slice lo hi => prSlice lo hi
  | .len => prLen | .int_ => prInt | .str_ => prStr | .abs => prAbs | .sum => prSum | .all => prAll | .any => prAny | .tuple_ => prTuple | .list_ => prListOf
  | .isinst t => prIsInst t | .min2 => prMin2 | .max2 => prMax2
  | .append => prAppend | .join => prJoin | .split => prSplit | .rmsuf => prRmsuf | .rmpre => prRmpre | .strip => prStrip | .fmt1 => prFmt1 | .fmt => prFmt
  | .freeze => prFreeze | .setIdx => prSetIdx | .iadd => prIadd
  | .isC yes no => prIsC yes no | .fld f => prFld f | .repl1 => prRepl1

@[simp] def ofP : PRes → Res D
  | some (d, M) => .ok d M
  | none => .bad

/-! ### what is walked -/
/-- what a loop walks: the items as they are, the items with the cell that holds them -/
inductive Walk where
  | items (xs : List D) | cell (n : Nat) (xs : List D)
def Walk.xs : Walk → List D
  | .items xs => xs
  | .cell _ xs => xs
def Walk.Ok (M : Mem) : Walk → Prop
  | .items _ => True
  | .cell n xs => M[n]? = some (.lst xs)
def rngD (lo : Int) (n : Nat) : List D := (List.range n).map fun (k : Nat) => D.int (lo + k)
def enumD : Nat → List D → List D
  | _, [] => []
  | k, x :: xs => .tup [.int k, x] :: enumD (k + 1) xs
def zipD : List D → List D → List D
  | x :: xs, y :: ys => .tup [x, y] :: zipD xs ys
  | _, _ => []
def walk (M : Mem) : SrcK → List D → Option Walk
  | .seq, [.loc n] => match M[n]? with
    | some (.lst xs) => some (.cell n xs)
    | _ => none
  | .seq, [.str z] => some (.items (z.cps.toList.map fun c => .str ⟨#[c]⟩))
  | .seq, [.tup xs] => some (.items xs)
  | .seq, [d] => (asL M d).map .items
  | .rng1, [.int j] => if -(2 ^ 62) ≤ j ∧ j < 2 ^ 62 then some (.items (rngD 0 j.toNat)) else none
  | .rng2, [.int i, .int j] => if -(2 ^ 62) ≤ i ∧ i < 2 ^ 62 ∧ -(2 ^ 62) ≤ j ∧ j < 2 ^ 62 then some (.items (rngD i (j - i).toNat)) else none
  | .enum, [.list xs] => some (.items (enumD 0 xs))
  | .zip, [.list xs, .list ys] => if xs.length = ys.length then some (.items (zipD xs ys)) else none
  | _, _ => none

/-- the slots of the block's own names forgotten -/
def wipeE (env : Env) : List Nat → Env
  | [] => env
  | v :: vs => (wipeE env vs).set v none
def setAll (env : Env) : List Nat → List D → Option Env
  | [], [] => some env
  | i :: is, d :: ds => setAll (env.set i (some d)) is ds
  | _, _ => none
def store (env : Env) (d : D) : T → Option Env
  | .nm i => some (env.set i (some d))
  | .tp is => match d with
    | .tup xs => setAll env is xs
    | _ => none

/-- a comprehension's turns -/
noncomputable def compLoop (w : Walk) (f : D → Mem → Res (Option D)) : List D → Mem → Res (List D)
  | [], M => open Classical in if w.Ok M then .ok [] M else .bad
  | x :: xs, M => open Classical in if w.Ok M then match f x M with
      | .ok none M1 => compLoop w f xs M1
      | .ok (some d) M1 => match compLoop w f xs M1 with
        | .ok ds M2 => .ok (d :: ds) M2
        | _ => .bad
      | _ => .bad
    else .bad

/-! ### expressions -/
section
variable (call : Nat → List D → Mem → Res D)
mutual
noncomputable def ev : E → Env → Mem → Res D
  | .c d, _, M => .ok d M
  | .v i, env, M => match env[i]? with
    | some (some d) => .ok d M
    | _ => .bad
  | .pr p es, env, M => (evs es env M).bind fun ds M1 => ofP (pr p M1 ds)
  | .and_ a b, env, M => (ev a env M).bind fun d M1 => match truth M1 d with
    | some true => ev b env M1
    | some false => .ok d M1
    | none => .bad
  | .or_ a b, env, M => (ev a env M).bind fun d M1 => match truth M1 d with
    | some false => ev b env M1
    | some true => .ok d M1
    | none => .bad
  | .ite c a b, env, M => (ev c env M).bind fun d M1 => match truth M1 d with
    | some true => ev a env M1
    | some false => ev b env M1
    | none => .bad
  | .call f es, env, M => (evs es env M).bind fun ds M1 => call f ds M1
  | .meth p t o es, env, M => (ev o env M).bind fun d M1 => if d.ty M1 = some t then (evs es env M1).bind fun ds M2 => ofP (pr p M2 (d :: ds)) else .bad
  | .fstr es, env, M => match evs es env M with
    | .ok ds M1 => ofP (prFmt M1 ds)
    | _ => .bad
  | .never, _, _ => .bad
  | .slc3 a l u, env, M => (ev a env M).bind fun d1 M1 => (ev l env M1).bind fun d2 M2 => match d2 with
    | .int i => (ev u env M2).bind fun d3 M3 => match d3 with
      | .int j => ofP (slc M3 (some i) (some j) d1)
      | _ => .bad
    | _ => .bad
  | .comp mt own t k src cond elt, env, M => (evs src env M).bind fun ds M1 => match walk M1 k ds with
    | none => .bad
    | some w => match compLoop w (fun x M2 => match store (wipeE env own) x t with
        | none => .bad
        | some env2 => match cond with
          | none => (match ev elt env2 M2 with
            | .ok d M4 => .ok (some d) M4
            | _ => .bad)
          | some c => match ev c env2 M2 with
            | .ok d M3 => match truth M3 d with
              | some true => (match ev elt env2 M3 with
                | .ok d M4 => .ok (some d) M4
                | _ => .bad)
              | some false => .ok none M3
              | none => .bad
            | _ => .bad) w.xs M1 with
      | .ok ys M5 => if ys.length ≤ sizeLine then (if mt then .ok (.loc M5.length) (M5 ++ [.lst ys]) else .ok (.list ys) M5) else .bad
      | _ => .bad
noncomputable def evs : List E → Env → Mem → Res (List D)
  | [], _, M => .ok [] M
  | e :: es, env, M => (ev e env M).bind fun d M1 => (evs es env M1).bind fun ds M2 => .ok (d :: ds) M2
end

/-! ### statements -/
/-- an exception's fields, newest first: field and the slot (1 ..) of the argument -/
def exnOf : List (Str × Nat) → List D → List (Str × D) → Option (List (Str × D))
  | [], _, fs => some fs
  | (g, j) :: r, ds, fs => match j with
    | 0 => none
    | i + 1 => match ds[i]? with
      | some d => exnOf r ds ((g, d) :: fs)
      | none => none
/-- a loop's turns -/
noncomputable def forLoop (w : Walk) (f : D → Env → Mem → SRes) : List D → Env → Mem → SRes
  | [], env, M => open Classical in if w.Ok M then .done .nx env M else .bad
  | x :: xs, env, M => open Classical in if w.Ok M then match f x env M with
      | .done .nx env1 M1 => forLoop w f xs env1 M1
      | .done .ct env1 M1 => forLoop w f xs env1 M1
      | .done .bk env1 M1 => .done .nx env1 M1
      | .done (.rt d) env1 M1 => .done (.rt d) env1 M1
      | .done (.ex x) env1 M1 => .done (.ex x) env1 M1
      | .bad => .bad
    else .bad
mutual
noncomputable def exec : S → Env → Mem → SRes
  | .asg t e, env, M => (ev call e env M).sb env fun d M1 => match store env d t with
    | some env1 => .done .nx env1 M1
    | none => .bad
  | .setIx o i e, env, M => (ev call e env M).sb env fun d M1 => (ev call o env M1).sb env fun od M2 => (ev call i env M2).sb env fun id M3 => match prSetIdx M3 [od, id, d] with
    | some (_, M4) => .done .nx env M4
    | none => .bad
  | .aug i p e, env, M => match env[i]? with
    | some (some d) => (ev call e env M).sb env fun d2 M1 => match pr p M1 [d, d2] with
      | some (d3, M2) => .done .nx (env.set i (some d3)) M2
      | none => .bad
    | _ => .bad
  | .augIx o i p e, env, M => (ev call o env M).sb env fun od M1 => (ev call i env M1).sb env fun id M2 => match prIdxL M2 [od, id] with
    | none => .bad
    | some (old, M3) => (ev call e env M3).sb env fun d2 M4 => match pr p M4 [old, d2] with
      | none => .bad
      | some (nw, M5) => match prSetIdx M5 [od, id, nw] with
        | some (_, M6) => .done .nx env M6
        | none => .bad
  | .ex e, env, M => (ev call e env M).sb env fun _ M1 => .done .nx env M1
  | .ret e, env, M => (ev call e env M).sb env fun d M1 => .done (.rt d) env M1
  | .retN, env, M => .done (.rt .non) env M
  | .ife c a b, env, M => (ev call c env M).sb env fun d M1 => match truth M1 d with
    | some true => execs a env M1
    | some false => execs b env M1
    | none => .bad
  | .for_ t k src body, env, M => (evs call src env M).sb env fun ds M1 => match walk M1 k ds with
    | none => .bad
    | some w => forLoop w (fun x env2 M2 => match store env2 x t with
        | none => .bad
        | some env3 => execs body env3 M2) w.xs env M1
  | .raise c n fs es, env, M => (evs call es env M).sb env fun ds M1 => match (if ds.length = n then exnOf fs ds [] else none) with
    | some xs => .done (.ex ⟨c, xs⟩) env M1
    | none => .bad
  | .try_ body yes i suite, env, M => match execs body env M with
    | .done (.ex x) env1 M1 => if x.cls ∈ yes then (match execs suite (env1.set i (some (.err x.cls (x.fs.map (·.1)) (x.fs.map (·.2))))) M1 with
        | .done (.ex _) _ _ => .bad
        | .done f env2 M2 => .done f (env2.set i none) M2
        | .bad => .bad)
      else .bad
    | r => r
  | .pass, env, M => .done .nx env M
  | .brk, env, M => .done .bk env M
  | .cont, env, M => .done .ct env M
  | .never, _, _ => .bad
noncomputable def execs : List S → Env → Mem → SRes
  | [], env, M => .done .nx env M
  | s :: ss, env, M => match exec s env M with
    | .done .nx env1 M1 => execs ss env1 M1
    | r => r
end
end

/-! ### calls -/
mutual
/-- no cell from n on is named -/
def below (n : Nat) : D → Bool
  | .loc k => decide (k < n)
  | .list xs => belows n xs
  | .klist xs => belows n xs
  | .tup xs => belows n xs
  | .err _ _ xs => belows n xs
  | _ => true
def belows (n : Nat) : List D → Bool
  | [] => true
  | d :: ds => below n d && belows n ds
end
def belowC (n : Nat) : Cell → Bool
  | .lst xs => belows n xs
  | .obj _ fs => belows n (fs.map (·.2))
  | .dead => true
/-- behind a call the cells that the call made are let go, if nothing names them -/
def CanTrim (M : Mem) (d : D) (M' : Mem) : Prop := below M.length d = true ∧ M.length ≤ M'.length ∧ ∀ k, k < M.length → M'[k]? = M[k]? ∨ ∃ c, M'[k]? = some c ∧ belowC M.length c = true
open Classical in
noncomputable def trim (M : Mem) (d : D) (M' : Mem) : Mem := if CanTrim M d M' then M'.take M.length else M'
/-- a def: how many parameters, how many names, its body -/
structure Def where
  par : Nat
  names : Nat
  body : List S
noncomputable def run (fs : List Def) : Nat → Nat → List D → Mem → Res D
  | 0, _, _, _ => .bad
  | n + 1, f, ds, M => match fs[f]? with
    | none => .bad
    | some d => if ds.length = d.par then match execs (run fs n) d.body (ds.map some ++ List.replicate (d.names - ds.length) none) M with
        | .done (.rt r) _ M1 => .ok r (trim M r M1)
        | .done .nx _ M1 => .ok .non (trim M .non M1)
        | .done (.ex x) _ M1 => .exc x M1
        | _ => .bad
      else .bad
end DP

/-! DP.Rel: how data and memory stand in the abstract heap. -/
namespace DP
open PySem PySem.Spec PyProof.Rows L2

/-- the frozen part of the abstract heap; the cells' addresses -/
structure G where
  F : Hp
  a : List Addr

/-- the classes' addresses, by their numbers -/
class ClsMap where
  m : Nat → Option Addr

mutual
inductive Rep [ClsMap] (K : PySem.W.Frag) (g : G) : V → D → Prop
  | non : Rep K g .non .non
  | bl (b : Bool) : Rep K g (.bl b) (.bl b)
  | int (i : Int) : Rep K g (.int i) (.int i)
  | str (s : Str) : Rep K g (.str s) (.str s)
  | lst {a : Addr} {vs : List V} {ds : List D} : g.F a = some (.lst vs) → Reps K g vs ds → Rep K g (.ref a) (.list ds)
  | klst {a : Addr} {vs : List V} {ds : List D} : SqL K g.F a vs → Reps K g vs ds → Rep K g (.ref a) (.klist ds)
  | tup {a : Addr} {vs : List V} {ds : List D} : SqT K g.F a vs → Reps K g vs ds → Rep K g (.ref a) (.tup ds)
  | loc {n : Nat} {a : Addr} : g.a[n]? = some a → Rep K g (.ref a) (.loc n)
  | err {a dx C : Addr} {oe : Obj} {c : Nat} {ns : List Str} {vs : List V} {ds : List D} : g.F a = some (.frz oe (.own a)) → oe.cls = .ref C → oe.dict = some dx → (∃ ws, oe.data = .fields ws) → ClsMap.m c = some C → g.F dx = some (.xd (ns.zip vs)) → Reps K g vs ds → Rep K g (.ref a) (.err c ns ds)
inductive Reps [ClsMap] (K : PySem.W.Frag) (g : G) : List V → List D → Prop
  | nil : Reps K g [] []
  | cons {v : V} {vs : List V} {d : D} {ds : List D} : Rep K g v d → Reps K g vs ds → Reps K g (v :: vs) (d :: ds)
end

variable [ClsMap]
/-- a later ghost -/
structure Le (g g' : G) : Prop where
  F : Same g.F g'.F
  a : ∃ l, g'.a = g.a ++ l
theorem Le.refl (g : G) : Le g g := ⟨Same.refl _, [], by simp⟩
theorem Le.trans {g g1 g2 : G} (h : Le g g1) (k : Le g1 g2) : Le g g2 := by
  obtain ⟨l, e⟩ := h.a
  obtain ⟨m, f⟩ := k.a
  exact ⟨h.F.trans k.F, l ++ m, by rw [f, e, List.append_assoc]⟩
theorem Le.at {g g' : G} (h : Le g g') {n : Nat} {a : Addr} (e : g.a[n]? = some a) : g'.a[n]? = some a := by
  obtain ⟨l, q⟩ := h.a
  rw [q, List.getElem?_append_left (List.getElem?_eq_some_iff.mp e).1]
  exact e
theorem Same.sqT {K : PySem.W.Frag} {H H' : Hp} {a : Addr} {xs : List V} (e : Same H H') (h : SqT K H a xs) : SqT K H' a xs := by
  rcases h with (h | ⟨o, h⟩) | h
  · exact .inl (.inl (e _ _ h))
  · exact .inl (.inr ⟨o, e _ _ h⟩)
  · exact .inr h
section
variable {K : PySem.W.Frag} {g g' : G}
mutual
theorem Rep.mono (h : Le g g') : ∀ {v : V} {d : D}, Rep K g v d → Rep K g' v d
  | _, _, .non => .non
  | _, _, .bl b => .bl b
  | _, _, .int i => .int i
  | _, _, .str s => .str s
  | _, _, .lst e r => .lst (h.F _ _ e) (Reps.mono h r)
  | _, _, .klst e r => .klst (h.F.seq e) (Reps.mono h r)
  | _, _, .tup e r => .tup (DP.Same.sqT h.F e) (Reps.mono h r)
  | _, _, .loc e => .loc (h.at e)
  | _, _, .err e1 e2 e3 e4 e5 e6 r => .err (h.F _ _ e1) e2 e3 e4 e5 (h.F _ _ e6) (Reps.mono h r)
theorem Reps.mono (h : Le g g') : ∀ {vs : List V} {ds : List D}, Reps K g vs ds → Reps K g' vs ds
  | _, _, .nil => .nil
  | _, _, .cons a b => .cons (Rep.mono h a) (Reps.mono h b)
end
theorem Reps.len : ∀ {vs : List V} {ds : List D}, Reps K g vs ds → vs.length = ds.length
  | _, _, .nil => rfl
  | _, _, .cons _ b => by simp [Reps.len b]
theorem Reps.get : ∀ {vs : List V} {ds : List D} {i : Nat} {d : D}, Reps K g vs ds → ds[i]? = some d → ∃ v, vs[i]? = some v ∧ Rep K g v d
  | _, _, _, _, .nil, e => by simp at e
  | _, _, 0, _, .cons a _, e => by simp at e; subst e; exact ⟨_, rfl, a⟩
  | _, _, i + 1, _, .cons _ b, e => by
    obtain ⟨v, h1, h2⟩ := Reps.get (i := i) b (by simpa using e)
    exact ⟨v, by simpa using h1, h2⟩
theorem Reps.getV : ∀ {vs : List V} {ds : List D} {i : Nat} {v : V}, Reps K g vs ds → vs[i]? = some v → ∃ d, ds[i]? = some d ∧ Rep K g v d
  | _, _, _, _, .nil, e => by simp at e
  | _, _, 0, _, .cons a _, e => by simp at e; subst e; exact ⟨_, rfl, a⟩
  | _, _, i + 1, _, .cons _ b, e => by
    obtain ⟨v, h1, h2⟩ := Reps.getV (i := i) b (by simpa using e)
    exact ⟨v, by simpa using h1, h2⟩
theorem Reps.append : ∀ {vs : List V} {ds : List D} {ws : List V} {es : List D}, Reps K g vs ds → Reps K g ws es → Reps K g (vs ++ ws) (ds ++ es)
  | _, _, _, _, .nil, q => q
  | _, _, _, _, .cons a b, q => .cons a (Reps.append b q)
theorem Reps.take : ∀ {vs : List V} {ds : List D} (n : Nat), Reps K g vs ds → Reps K g (vs.take n) (ds.take n)
  | _, _, 0, _ => .nil
  | _, _, _ + 1, .nil => .nil
  | _, _, n + 1, .cons a b => .cons a (Reps.take n b)
theorem Reps.drop : ∀ {vs : List V} {ds : List D} (n : Nat), Reps K g vs ds → Reps K g (vs.drop n) (ds.drop n)
  | _, _, 0, r => r
  | _, _, _ + 1, .nil => .nil
  | _, _, n + 1, .cons _ b => Reps.drop n b
theorem Reps.set {v : V} {d : D} (r : Rep K g v d) : ∀ {vs : List V} {ds : List D} (n : Nat), Reps K g vs ds → Reps K g (vs.set n v) (ds.set n d)
  | _, _, _, .nil => .nil
  | _, _, 0, .cons _ b => .cons r b
  | _, _, n + 1, .cons a b => .cons a (Reps.set r n b)
theorem Reps.cut {vs : List V} {ds : List D} (lo hi : Option Int) (r : Reps K g vs ds) : Reps K g (cutV vs lo hi) (cutD ds lo hi) := by
  unfold cutV cutD
  rw [r.len]
  exact (r.drop _).take _
theorem Reps.rep {vs : List V} {ds : List D} (r : Reps K g vs ds) : ∀ k : Nat, Reps K g (List.replicate k vs).flatten (List.replicate k ds).flatten
  | 0 => .nil
  | k + 1 => by
    rw [List.replicate_succ, List.replicate_succ, List.flatten_cons, List.flatten_cons]
    exact r.append (Reps.rep r k)
end

def CellOk (K : PySem.W.Frag) (g : G) (H : Hp) (a : Addr) : Cell → Prop
  | .lst ds => g.F a = none ∧ ∃ vs, H a = some (.lst vs) ∧ Reps K g vs ds
  | .obj _ _ => False
  | .dead => True
structure RelM (K : PySem.W.Frag) (g : G) (M : Mem) (H : Hp) : Prop where
  sub : Same g.F H
  len : g.a.length = M.length
  nd : g.a.Nodup
  live : ∀ a ∈ g.a, H a ≠ none
  cell : ∀ (n : Nat) (a : Addr) (c : Cell), g.a[n]? = some a → M[n]? = some c → CellOk K g H a c
/-- from here to there: what is no cell stays, new cells are new -/
structure Stp (g : G) (H : Hp) (g' : G) (H' : Hp) : Prop where
  le : Le g g'
  keep : ∀ b o, H b = some o → b ∉ g.a → H' b = some o ∧ b ∉ g'.a ∧ g'.F b = g.F b
theorem Stp.refl {g : G} {H : Hp} : Stp g H g H := ⟨Le.refl g, fun _ _ e n => ⟨e, n, rfl⟩⟩
theorem Stp.trans {g g1 g2 : G} {H H1 H2 : Hp} (h : Stp g H g1 H1) (k : Stp g1 H1 g2 H2) : Stp g H g2 H2 :=
  ⟨h.le.trans k.le, fun b o e n => let ⟨e1, n1, f1⟩ := h.keep b o e n; let ⟨e2, n2, f2⟩ := k.keep b o e1 n1; ⟨e2, n2, f2.trans f1⟩⟩

section
variable {K : PySem.W.Frag} {g : G} {M : Mem} {H : Hp}
/-- a new object that never changes -/
theorem RelM.froze (R : RelM K g M H) {p : Addr} {o : HO} (hp : H p = none) : RelM K ⟨upd g.F p o, g.a⟩ M (upd H p o) ∧ Stp g H ⟨upd g.F p o, g.a⟩ (upd H p o) := by
  have hF : g.F p = none := R.sub.free hp
  have le : Le g ⟨upd g.F p o, g.a⟩ := ⟨fun b u e => by show upd g.F p o b = _; rw [upd_ne (ne_of_none e hF)]; exact e, [], by simp⟩
  have np : p ∉ g.a := fun m => R.live p m hp
  refine ⟨⟨fun b u e => ?_, R.len, R.nd, fun a m => ?_, fun n a c e1 e2 => ?_⟩, le, fun b u e n => ⟨by rw [upd_ne (ne_of_none e hp)]; exact e, n, by show upd g.F p o b = _; rw [upd_ne (ne_of_none e hp)]⟩⟩
  · by_cases hb : b = p
    · subst hb
      have e : upd g.F b o b = some u := e
      rw [upd_same] at e ⊢
      exact e
    · have e : upd g.F p o b = some u := e
      rw [upd_ne hb] at e ⊢
      exact R.sub b u e
  · by_cases hb : a = p
    · subst hb
      rw [upd_same]
      simp
    · rw [upd_ne hb]
      exact R.live a m
  · have q := R.cell n a c e1 e2
    have ha : a ≠ p := fun z => np (z ▸ List.mem_of_getElem? e1)
    cases c with
    | dead => trivial
    | obj _ _ => exact q
    | lst ds =>
      obtain ⟨q1, vs, q2, q3⟩ := q
      exact ⟨by show upd g.F p o a = none; rw [upd_ne ha]; exact q1, vs, by rw [upd_ne ha]; exact q2, q3.mono le⟩
/-- a new cell -/
theorem RelM.born (R : RelM K g M H) {p : Addr} {vs : List V} {ds : List D} (hp : H p = none) (r : Reps K g vs ds) :
    RelM K ⟨g.F, g.a ++ [p]⟩ (M ++ [.lst ds]) (upd H p (.lst vs)) ∧ Stp g H ⟨g.F, g.a ++ [p]⟩ (upd H p (.lst vs)) ∧ Rep K ⟨g.F, g.a ++ [p]⟩ (.ref p) (.loc M.length) := by
  have hF : g.F p = none := R.sub.free hp
  have le : Le g ⟨g.F, g.a ++ [p]⟩ := ⟨Same.refl _, [p], rfl⟩
  have np : p ∉ g.a := fun m => R.live p m hp
  refine ⟨⟨fun b u e => ?_, ?_, ?_, fun a m => ?_, fun n a c e1 e2 => ?_⟩, ⟨le, fun b u e n => ⟨by rw [upd_ne (ne_of_none e hp)]; exact e, ?_, rfl⟩⟩, ?_⟩
  · rw [upd_ne (ne_of_none e hF)]
    exact R.sub b u e
  · show (g.a ++ [p]).length = _
    rw [List.length_append, List.length_append, R.len]
    rfl
  · show (g.a ++ [p]).Nodup
    rw [List.nodup_append]
    exact ⟨R.nd, by simp, fun a ha b hb => by simp at hb; subst hb; exact fun z => np (z ▸ ha)⟩
  · rcases List.mem_append.mp m with m | m
    · rw [upd_ne (show a ≠ p from fun z => np (z ▸ m))]
      exact R.live a m
    · simp at m
      subst m
      rw [upd_same]
      simp
  · by_cases hn : n < M.length
    · have e1 : (g.a ++ [p])[n]? = some a := e1
      rw [List.getElem?_append_left (by rw [R.len]; exact hn)] at e1
      rw [List.getElem?_append_left hn] at e2
      have q := R.cell n a c e1 e2
      have ha : a ≠ p := fun z => np (z ▸ List.mem_of_getElem? e1)
      cases c with
      | dead => trivial
      | obj _ _ => exact q
      | lst ds =>
        obtain ⟨q1, vs, q2, q3⟩ := q
        exact ⟨q1, vs, by rw [upd_ne ha]; exact q2, q3.mono le⟩
    · have hl : n < (M ++ [Cell.lst ds]).length := (List.getElem?_eq_some_iff.mp e2).1
      rw [List.length_append] at hl
      have hn' : n = M.length := by simp at hl; omega
      subst hn'
      rw [List.getElem?_append_right (Nat.le_refl _)] at e2
      have e1 : (g.a ++ [p])[M.length]? = some a := e1
      rw [← R.len, List.getElem?_append_right (Nat.le_refl _)] at e1
      simp at e1
      subst e1
      simp at e2
      subst e2
      exact ⟨hF, vs, upd_same, r.mono le⟩
  · show b ∉ g.a ++ [p]
    rw [List.mem_append]
    rintro (m | m)
    · exact n m
    · simp at m
      subst m
      rw [hp] at e
      cases e
  · refine .loc ?_
    show (g.a ++ [p])[M.length]? = some p
    rw [← R.len, List.getElem?_append_right (Nat.le_refl _)]
    simp
/-- a cell's list changes -/
theorem RelM.put (R : RelM K g M H) {n : Nat} {p : Addr} {xs : List D} {vs : List V} {ds : List D} (ha : g.a[n]? = some p) (hc : M[n]? = some (.lst xs)) (r : Reps K g vs ds) :
    RelM K g (M.set n (.lst ds)) (upd H p (.lst vs)) ∧ Stp g H g (upd H p (.lst vs)) := by
  have q0 : g.F p = none := (R.cell n p _ ha hc).1
  have hm : p ∈ g.a := List.mem_of_getElem? ha
  refine ⟨⟨fun b u e => ?_, by rw [List.length_set]; exact R.len, R.nd, fun a m => ?_, fun k a c e1 e2 => ?_⟩, ⟨Le.refl g, fun b u e n => ⟨by rw [upd_ne (show b ≠ p from fun z => n (z ▸ hm))]; exact e, n, rfl⟩⟩⟩
  · rw [upd_ne (ne_of_none e q0)]
    exact R.sub b u e
  · by_cases hb : a = p
    · subst hb
      rw [upd_same]
      simp
    · rw [upd_ne hb]
      exact R.live a m
  · by_cases hk : k = n
    · subst hk
      rw [ha] at e1
      cases e1
      rw [List.getElem?_set_self (List.getElem?_eq_some_iff.mp hc).1] at e2
      cases e2
      exact ⟨q0, vs, upd_same, r⟩
    · rw [List.getElem?_set_ne (Ne.symm hk)] at e2
      have q := R.cell k a c e1 e2
      have hne : a ≠ p := fun z => by
        subst z
        have h1 := List.getElem?_eq_some_iff.mp e1
        have h2 := List.getElem?_eq_some_iff.mp ha
        exact hk ((List.getElem_inj R.nd).mp (h1.2.trans h2.2.symm))
      cases c with
      | dead => trivial
      | obj _ _ => exact q
      | lst zs =>
        obtain ⟨q1, ws, q2, q3⟩ := q
        exact ⟨q1, ws, by rw [upd_ne hne]; exact q2, q3⟩
/-- a cell is frozen: its list, as data now -/
theorem RelM.kill (R : RelM K g M H) {n : Nat} {p : Addr} {xs : List D} (ha : g.a[n]? = some p) (hc : M[n]? = some (.lst xs)) :
    ∃ vs, H p = some (.lst vs) ∧ Reps K g vs xs ∧ RelM K ⟨upd g.F p (.lst vs), g.a⟩ (M.set n .dead) H ∧ Stp g H ⟨upd g.F p (.lst vs), g.a⟩ H := by
  obtain ⟨q0, vs, q1, q2⟩ := R.cell n p _ ha hc
  have le : Le g ⟨upd g.F p (.lst vs), g.a⟩ := ⟨fun b u e => by show upd g.F p (.lst vs) b = _; rw [upd_ne (ne_of_none e q0)]; exact e, [], by simp⟩
  have hm : p ∈ g.a := List.mem_of_getElem? ha
  refine ⟨vs, q1, q2, ⟨fun b u e => ?_, by rw [List.length_set]; exact R.len, R.nd, R.live, fun k a c e1 e2 => ?_⟩, ⟨le, fun b o e n => ⟨e, n, by show upd g.F p (.lst vs) b = _; rw [upd_ne (show b ≠ p from fun z => n (z ▸ hm))]⟩⟩⟩
  · by_cases hb : b = p
    · subst hb
      have e : upd g.F b (.lst vs) b = some u := e
      rw [upd_same] at e
      cases e
      exact q1
    · have e : upd g.F p (.lst vs) b = some u := e
      rw [upd_ne hb] at e
      exact R.sub b u e
  · by_cases hk : k = n
    · subst hk
      rw [List.getElem?_set_self (List.getElem?_eq_some_iff.mp hc).1] at e2
      cases e2
      trivial
    · rw [List.getElem?_set_ne (Ne.symm hk)] at e2
      have q := R.cell k a c e1 e2
      have hne : a ≠ p := fun z => by
        subst z
        have h1 := List.getElem?_eq_some_iff.mp e1
        have h2 := List.getElem?_eq_some_iff.mp ha
        exact hk ((List.getElem_inj R.nd).mp (h1.2.trans h2.2.symm))
      cases c with
      | dead => trivial
      | obj _ _ => exact q
      | lst zs =>
        obtain ⟨q1, ws, q2, q3⟩ := q
        exact ⟨by show upd g.F p (.lst vs) a = none; rw [upd_ne hne]; exact q1, ws, q2, q3.mono le⟩
end

section
variable {K : PySem.W.Frag} {g : G} {M : Mem} {H : Hp}
/-- an object beside -/
theorem RelM.off (R : RelM K g M H) {p : Addr} {o : HO} (hF : g.F p = none) (ha : p ∉ g.a) : RelM K g M (upd H p o) := by
  refine ⟨fun b u e => ?_, R.len, R.nd, fun a m => ?_, fun n a c e1 e2 => ?_⟩
  · rw [upd_ne (ne_of_none e hF)]
    exact R.sub b u e
  · rw [upd_ne (show a ≠ p from fun z => ha (z ▸ m))]
    exact R.live a m
  · have q := R.cell n a c e1 e2
    have hne : a ≠ p := fun z => ha (z ▸ List.mem_of_getElem? e1)
    cases c with
    | dead => trivial
    | obj _ _ => exact q
    | lst zs =>
      obtain ⟨q1, ws, q2, q3⟩ := q
      exact ⟨q1, ws, by rw [upd_ne hne]; exact q2, q3⟩
/-- an object beside becomes a frozen one -/
theorem RelM.seal (R : RelM K g M H) {p : Addr} {o : HO} (hp : H p = some o) (hF : g.F p = none) (ha : p ∉ g.a) : RelM K ⟨upd g.F p o, g.a⟩ M H ∧ Le g ⟨upd g.F p o, g.a⟩ := by
  have le : Le g ⟨upd g.F p o, g.a⟩ := ⟨fun b u e => by show upd g.F p o b = _; rw [upd_ne (ne_of_none e hF)]; exact e, [], by simp⟩
  refine ⟨⟨fun b u e => ?_, R.len, R.nd, R.live, fun n a c e1 e2 => ?_⟩, le⟩
  · by_cases hb : b = p
    · subst hb
      have e : upd g.F b o b = some u := e
      rw [upd_same] at e
      cases e
      exact hp
    · have e : upd g.F p o b = some u := e
      rw [upd_ne hb] at e
      exact R.sub b u e
  · have q := R.cell n a c e1 e2
    have hne : a ≠ p := fun z => ha (z ▸ List.mem_of_getElem? e1)
    cases c with
    | dead => trivial
    | obj _ _ => exact q
    | lst zs =>
      obtain ⟨q1, ws, q2, q3⟩ := q
      exact ⟨by show upd g.F p o a = none; rw [upd_ne hne]; exact q1, ws, q2, q3.mono le⟩
/-- an object beside becomes a cell -/
theorem RelM.adopt (R : RelM K g M H) {p : Addr} {vs : List V} {ds : List D} (hp : H p = some (.lst vs)) (hF : g.F p = none) (ha : p ∉ g.a) (r : Reps K g vs ds) :
    RelM K ⟨g.F, g.a ++ [p]⟩ (M ++ [.lst ds]) H ∧ Le g ⟨g.F, g.a ++ [p]⟩ ∧ Rep K ⟨g.F, g.a ++ [p]⟩ (.ref p) (.loc M.length) := by
  have le : Le g ⟨g.F, g.a ++ [p]⟩ := ⟨Same.refl _, [p], rfl⟩
  refine ⟨⟨R.sub, ?_, ?_, fun a m => ?_, fun n a c e1 e2 => ?_⟩, le, ?_⟩
  · show (g.a ++ [p]).length = _
    rw [List.length_append, List.length_append, R.len]
    rfl
  · show (g.a ++ [p]).Nodup
    rw [List.nodup_append]
    exact ⟨R.nd, by simp, fun a h b hb => by simp at hb; subst hb; exact fun z => ha (z ▸ h)⟩
  · rcases List.mem_append.mp m with m | m
    · exact R.live a m
    · simp at m
      subst m
      rw [hp]
      simp
  · by_cases hn : n < M.length
    · have e1 : (g.a ++ [p])[n]? = some a := e1
      rw [List.getElem?_append_left (by rw [R.len]; exact hn)] at e1
      rw [List.getElem?_append_left hn] at e2
      have q := R.cell n a c e1 e2
      cases c with
      | dead => trivial
      | obj _ _ => exact q
      | lst ds =>
        obtain ⟨q1, vs, q2, q3⟩ := q
        exact ⟨q1, vs, q2, q3.mono le⟩
    · have hl : n < (M ++ [Cell.lst ds]).length := (List.getElem?_eq_some_iff.mp e2).1
      rw [List.length_append] at hl
      have hn' : n = M.length := by simp at hl; omega
      subst hn'
      rw [List.getElem?_append_right (Nat.le_refl _)] at e2
      have e1 : (g.a ++ [p])[M.length]? = some a := e1
      rw [← R.len, List.getElem?_append_right (Nat.le_refl _)] at e1
      simp at e1
      subst e1
      simp at e2
      subst e2
      exact ⟨hF, vs, hp, r.mono le⟩
  · refine .loc ?_
    show (g.a ++ [p])[M.length]? = some p
    rw [← R.len, List.getElem?_append_right (Nat.le_refl _)]
    simp
end
/-- the slots -/
def RelE (K : PySem.W.Frag) (g : G) (env : Env) (σ : L2.St) : Prop := env.length = σ.length ∧ ∀ (i : Nat) (d : D), env[i]? = some (some d) → ∃ v, σ[i]? = some (some v) ∧ Rep K g v d
theorem RelE.mono {K : PySem.W.Frag} {g g' : G} {env : Env} {σ : L2.St} (h : Le g g') (r : RelE K g env σ) : RelE K g' env σ :=
  ⟨r.1, fun i d e => let ⟨v, e1, q⟩ := r.2 i d e; ⟨v, e1, q.mono h⟩⟩
theorem RelE.set {K : PySem.W.Frag} {g : G} {env : Env} {σ : L2.St} {v : V} {d : D} (r : RelE K g env σ) (q : Rep K g v d) (i : Nat) : RelE K g (env.set i (some d)) (σ.set i (some v)) := by
  refine ⟨by rw [List.length_set, List.length_set]; exact r.1, fun j e h => ?_⟩
  by_cases hj : i = j
  · subst hj
    have hl : i < env.length := by
      have := (List.getElem?_eq_some_iff.mp h).1
      rwa [List.length_set] at this
    rw [List.getElem?_set_self hl] at h
    cases h
    exact ⟨v, List.getElem?_set_self (by rw [← r.1]; exact hl), q⟩
  · rw [List.getElem?_set_ne hj] at h
    rw [List.getElem?_set_ne hj]
    exact r.2 j e h
theorem wipeE_some {env : Env} {i : Nat} {x : D} : ∀ {vs : List Nat}, (wipeE env vs)[i]? = some (some x) → env[i]? = some (some x) ∧ i ∉ vs
  | [], h => ⟨h, by simp⟩
  | v :: vs, h => by
    unfold wipeE at h
    by_cases hi : v = i
    · subst hi
      by_cases hv : v < (wipeE env vs).length
      · rw [List.getElem?_set_self hv] at h; cases h
      · rw [List.getElem?_eq_none (by simpa using hv)] at h; cases h
    · rw [List.getElem?_set_ne hi] at h
      obtain ⟨h1, h2⟩ := wipeE_some h
      exact ⟨h1, by simp only [List.mem_cons, not_or]; exact ⟨fun e => hi e.symm, h2⟩⟩
theorem wipeE_length (env : Env) : ∀ vs : List Nat, (wipeE env vs).length = env.length
  | [] => rfl
  | v :: vs => by unfold wipeE; rw [List.length_set, wipeE_length env vs]
theorem wipe_out' {σ : L2.St} {i : Nat} : ∀ {vs : List Nat}, i ∉ vs → (wipe σ vs)[i]? = σ[i]?
  | [], _ => rfl
  | v :: vs, h => by
    have h1 : v ≠ i := fun e => h (by rw [e]; exact List.mem_cons_self)
    have h2 : i ∉ vs := fun m => h (List.mem_cons_of_mem _ m)
    unfold wipe
    rw [List.getElem?_set_ne h1]
    exact wipe_out' h2
theorem RelE.wipe {K : PySem.W.Frag} {g : G} {env : Env} {σ : L2.St} (r : RelE K g env σ) (vs : List Nat) : RelE K g (wipeE env vs) (L2.wipe σ vs) := by
  refine ⟨by rw [wipeE_length, wipe_length]; exact r.1, fun i d h => ?_⟩
  obtain ⟨h1, h2⟩ := wipeE_some h
  rw [wipe_out' h2]
  exact r.2 i d h1

/-! ### data by their parts, in the heap -/
section
variable {K : PySem.W.Frag} {g : G} {M : Mem} {H : Hp}
theorem RelM.asL (R : RelM K g M H) {d : D} {v : V} {xs : List D} (r : Rep K g v d) (h : DP.asL M d = some xs) : ∃ a vs, v = .ref a ∧ SqL K H a vs ∧ Reps K g vs xs := by
  cases r with
  | lst e q => cases h; exact ⟨_, _, rfl, SqL.of (R.sub _ _ e), q⟩
  | klst e q => cases h; exact ⟨_, _, rfl, R.sub.seq e, q⟩
  | @loc n a e =>
    simp only [DP.asL] at h
    split at h
    · rename_i ys hc
      cases h
      obtain ⟨_, vs, q1, q2⟩ := R.cell n a _ e hc
      exact ⟨a, vs, rfl, SqL.of q1, q2⟩
    · cases h
  | _ => cases h
theorem RelM.asLL (R : RelM K g M H) {d : D} {v : V} {xs : List D} (r : Rep K g v d) (h : DP.asLL M d = some xs) : ∃ a vs, v = .ref a ∧ H a = some (.lst vs) ∧ Reps K g vs xs := by
  cases r with
  | lst e q => cases h; exact ⟨_, _, rfl, R.sub _ _ e, q⟩
  | klst e q => cases h
  | @loc n a e =>
    simp only [DP.asLL, DP.asL] at h
    split at h
    · rename_i ys hc
      cases h
      obtain ⟨_, vs, q1, q2⟩ := R.cell n a _ e hc
      exact ⟨a, vs, rfl, q1, q2⟩
    · cases h
  | _ => cases h
theorem RelM.asT (R : RelM K g M H) {d : D} {v : V} {xs : List D} (r : Rep K g v d) (h : DP.asT d = some xs) : ∃ a vs, v = .ref a ∧ SqT K H a vs ∧ Reps K g vs xs := by
  cases r with
  | tup e q => cases h; exact ⟨_, _, rfl, DP.Same.sqT R.sub e, q⟩
  | _ => cases h
theorem RelM.asSeq (R : RelM K g M H) {d : D} {v : V} {xs : List D} (r : Rep K g v d) (h : DP.asSeq M d = some xs) : ∃ a vs, v = .ref a ∧ (SqL K H a vs ∨ SqT K H a vs) ∧ Reps K g vs xs := by
  cases r with
  | tup e q => cases h; exact ⟨_, _, rfl, .inr (DP.Same.sqT R.sub e), q⟩
  | lst e q => cases h; exact ⟨_, _, rfl, .inl (SqL.of (R.sub _ _ e)), q⟩
  | klst e q => cases h; exact ⟨_, _, rfl, .inl (R.sub.seq e), q⟩
  | loc e =>
    obtain ⟨a, vs, e1, e2, e3⟩ := R.asL (.loc e) h
    exact ⟨a, vs, e1, .inl e2, e3⟩
  | _ => cases h
mutual
theorem Rep.py (R : RelM K g M H) {n : Nat} : ∀ (d : D) (v : V) (p : PyData), Rep K g v d → DP.py M n d = some p → Dp K H v p
  | .non, _, _, r, h => by cases r; cases h; exact .non
  | .bl b, _, _, r, h => by cases r; cases h; exact .bl b
  | .int i, _, _, r, h => by cases r; cases h; exact .int i
  | .str s, _, _, r, h => by cases r; cases h; exact .str s
  | .list xs, _, _, r, h => by
    cases r with
    | lst e q =>
      simp only [DP.py, Option.map_eq_some_iff] at h
      obtain ⟨ps, h, rfl⟩ := h
      exact .lst (SqL.of (R.sub _ _ e)) (Reps.py R xs _ _ q h)
  | .klist xs, _, _, r, h => by
    cases r with
    | klst e q =>
      simp only [DP.py, Option.map_eq_some_iff] at h
      obtain ⟨ps, h, rfl⟩ := h
      exact .lst (R.sub.seq e) (Reps.py R xs _ _ q h)
  | .tup xs, _, _, r, h => by
    cases r with
    | tup e q =>
      simp only [DP.py, Option.map_eq_some_iff] at h
      obtain ⟨ps, h, rfl⟩ := h
      exact .tup (DP.Same.sqT R.sub e) (Reps.py R xs _ _ q h)
  | .loc _, _, _, _, h => by cases h
  | .err _ _ _, _, _, _, h => by cases h
theorem Reps.py (R : RelM K g M H) {n : Nat} : ∀ (ds : List D) (vs : List V) (ps : List PyData), Reps K g vs ds → DP.pys M n ds = some ps → DpAll K H vs ps
  | [], _, _, r, h => by cases r; cases h; exact .nil
  | d :: ds, _, _, r, h => by
    cases r with
    | cons a b =>
      simp only [DP.pys] at h
      split at h
      · rename_i x y h1 h2
        cases h
        exact .cons (Rep.py R d _ _ a h1) (Reps.py R ds _ _ b h2)
      · cases h
end
theorem RelM.pyM (R : RelM K g M H) {d : D} {v : V} {p : PyData} (r : Rep K g v d) (h : DP.pyM M d = some p) : Dp K H v p := by
  cases d with
  | loc n =>
    cases r with
    | loc e =>
      simp only [DP.pyM] at h
      split at h
      · rename_i ys hc
        simp only [Option.map_eq_some_iff] at h
        obtain ⟨ps, h, rfl⟩ := h
        obtain ⟨_, vs, q1, q2⟩ := R.cell n _ _ e hc
        exact .lst (SqL.of q1) (Reps.py R _ _ _ q2 h)
      · cases h
  | _ => exact Rep.py (n := 0) R _ _ _ r h
theorem RelM.truth (R : RelM K g M H) {d : D} {v : V} {b : Bool} (r : Rep K g v d) (h : DP.truth M d = some b) : TruV K v H b := by
  cases r with
  | non => cases h; rfl
  | bl b => cases h; rfl
  | int i => cases h; rfl
  | str s =>
    simp only [DP.truth] at h
    split at h
    · rename_i hl
      cases h
      exact ⟨hl, rfl⟩
    · cases h
  | lst e q =>
    cases h
    refine .inl ⟨_, SqL.of (R.sub _ _ e), ?_⟩
    cases q <;> rfl
  | klst e q =>
    cases h
    refine .inl ⟨_, R.sub.seq e, ?_⟩
    cases q <;> rfl
  | tup e q =>
    cases h
    refine .inr (.inl ⟨_, DP.Same.sqT R.sub e, ?_⟩)
    cases q <;> rfl
  | @loc n a e =>
    simp only [DP.truth, Option.map_eq_some_iff] at h
    obtain ⟨xs, h1, rfl⟩ := h
    obtain ⟨a', vs, e1, e2, e3⟩ := R.asL (.loc e) h1
    cases e1
    refine .inl ⟨_, e2, ?_⟩
    cases e3 <;> rfl
  | err => simp [DP.truth, DP.asL] at h
theorem Reps.strsOf : ∀ {vs : List V} {ds : List D} {ys : List Str}, Reps K g vs ds → DP.strsOf ds = some ys → vs = ys.map V.str
  | _, _, _, .nil, h => by cases h; rfl
  | _, _, _, .cons a b, h => by
    cases a with
    | str s =>
      simp only [DP.strsOf, Option.map_eq_some_iff] at h
      obtain ⟨zs, h, rfl⟩ := h
      rw [Reps.strsOf b h]
      rfl
    | _ => cases h
theorem Reps.intsOf : ∀ {vs : List V} {ds : List D} {ys : List Int}, Reps K g vs ds → DP.intsOf ds = some ys → vs = ys.map V.int
  | _, _, _, .nil, h => by cases h; rfl
  | _, _, _, .cons a b, h => by
    cases a with
    | int s =>
      simp only [DP.intsOf, Option.map_eq_some_iff] at h
      obtain ⟨zs, h, rfl⟩ := h
      rw [Reps.intsOf b h]
      rfl
    | _ => cases h
theorem Reps.boolsOf : ∀ {vs : List V} {ds : List D} {ys : List Bool}, Reps K g vs ds → DP.boolsOf ds = some ys → vs = ys.map V.bl
  | _, _, _, .nil, h => by cases h; rfl
  | _, _, _, .cons a b, h => by
    cases a with
    | bl s =>
      simp only [DP.boolsOf, Option.map_eq_some_iff] at h
      obtain ⟨zs, h, rfl⟩ := h
      rw [Reps.boolsOf b h]
      rfl
    | _ => cases h
theorem Reps.ofStrs : ∀ ys : List Str, Reps K g (ys.map V.str) (ys.map D.str)
  | [] => .nil
  | y :: ys => .cons (.str y) (Reps.ofStrs ys)
end
end DP

/-! DP.Prim: the primitive operations hold in the model. -/
namespace DP
open PySem PySem.Spec PyProof.Rows L2
variable [ClsMap]

def PostP (K : PySem.W.Frag) (g : G) (H : Hp) (r : PRes) (Q : VK) : Prop := match r with
  | none => False
  | some (d, M') => ∀ g' v H', Stp g H g' H' → RelM K g' M' H' → Rep K g' v d → Q v H'
def rP (K : PySem.W.Frag) (f : Mem → List D → PRes) (vs : List V) (H : Hp) (Q : VK) : Prop := ∃ g M ds, RelM K g M H ∧ Reps K g vs ds ∧ PostP K g H (f M ds) Q
def rP2 (K : PySem.W.Frag) (f : Mem → List D → PRes) : R2 := fun x y H Q => rP K f [x, y] H Q
section
variable {K : PySem.W.Frag} {g : G} {M : Mem} {H : Hp} {f : Mem → List D → PRes}
theorem Reps.one {x : V} {ds : List D} (r : Reps K g [x] ds) : ∃ a, ds = [a] ∧ Rep K g x a := by
  cases r with
  | cons a b =>
    cases b
    exact ⟨_, rfl, a⟩
theorem Reps.two {x y : V} {ds : List D} (r : Reps K g [x, y] ds) : ∃ a b, ds = [a, b] ∧ Rep K g x a ∧ Rep K g y b := by
  cases r with
  | cons a b =>
    obtain ⟨c, rfl, q⟩ := b.one
    exact ⟨_, _, rfl, a, q⟩
theorem rP.one {x : V} {Q : VK} (h : rP K f [x] H Q) : ∃ g M a, RelM K g M H ∧ Rep K g x a ∧ PostP K g H (f M [a]) Q := by
  obtain ⟨g, M, ds, R, r, q⟩ := h
  obtain ⟨a, rfl, ra⟩ := r.one
  exact ⟨g, M, a, R, ra, q⟩
theorem rP.two {x y : V} {Q : VK} (h : rP K f [x, y] H Q) : ∃ g M a b, RelM K g M H ∧ Rep K g x a ∧ Rep K g y b ∧ PostP K g H (f M [a, b]) Q := by
  obtain ⟨g, M, ds, R, r, q⟩ := h
  obtain ⟨a, b, rfl, ra, rb⟩ := r.two
  exact ⟨g, M, a, b, R, ra, rb, q⟩
/-- the memory as it was -/
theorem PostP.here {d : D} {v : V} {Q : VK} (R : RelM K g M H) (q : PostP K g H (some (d, M)) Q) (r : Rep K g v d) : Q v H := q g v H Stp.refl R r
/-- a new frozen object -/
theorem PostP.new {d : D} {Q : VK} (R : RelM K g M H) (q : PostP K g H (some (d, M)) Q) {p : Addr} {o : HO} (hp : H p = none) (r : ∀ g', Le g g' → g'.F p = some o → Rep K g' (.ref p) d) : Q (.ref p) (upd H p o) := by
  obtain ⟨R', st⟩ := R.froze (o := o) hp
  exact q _ _ _ st R' (r _ st.le upd_same)
end

section
variable {X : Cx}
theorem so_int2 {h : Value → Value → Sem Value} {C : Int → Int → Prop} {gg : Int → Int → V} {f : Mem → List D → PRes} (ho : OpR X h (rI C gg))
    (hf : ∀ M a b Q g H, PostP X.K g H (f M [a, b]) Q → ∃ i j, a = .int i ∧ b = .int j ∧ C i j ∧ (RelM X.K g M H → Q (gg i j) H)) : OpR X h (rP2 X.K f) := by
  intro pins s σ H x y v u Q I rx ry hq
  obtain ⟨g, M, a, b, R, ra, rb, q⟩ := rP.two hq
  obtain ⟨i, j, rfl, rfl, hc, k⟩ := hf M a b Q g H q
  cases ra
  cases rb
  exact ho pins s σ H _ _ v u Q I rx ry ⟨i, j, rfl, rfl, hc, k R⟩
theorem rI0_to {gg : Int → Int → V} {h : Value → Value → Sem Value} (ho : OpR X h (rI0 gg)) : OpR X h (rI (fun _ _ => True) gg) := by
  intro pins s σ H x y v u Q I rx ry ⟨i, j, e1, e2, _, q⟩
  exact ho pins s σ H x y v u Q I rx ry ⟨i, j, e1, e2, q⟩
theorem so_sub : OpR X (binaryOp .Sub) (rP2 X.K prSub) := by
  refine so_int2 (rI0_to op_sub) fun M a b Q g H q => ?_
  cases a <;> cases b <;> first | exact False.elim q | exact ⟨_, _, rfl, rfl, trivial, fun R => q.here R (.int _)⟩
theorem so_fdiv : OpR X (binaryOp .FloorDiv) (rP2 X.K prFdiv) := by
  refine so_int2 op_fdivW fun M a b Q g H q => ?_
  cases a <;> cases b <;> first | exact False.elim q | skip
  dsimp only [prFdiv] at q
  split at q
  · rename_i h
    exact ⟨_, _, rfl, rfl, h, fun R => q.here R (.int _)⟩
  · exact False.elim q
theorem so_mod : OpR X (binaryOp .Mod) (rP2 X.K prMod) := by
  refine so_int2 op_mod fun M a b Q g H q => ?_
  cases a <;> cases b <;> first | exact False.elim q | skip
  dsimp only [prMod] at q
  split at q
  · rename_i h
    exact ⟨_, _, rfl, rfl, h, fun R => q.here R (.int _)⟩
  · exact False.elim q
theorem so_pow : OpR X (binaryOp .Pow) (rP2 X.K prPow) := by
  refine so_int2 op_pow fun M a b Q g H q => ?_
  cases a <;> cases b <;> first | exact False.elim q | skip
  dsimp only [prPow] at q
  split at q
  · rename_i h
    exact ⟨_, _, rfl, rfl, ⟨h.1, by have := h.2.1; omega, h.2.2⟩, fun R => q.here R (.int _)⟩
  · exact False.elim q
theorem so_cmp {op : CmpOp} {p : Int → Int → Bool} (ho : OpR X (compareOp op) (rI0 fun i j => .bl (p i j))) : OpR X (compareOp op) (rP2 X.K (prCmp p)) := by
  refine so_int2 (rI0_to ho) fun M a b Q g H q => ?_
  cases a <;> cases b <;> first | exact False.elim q | exact ⟨_, _, rfl, rfl, trivial, fun R => q.here R (.bl _)⟩
theorem op_mulStr : OpR X (binaryOp .Mult) (fun x y H Q => ∃ i k, x = .str i ∧ y = .int k ∧ i.length ≤ 1000 ∧ 0 ≤ k ∧ k ≤ 1000 ∧ Q (.str (Txt.mul i k)) H) := by
  intro pins s σ H x y v u Q I rx ry h
  obtain ⟨i, k, rfl, rfl, h1, h2, h3, q⟩ := h
  obtain ⟨t, rfl⟩ := rx
  obtain ⟨t', rfl⟩ := ry
  exact PySem.SB.mul (mulOk_of 1000 1000 h1 h3 (by omega) (by omega) (by omega)) (fun t' tk => ⟨.str (Txt.mul i k), H, I.tok _, ⟨_, rfl⟩, q⟩)
theorem so_mul : OpR X (binaryOp .Mult) (rP2 X.K prMul) := by
  intro pins s σ H x y v u Q I rx ry hq
  obtain ⟨g, M, a, b, R, ra, rb, q⟩ := rP.two hq
  have lst : ∀ {k : Int}, b = .int k → PostP X.K g H (match asLL M a with
    | some xs => if -(2 ^ 63) ≤ k ∧ k < 2 ^ 63 ∧ xs.length * k.toNat ≤ sizeLine then some (.list (List.replicate k.toNat xs).flatten, M) else none
    | none => none) Q → wpAny (model X.prog X.w) X.A (binaryOp .Mult v u) (EP X pins σ Q) X.xe s := by
    clear q
    intro k e q
    subst e
    cases rb
    split at q
    · rename_i xs hx
      split at q
      · rename_i hk
        obtain ⟨l, vs, rfl, hl, rs⟩ := R.asLL ra hx
        exact op_rep pins s σ H _ _ v u Q I rx ry ⟨l, k, vs, rfl, rfl, hl, hk.1, hk.2.1, by rw [rs.len]; exact hk.2.2, fun p hp => q.new R hp fun g' le e => .lst e ((rs.mono le).rep _)⟩
      · exact False.elim q
    · exact False.elim q
  cases b with
  | int k =>
    cases a with
    | int i =>
      dsimp only [prMul] at q
      split at q
      · rename_i h
        cases ra
        cases rb
        exact op_mulW pins s σ H _ _ v u Q I rx ry ⟨_, _, rfl, rfl, h, q.here R (.int _)⟩
      · exact False.elim q
    | str i =>
      dsimp only [prMul] at q
      split at q
      · rename_i h
        cases ra
        cases rb
        exact op_mulStr pins s σ H _ _ v u Q I rx ry ⟨_, _, rfl, rfl, h.1, h.2.1, h.2.2, q.here R (.str _)⟩
      · exact False.elim q
    | _ => exact lst rfl q
  | _ => cases a <;> exact False.elim q
theorem so_add : OpR X (binaryOp .Add) (rP2 X.K prAdd) := by
  intro pins s σ H x y v u Q I rx ry hq
  obtain ⟨g, M, a, b, R, ra, rb, q⟩ := rP.two hq
  have tups : PostP X.K g H (match asT a, asT b with
      | some (x :: xs), some (y :: ys) => if xs.length + 1 + (ys.length + 1) ≤ sizeLine then some (.tup ((x :: xs) ++ (y :: ys)), M) else none
      | _, _ => none) Q → wpAny (model X.prog X.w) X.A (binaryOp .Add v u) (EP X pins σ Q) X.xe s := by
    intro q
    split at q
    · rename_i z zs w ws h1 h2
      split at q
      · rename_i hz
        obtain ⟨l, vs, rfl, hl, rs⟩ := R.asT ra h1
        obtain ⟨l2, vs2, rfl, hl2, rs2⟩ := R.asT rb h2
        have e1 := rs.len
        have e2 := rs2.len
        refine op_catT pins s σ H _ _ v u Q I rx ry ⟨l, l2, vs, vs2, rfl, rfl, hl, hl2, ?_, ?_, ?_, ?_⟩
        · intro z
          rw [z] at e1
          simp at e1
        · rw [e1, e2]
          exact hz
        · intro z
          rw [z] at e2
          simp at e2
        · intro _ p hp
          exact q.new R hp fun g' le e => .tup (SqT.of e) ((rs.mono le).append (rs2.mono le))
      · exact False.elim q
    · exact False.elim q
  have lists : PostP X.K g H (match asLL M a, asLL M b with
    | some xs, some ys => if xs.length + ys.length ≤ sizeLine then some (.list (xs ++ ys), M) else none
    | _, _ => match asT a, asT b with
      | some (x :: xs), some (y :: ys) => if xs.length + 1 + (ys.length + 1) ≤ sizeLine then some (.tup ((x :: xs) ++ (y :: ys)), M) else none
      | _, _ => none) Q → wpAny (model X.prog X.w) X.A (binaryOp .Add v u) (EP X pins σ Q) X.xe s := by
    intro q
    split at q
    · rename_i zs ws h1 h2
      split at q
      · rename_i hz
        obtain ⟨l, vs, rfl, hl, rs⟩ := R.asLL ra h1
        obtain ⟨l2, vs2, rfl, hl2, rs2⟩ := R.asLL rb h2
        exact op_cat pins s σ H _ _ v u Q I rx ry ⟨l, l2, vs, vs2, rfl, rfl, hl, hl2, by rw [rs.len, rs2.len]; exact hz, fun p hp => q.new R hp fun g' le e => .lst e ((rs.mono le).append (rs2.mono le))⟩
      · exact False.elim q
    · exact tups q
  cases a with
  | int i =>
    cases b with
    | int j =>
      cases ra
      cases rb
      exact op_add pins s σ H _ _ v u Q I rx ry ⟨_, _, rfl, rfl, q.here R (.int _)⟩
    | _ => exact lists q
  | str i =>
    cases b with
    | str j =>
      cases ra
      cases rb
      dsimp only [prAdd] at q
      split at q
      · rename_i h
        exact op_add_str pins s σ H _ _ v u Q I rx ry ⟨_, _, rfl, rfl, h, q.here R (.str _)⟩
      · exact False.elim q
    | _ => exact lists q
  | _ => exact lists q
theorem so_eq (hu : X.A.units + 64 < cLine) : OpR X (compareOp .Eq) (rP2 X.K prEq) := by
  intro pins s σ H x y v u Q I rx ry hq
  obtain ⟨g, M, a, b, R, ra, rb, q⟩ := rP.two hq
  unfold prEq at q
  dsimp only at q
  split at q
  · rename_i p1 p2 h1 h2
    split at q
    · rename_i hs
      exact op_eqD hu pins s σ H x y v u Q I rx ry ⟨_, _, R.pyM ra h1, R.pyM rb h2, hs.1, hs.2, q.here R (.bl _)⟩
    · exact False.elim q
  · exact False.elim q
theorem so_ne (hu : X.A.units + 64 < cLine) : OpR X (compareOp .NotEq) (rP2 X.K prNe) := by
  intro pins s σ H x y v u Q I rx ry hq
  obtain ⟨g, M, a, b, R, ra, rb, q⟩ := rP.two hq
  unfold prNe at q
  dsimp only at q
  split at q
  · rename_i p1 p2 h1 h2
    split at q
    · rename_i hs
      exact op_neD hu pins s σ H x y v u Q I rx ry ⟨_, _, R.pyM ra h1, R.pyM rb h2, hs.1, hs.2, q.here R (.bl _)⟩
    · exact False.elim q
  · exact False.elim q
/-- membership: what is asked of the values -/
theorem in_val {g : G} {M : Mem} {H : Hp} {a b : D} {x y : V} {k : Bool} (R : RelM X.K g M H) (ra : Rep X.K g x a) (rb : Rep X.K g y b) (h : inB M [a, b] = some k) :
    (∃ (c : Nat) (z : Str), x = .str ⟨#[c]⟩ ∧ y = .str z ∧ k = decide (c ∈ z.cps.toList)) ∨ (∃ i j, x = .str i ∧ y = .str j ∧ k = !(Builtin.Str.occurrences j i 0 j.length 1).isEmpty) ∨
      ∃ (d : PyData) (ds : List PyData) (p : Addr) (e : PyData), y = .ref p ∧ Dp X.K H x d ∧ (∃ xs, (SqL X.K H p xs ∨ SqT X.K H p xs) ∧ DpAll X.K H xs ds) ∧ SeqAt.shaped d = true ∧ SeqAt.shaped (.list ds) = true ∧ k = ds.any fun z => PyData.eqv z d := by
  have seq : (match pyM M a, asSeq M b with
    | some x, some ys => match pys M 0 ys with
      | some zs => if SeqAt.shaped x = true ∧ SeqAt.shaped (.list zs) = true then some (zs.any fun z => PyData.eqv z x) else none
      | none => none
    | _, _ => none) = some k → ∃ (d : PyData) (ds : List PyData) (p : Addr) (e : PyData), y = .ref p ∧ Dp X.K H x d ∧ (∃ xs, (SqL X.K H p xs ∨ SqT X.K H p xs) ∧ DpAll X.K H xs ds) ∧ SeqAt.shaped d = true ∧ SeqAt.shaped (.list ds) = true ∧ k = ds.any fun z => PyData.eqv z d := by
    intro h
    split at h
    · rename_i p1 ys h1 h2
      split at h
      · rename_i zs h3
        split at h
        · rename_i hs
          cases h
          obtain ⟨l, vs, rfl, hl, rs⟩ := R.asSeq rb h2
          exact ⟨p1, zs, l, p1, rfl, R.pyM ra h1, ⟨vs, hl, Reps.py R _ _ _ rs h3⟩, hs.1, hs.2, rfl⟩
        · cases h
      · cases h
    · cases h
  cases a with
  | str s =>
    cases b with
    | str t =>
      cases ra
      cases rb
      simp only [inB] at h
      split at h
      · rename_i c hc
        cases h
        refine .inl ⟨c, t, ?_, rfl, rfl⟩
        have : s = ⟨#[c]⟩ := TL.ext_tl (by show s.cps.toList = _; rw [hc])
        rw [this]
      · cases h
        exact .inr (.inl ⟨s, t, rfl, rfl, rfl⟩)
    | _ => exact .inr (.inr (seq h))
  | _ => exact .inr (.inr (seq h))
theorem dec_mem {c : Nat} {z : Str} {k : Bool} (h : k = decide (c ∈ z.cps.toList)) : (!k) = !decide (c ∈ z.cps.toList) := by rw [h]
theorem so_in (hu : X.A.units + 65 < cLine) : OpR X (compareOp .In) (rP2 X.K prIn) := by
  intro pins s σ H x y v u Q I rx ry hq
  obtain ⟨g, M, a, b, R, ra, rb, q⟩ := rP.two hq
  unfold prIn at q
  split at q
  · rename_i k hk
    have fin := q.here R (.bl _)
    rcases in_val R ra rb hk with ⟨c, z, rfl, rfl, e⟩ | ⟨i, j, rfl, rfl, e⟩ | ⟨d, ds, p, _, rfl, hd, ⟨xs, hx, hds⟩, s1, s2, e⟩
    · subst e
      exact op_in_sign pins s σ H _ _ v u Q I rx ry ⟨c, z, rfl, rfl, fin⟩
    · subst e
      exact op_in_str pins s σ H _ _ v u Q I rx ry ⟨i, j, rfl, rfl, fin⟩
    · subst e
      rcases hx with hx | hx
      · exact op_inD hu pins s σ H _ _ v u Q I rx ry ⟨d, ds, hd, .lst hx hds, s1, s2, fin⟩
      · obtain ⟨as, r1⟩ := Dp.reads I d x v hd rx
        obtain ⟨bs, r2⟩ := Dp.reads I (.tuple ds) _ u (.tup hx hds) ry
        exact SeqAt.in_tuple_reads r2 r1 (SeqAt.canLay_of_shaped (d := .tuple ds) s2) (SeqAt.canLay_of_shaped s1) (room_in_shaped s1 hu) ⟨.bl _, H, I, rfl, fin⟩
  · exact False.elim q
theorem so_notIn (hu : X.A.units + 65 < cLine) : OpR X (compareOp .NotIn) (rP2 X.K prNotIn) := by
  intro pins s σ H x y v u Q I rx ry hq
  obtain ⟨g, M, a, b, R, ra, rb, q⟩ := rP.two hq
  unfold prNotIn at q
  split at q
  · rename_i k hk
    have fin := q.here R (.bl _)
    rcases in_val R ra rb hk with ⟨c, z, rfl, rfl, e⟩ | ⟨i, j, rfl, rfl, e⟩ | ⟨d, ds, p, _, rfl, hd, ⟨xs, hx, hds⟩, s1, s2, e⟩
    · subst e
      exact op_notIn_sign pins s σ H _ _ v u Q I rx ry ⟨c, z, rfl, rfl, fin⟩
    · subst e
      exact op_notin_str pins s σ H _ _ v u Q I rx ry ⟨i, j, rfl, rfl, fin⟩
    · subst e
      rcases hx with hx | hx
      · exact op_notInD hu pins s σ H _ _ v u Q I rx ry ⟨d, ds, hd, .lst hx hds, s1, s2, fin⟩
      · obtain ⟨as, r1⟩ := Dp.reads I d x v hd rx
        obtain ⟨bs, r2⟩ := Dp.reads I (.tuple ds) _ u (.tup hx hds) ry
        exact SeqAt.notIn_tuple_reads r2 r1 (SeqAt.canLay_of_shaped (d := .tuple ds) s2) (SeqAt.canLay_of_shaped s1) (room_in_shaped s1 hu) ⟨.bl _, H, I, rfl, fin⟩
  · exact False.elim q
end
end DP

/-! DP.Prim2: calls of built-ins, subscripts, methods. -/
namespace DP
open PySem PySem.Spec PyProof.Rows L2
variable [ClsMap]
section
variable {X : Cx}
theorem so_neg : UnR X (unaryOp .USub) (fun x H Q => rP X.K prNeg [x] H Q) := by
  intro pins s σ H x v Q I rx hq
  obtain ⟨g, M, a, R, ra, q⟩ := rP.one hq
  cases ra <;> first | exact False.elim q | exact un_neg pins s σ H _ v Q I rx ⟨_, rfl, q.here R (.int _)⟩
theorem so_isN : OpR X (compareOp .Is) (fun x y H Q => y = .non ∧ rP X.K prIsN [x] H Q) := by
  intro pins s σ H x y v u Q I rx ry ⟨e, hq⟩
  obtain ⟨g, M, a, R, ra, q⟩ := rP.one hq
  refine op_isN pins s σ H x y v u Q I rx ry ⟨e, ?_⟩
  have fin := q.here R (.bl _)
  cases ra <;> exact fin
theorem so_notN : OpR X (compareOp .IsNot) (fun x y H Q => y = .non ∧ rP X.K prNotN [x] H Q) := by
  intro pins s σ H x y v u Q I rx ry ⟨e, hq⟩
  obtain ⟨g, M, a, R, ra, q⟩ := rP.one hq
  refine op_notN pins s σ H x y v u Q I rx ry ⟨e, ?_⟩
  have fin := q.here R (.bl _)
  cases ra <;> exact fin
theorem so_idx : IxR X (rP2 X.K prIdx) := by
  intro value slice pins s σ H x y v u Q I rx ry hq hs
  obtain ⟨g, M, a, b, R, ra, rb, q⟩ := rP.two hq
  have seq : ∀ {i : Int}, b = .int i → PostP X.K g H (match asSeq M a with
    | some xs => match atI xs i with
      | some d => some (d, M)
      | none => none
    | none => none) Q → wpAny (model X.prog X.w) X.A (subscriptTail value slice v u) (EP X pins σ Q) X.xe s := by
    clear q
    intro i e q
    subst e
    cases rb
    split at q
    · rename_i xs hx
      split at q
      · rename_i d hd
        obtain ⟨l, vs, rfl, hl, rs⟩ := R.asSeq ra hx
        have hv : ∃ w, atI vs i = some w ∧ Rep X.K g w d := by
          unfold atI at hd ⊢
          rw [rs.len]
          cases e : ixN xs.length i with
          | none => rw [e] at hd; cases hd
          | some j =>
            rw [e] at hd
            exact rs.get hd
        obtain ⟨w, hw, rw'⟩ := hv
        exact ix_seq value slice pins s σ H _ _ v u Q I rx ry (hl.elim (fun hl => .inl ⟨l, vs, i, w, rfl, rfl, hl, hw, q.here R rw'⟩) fun hl => .inr (.inl ⟨l, vs, i, w, rfl, rfl, hl, hw, q.here R rw'⟩)) hs
      · exact False.elim q
    · exact False.elim q
  cases b with
  | int i =>
    cases a with
    | str z =>
      dsimp only [prIdx] at q
      split at q
      · rename_i hz
        split at q
        · rename_i c hc
          cases ra
          cases rb
          exact ix_seq value slice pins s σ H _ _ v u Q I rx ry (.inr (.inr ⟨z, i, c, rfl, rfl, hz, hc, q.here R (.str _)⟩)) hs
        · exact False.elim q
      · exact False.elim q
    | _ => exact seq rfl q
  | _ => cases a <;> exact False.elim q
/-- a slice -/
def rSl (K : PySem.W.Frag) : V → Option Int → Option Int → Hp → VK → Prop := fun x lo hi H Q => ∃ g M a, RelM K g M H ∧ Rep K g x a ∧ PostP K g H (slc M lo hi a) Q
theorem so_slice : SlR X (rSl X.K) := by
  intro pins s σ H x v vl vu lo hi sl Q I rx hs pl pu h
  obtain ⟨g, M, a, R, ra, q⟩ := h
  have lst : PostP X.K g H (match asL M a with
    | some xs => some (.list (cutD xs lo hi), M)
    | none => none) Q → ∃ T id, typeLookup (.type T) (Str.ofString "__getitem__") = pure (some (.builtin id)) ∧ s.TypeIs v T ∧ wpAny (model X.prog X.w) X.A (getItem v (.ref sl)) (EP X pins σ Q) X.xe s := by
    clear q
    intro q
    split at q
    · rename_i xs hx
      obtain ⟨l, vs, rfl, hl, rs⟩ := R.asL ra hx
      exact sl_list pins s σ H _ v vl vu lo hi sl Q I rx hs pl pu ⟨l, vs, rfl, hl, fun p hp => q.new R hp fun g' le e => .lst e ((rs.mono le).cut lo hi)⟩
    · exact False.elim q
  cases a with
  | str z =>
    cases ra
    dsimp only [slc] at q
    split at q
    · rename_i hz
      exact sl_str pins s σ H _ v vl vu lo hi sl Q I rx hs pl pu ⟨z, rfl, hz, q.here R (.str _)⟩
    · exact False.elim q
  | tup xs =>
    dsimp only [slc] at q
    split at q
    · rename_i hz
      cases ra with
      | tup e rs =>
        have hl := rs.len
        refine sl_tup pins s σ H _ v vl vu lo hi sl Q I rx hs pl pu ⟨_, _, rfl, DP.Same.sqT R.sub e, fun w => ?_, fun p hp => q.new R hp fun g' le e => .tup (SqT.of e) ((rs.mono le).cut lo hi)⟩
        rw [hl] at w
        unfold cutD at hz
        rw [w.1, w.2] at hz
        simp at hz
    · exact False.elim q
  | _ => exact lst q
theorem so_len : CallR X (.builtin "len") (rP X.K prLen) := by
  intro pins s σ H xs us Q I r h
  obtain ⟨g, M, ds, R, rs, q⟩ := h
  cases ds with
  | nil => exact False.elim q
  | cons a ds =>
  cases ds with
  | cons _ _ => cases a <;> exact False.elim q
  | nil =>
  cases rs with
  | cons ra rn =>
  cases rn
  have seq : PostP X.K g H (match asSeq M a with
    | some xs => some (.int xs.length, M)
    | none => none) Q → wpAny (model X.prog X.w) X.A (call (.builtin "len") us) (EP X pins σ Q) X.xe s := by
    clear q
    intro q
    split at q
    · rename_i xs hx
      obtain ⟨l, vs, rfl, hl, rs⟩ := R.asSeq ra hx
      refine call_len_seq pins s σ H _ us Q I r ⟨l, vs, rfl, hl, ?_⟩
      rw [rs.len]
      exact q.here R (.int _)
    · exact False.elim q
  cases a with
  | str z =>
    cases ra
    dsimp only [prLen] at q
    split at q
    · rename_i hz
      exact call_len_str pins s σ H _ us Q I r ⟨z, rfl, hz, q.here R (.int _)⟩
    · exact False.elim q
  | _ => exact seq q
theorem one_arg {f : Mem → List D → PRes} {g : G} {M : Mem} {H : Hp} {ds : List D} {xs : List V} {Q : VK} (h0 : f M [] = none) (h2 : ∀ a b r, f M (a :: b :: r) = none) (rs : Reps X.K g xs ds) (q : PostP X.K g H (f M ds) Q) : ∃ a x, ds = [a] ∧ xs = [x] ∧ Rep X.K g x a := by
  cases ds with
  | nil => rw [h0] at q; exact False.elim q
  | cons a ds =>
    cases ds with
    | nil =>
      cases rs with
      | cons ra rn =>
        cases rn
        exact ⟨a, _, rfl, rfl, ra⟩
    | cons b ds => rw [h2] at q; exact False.elim q
theorem so_int : CallR X (.type "int") (rP X.K prInt) := by
  intro pins s σ H xs us Q I r h
  obtain ⟨g, M, ds, R, rs, q⟩ := h
  obtain ⟨a, x, rfl, rfl, ra⟩ := one_arg (f := prInt) rfl (fun a b r => by cases a <;> rfl) rs q
  cases ra with
  | int i => exact call_int1 pins s σ H _ us Q I r (.inl ⟨_, rfl, q.here R (.int _)⟩)
  | str z =>
    dsimp only [prInt] at q
    split at q
    · rename_i hz
      split at q
      · rename_i n hn
        exact call_int_str pins s σ H _ us Q I r ⟨z, n, rfl, hn, hz, q.here R (.int _)⟩
      · exact False.elim q
    · exact False.elim q
  | _ => exact False.elim q
theorem so_str : CallR X (.type "str") (rP X.K prStr) := by
  intro pins s σ H xs us Q I r h
  obtain ⟨g, M, ds, R, rs, q⟩ := h
  obtain ⟨a, x, rfl, rfl, ra⟩ := one_arg (f := prStr) rfl (fun a b r => by cases a <;> rfl) rs q
  cases ra with
  | int i =>
    dsimp only [prStr] at q
    split at q
    · rename_i hz
      exact call_str_int pins s σ H _ us Q I r ⟨i, rfl, hz, q.here R (.str _)⟩
    · exact False.elim q
  | _ => exact False.elim q
theorem so_abs : CallR X (.builtin "abs") (rP X.K prAbs) := by
  intro pins s σ H xs us Q I r h
  obtain ⟨g, M, ds, R, rs, q⟩ := h
  obtain ⟨a, x, rfl, rfl, ra⟩ := one_arg (f := prAbs) rfl (fun a b r => by cases a <;> rfl) rs q
  cases ra with
  | int i => exact call_abs pins s σ H _ us Q I r ⟨i, rfl, q.here R (.int _)⟩
  | _ => exact False.elim q
theorem so_sum (hc : X.calm = true) : CallR X (.builtin "sum") (rP X.K prSum) := by
  intro pins s σ H xs us Q I r h
  obtain ⟨g, M, ds, R, rs, q⟩ := h
  obtain ⟨a, x, rfl, rfl, ra⟩ := one_arg (f := prSum) rfl (fun a b r => rfl) rs q
  dsimp only [prSum] at q
  split at q
  · rename_i xs hx
    split at q
    · rename_i ns hn
      obtain ⟨l, vs, rfl, hl, rs⟩ := R.asL ra hx
      rw [rs.intsOf hn] at hl
      exact cr_sum hc pins s σ H _ us Q I r ⟨l, ns, rfl, hl, q.here R (.int _)⟩
    · exact False.elim q
  · exact False.elim q
theorem so_all (hc : X.calm = true) : CallR X (.builtin "all") (rP X.K prAll) := by
  intro pins s σ H xs us Q I r h
  obtain ⟨g, M, ds, R, rs, q⟩ := h
  obtain ⟨a, x, rfl, rfl, ra⟩ := one_arg (f := prAll) rfl (fun a b r => rfl) rs q
  dsimp only [prAll] at q
  split at q
  · rename_i xs hx
    split at q
    · rename_i ns hn
      obtain ⟨l, vs, rfl, hl, rs⟩ := R.asL ra hx
      rw [rs.boolsOf hn] at hl
      exact cr_all hc pins s σ H _ us Q I r ⟨l, ns, rfl, hl, q.here R (.bl _)⟩
    · exact False.elim q
  · exact False.elim q
theorem so_any (hc : X.calm = true) : CallR X (.builtin "any") (rP X.K prAny) := by
  intro pins s σ H xs us Q I r h
  obtain ⟨g, M, ds, R, rs, q⟩ := h
  obtain ⟨a, x, rfl, rfl, ra⟩ := one_arg (f := prAny) rfl (fun a b r => rfl) rs q
  dsimp only [prAny] at q
  split at q
  · rename_i xs hx
    split at q
    · rename_i ns hn
      obtain ⟨l, vs, rfl, hl, rs⟩ := R.asL ra hx
      rw [rs.boolsOf hn] at hl
      exact cr_any hc pins s σ H _ us Q I r ⟨l, ns, rfl, hl, q.here R (.bl _)⟩
    · exact False.elim q
  · exact False.elim q
theorem so_tuple : CallR X (.type "tuple") (rP X.K prTuple) := by
  intro pins s σ H xs us Q I r h
  obtain ⟨g, M, ds, R, rs, q⟩ := h
  obtain ⟨a, x, rfl, rfl, ra⟩ := one_arg (f := prTuple) rfl (fun a b r => by cases a <;> rfl) rs q
  have lst : PostP X.K g H (match asL M a with
    | some xs => some (.tup xs, M)
    | none => none) Q → wpAny (model X.prog X.w) X.A (call (.type "tuple") us) (EP X pins σ Q) X.xe s := by
    clear q
    intro q
    split at q
    · rename_i xs hx
      obtain ⟨l, vs, rfl, hl, rs⟩ := R.asL ra hx
      exact call_tuple_of pins s σ H _ us Q I r ⟨l, vs, rfl, .inl ⟨hl, fun p hp => q.new R hp fun g' le e => .tup (SqT.of e) (rs.mono le)⟩⟩
    · exact False.elim q
  cases a with
  | tup xs =>
    cases ra with
    | tup e rs' => exact call_tupleT pins s σ H _ us Q I r ⟨_, _, rfl, DP.Same.sqT R.sub e, q.here R (.tup e rs')⟩
  | _ => exact lst q
theorem so_list : CallR X (.type "list") (rP X.K prListOf) := by
  intro pins s σ H xs us Q I r h
  obtain ⟨g, M, ds, R, rs, q⟩ := h
  obtain ⟨a, x, rfl, rfl, ra⟩ := one_arg (f := prListOf) rfl (fun a b r => rfl) rs q
  dsimp only [prListOf] at q
  split at q
  · rename_i xs hx
    obtain ⟨l, vs, rfl, hl, rs⟩ := R.asSeq ra hx
    exact call_list_of pins s σ H _ us Q I r ⟨l, vs, rfl, hl, fun p hp => q.new R hp fun g' le e => .lst e (rs.mono le)⟩
  · exact False.elim q
theorem so_min2 (hc : X.calm = true) : CallR X (.builtin "min") (rP X.K prMin2) := by
  intro pins s σ H xs us Q I r h
  obtain ⟨g, M, ds, R, rs, q⟩ := h
  match ds, rs, q with
  | [], _, q => exact False.elim q
  | [a], _, q => cases a <;> exact False.elim q
  | a :: b :: c :: ds, _, q => cases a <;> cases b <;> exact False.elim q
  | [a, b], .cons ra (.cons rb .nil), q =>
    cases ra <;> cases rb <;> first | exact False.elim q | exact call_min2 hc pins s σ H _ us Q I r ⟨_, _, rfl, q.here R (.int _)⟩
theorem so_max2 (hc : X.calm = true) : CallR X (.builtin "max") (rP X.K prMax2) := by
  intro pins s σ H xs us Q I r h
  obtain ⟨g, M, ds, R, rs, q⟩ := h
  match ds, rs, q with
  | [], _, q => exact False.elim q
  | [a], _, q => cases a <;> exact False.elim q
  | a :: b :: c :: ds, _, q => cases a <;> cases b <;> exact False.elim q
  | [a, b], .cons ra (.cons rb .nil), q =>
    cases ra <;> cases rb <;> first | exact False.elim q | exact call_max2 hc pins s σ H _ us Q I r ⟨_, _, rfl, q.here R (.int _)⟩
theorem RelM.tyX {K : PySem.W.Frag} {g : G} {M : Mem} {H : Hp} {a : D} {x : V} {u : String} (R : RelM K g M H) (ra : Rep K g x a) (h : a.ty M = some u) : TyX K H x (.type u) := by
  cases ra with
  | non => cases h; exact .base .non
  | bl b => cases h; exact .base (.bl b)
  | int i => cases h; exact .base (.int i)
  | str s => cases h; exact .base (.str s)
  | lst e rs => cases h; exact .base (.lst (R.sub _ _ e))
  | klst e rs => cases h
  | tup e rs =>
    cases h
    rcases DP.Same.sqT R.sub e with (h | ⟨o, h⟩) | ⟨o, its, n, h1, h2, _⟩
    · exact .base (.tup h)
    · exact .fTuple h
    · exact .kTuple h1 h2
  | @loc n p e =>
    simp only [D.ty] at h
    split at h
    · rename_i xs hc
      cases h
      obtain ⟨_, vs, q1, _⟩ := R.cell n p _ e hc
      exact .base (.lst q1)
    · cases h
  | err => cases h
/-- isinstance(x, T), T a built-in type -/
theorem so_isinst {t : String} : CallR X (.builtin "isinstance") (fun xs H Q => ∃ x, xs = [x, .ty t] ∧ rP X.K (prIsInst t) [x] H Q) := by
  intro pins s σ H xs us Q I r ⟨x, e, hq⟩
  subst e
  obtain ⟨g, M, a, R, ra, q⟩ := rP.one hq
  dsimp only [prIsInst] at q
  split at q
  · rename_i u hu
    split at q
    · rename_i b hb
      exact call_isi pins s σ H _ us Q I r ⟨x, .ty t, .type u, .type t, b, rfl, .ty t, R.tyX ra hu, kit_ty hb, q.here R (.bl _)⟩
    · exact False.elim q
  · exact False.elim q

/-! ### methods: rM f: x.m(xs) by f of x :: xs -/
def rM (K : PySem.W.Frag) (f : Mem → List D → PRes) : V → List V → Hp → VK → Prop := fun x xs H Q => rP K f (x :: xs) H Q
theorem rM.two {K : PySem.W.Frag} {f : Mem → List D → PRes} {x : V} {xs : List V} {H : Hp} {Q : VK} (h : rM K f x xs H Q) (h1 : ∀ M a, f M [a] = none) (h3 : ∀ M a b c r, f M (a :: b :: c :: r) = none) :
    ∃ g M a b y, xs = [y] ∧ RelM K g M H ∧ Rep K g x a ∧ Rep K g y b ∧ PostP K g H (f M [a, b]) Q := by
  obtain ⟨g, M, ds, R, rs, q⟩ := h
  match ds, rs, q with
  | [a], _, q => rw [h1] at q; exact False.elim q
  | a :: b :: c :: ds, _, q => rw [h3] at q; exact False.elim q
  | [a, b], .cons ra (.cons rb .nil), q => exact ⟨g, M, a, b, _, rfl, R, ra, rb, q⟩
theorem so_append : MtR X "list.append" (rM X.K prAppend) := by
  intro pins s σ H x xs v us Q I rx rs h
  obtain ⟨g, M, a, b, y, rfl, R, ra, rb, q⟩ := h.two (fun M a => by cases a <;> rfl) (fun M a b c r => by cases a <;> rfl)
  cases ra with
  | @loc n p e =>
    dsimp only [prAppend] at q
    split at q
    · rename_i ys hc
      split at q
      · rename_i hz
        obtain ⟨_, vs, q1, q2⟩ := R.cell n p _ e hc
        obtain ⟨R', st⟩ := R.put e hc (q2.append (.cons rb .nil))
        exact mt_append pins s σ H _ _ v us Q I rx rs ⟨p, vs, y, rfl, rfl, q1, by rw [q2.len]; exact hz, q g .non _ st R' .non⟩
      · exact False.elim q
    · exact False.elim q
  | _ => exact False.elim q
theorem so_join : MtR X "str.join" (rM X.K prJoin) := by
  intro pins s σ H x xs v us Q I rx rs h
  obtain ⟨g, M, a, b, y, rfl, R, ra, rb, q⟩ := h.two (fun M a => by cases a <;> rfl) (fun M a b c r => by cases a <;> rfl)
  cases ra with
  | str z =>
    dsimp only [prJoin] at q
    split at q
    · rename_i ys hy
      split at q
      · rename_i ss hs
        split at q
        · rename_i hz
          obtain ⟨l, vs, rfl, hl, rs'⟩ := R.asSeq rb hy
          rw [rs'.strsOf hs] at hl
          exact mt_join pins s σ H _ _ v us Q I rx rs ⟨z, l, ss, rfl, rfl, hl, hz, q.here R (.str _)⟩
        · exact False.elim q
      · exact False.elim q
    · exact False.elim q
  | _ => exact False.elim q
theorem so_split : MtR X "str.split" (rM X.K prSplit) := by
  intro pins s σ H x xs v us Q I rx rs h
  obtain ⟨g, M, a, b, y, rfl, R, ra, rb, q⟩ := h.two (fun M a => by cases a <;> rfl) (fun M a b c r => by cases a <;> cases b <;> rfl)
  cases ra <;> cases rb <;> first | exact False.elim q | skip
  dsimp only [prSplit] at q
  split at q
  · rename_i hz
    exact mt_split pins s σ H _ _ v us Q I rx rs ⟨_, _, rfl, rfl, hz.1, hz.2, fun p hp => q.new R hp fun g' le e => .lst e (Reps.ofStrs _)⟩
  · exact False.elim q
theorem so_rmsuf : MtR X "str.removesuffix" (rM X.K prRmsuf) := by
  intro pins s σ H x xs v us Q I rx rs h
  obtain ⟨g, M, a, b, y, rfl, R, ra, rb, q⟩ := h.two (fun M a => by cases a <;> rfl) (fun M a b c r => by cases a <;> cases b <;> rfl)
  cases ra <;> cases rb <;> first | exact False.elim q | skip
  dsimp only [prRmsuf] at q
  split at q
  · rename_i hz
    exact mt_removesuffix pins s σ H _ _ v us Q I rx rs ⟨_, _, rfl, rfl, hz, q.here R (.str _)⟩
  · exact False.elim q
theorem so_rmpre : MtR X "str.removeprefix" (rM X.K prRmpre) := by
  intro pins s σ H x xs v us Q I rx rs h
  obtain ⟨g, M, a, b, y, rfl, R, ra, rb, q⟩ := h.two (fun M a => by cases a <;> rfl) (fun M a b c r => by cases a <;> cases b <;> rfl)
  cases ra <;> cases rb <;> first | exact False.elim q | skip
  dsimp only [prRmpre] at q
  split at q
  · rename_i hz
    exact mt_removeprefix pins s σ H _ _ v us Q I rx rs ⟨_, _, rfl, rfl, hz, q.here R (.str _)⟩
  · exact False.elim q
theorem so_strip2 : MtR X "str.strip" (rM X.K prStrip) := by
  intro pins s σ H x xs v us Q I rx rs h
  obtain ⟨g, M, a, b, y, rfl, R, ra, rb, q⟩ := h.two (fun M a => by cases a <;> rfl) (fun M a b c r => by cases a <;> cases b <;> rfl)
  cases ra <;> cases rb <;> first | exact False.elim q | skip
  dsimp only [prStrip] at q
  split at q
  · rename_i hz
    exact mt_stripChars pins s σ H _ _ v us Q I rx rs ⟨_, _, rfl, rfl, hz, q.here R (.str _)⟩
  · exact False.elim q
/-- o[i] = v -/
theorem so_setIdx : PSet X (fun o i v H k => ∃ g M a b c, RelM X.K g M H ∧ Rep X.K g o a ∧ Rep X.K g i b ∧ Rep X.K g v c ∧ (match prSetIdx M [a, b, c] with
    | none => False
    | some (_, M') => ∀ g' H', Stp g H g' H' → RelM X.K g' M' H' → k H')) := by
  intro pins s σ H o i v ov iv u Q I ro ri rv h
  obtain ⟨g, M, a, b, c, R, ra, rb, rc, q⟩ := h
  cases ra with
  | @loc n p e =>
    cases rb with
    | int j =>
      dsimp only [prSetIdx] at q
      split at q
      · exact False.elim q
      · rename_i d M' hq
        split at hq
        · rename_i xs hc
          split at hq
          · rename_i k hk
            cases hq
            obtain ⟨_, vs, q1, q2⟩ := R.cell n p _ e hc
            obtain ⟨R', st⟩ := R.put e hc (Reps.set rc k q2)
            exact set_list pins s σ H _ _ v ov iv u Q I ro ri rv ⟨p, vs, j, k, rfl, rfl, q1, by rw [q2.len]; exact hk, q g _ st R'⟩
          · cases hq
        · cases hq
    | _ => exact False.elim q
  | _ => cases rb <;> exact False.elim q
/-- o[i] of a list, by values -/
theorem so_getL : PGet X (rP2 X.K prIdxL) := by
  intro pins s σ H x y v u Q I rx ry hq
  obtain ⟨g, M, a, b, R, ra, rb, q⟩ := rP.two hq
  cases b with
  | int i =>
    dsimp only [prIdxL] at q
    split at q
    · rename_i xs hx
      split at q
      · rename_i d hd
        cases rb
        obtain ⟨l, vs, rfl, hl, rs⟩ := R.asL ra hx
        have hv : ∃ w, atI vs i = some w ∧ Rep X.K g w d := by
          unfold atI at hd ⊢
          rw [rs.len]
          cases e : ixN xs.length i with
          | none => rw [e] at hd; cases hd
          | some j =>
            rw [e] at hd
            exact rs.get hd
        obtain ⟨z, he, rz⟩ := hv
        cases rx
        obtain ⟨t, rfl⟩ := ry
        obtain ⟨its, r, pl, hz⟩ := I.list hl
        obtain ⟨j, h1, h2, h3, h4, h5⟩ := atI_get he
        obtain ⟨w, ew, rw'⟩ := r.get h2
        have hl := r.length
        have hn := line63
        have fin : EP X pins σ Q w s := ⟨z, H, I, rw', q.here R rz⟩
        by_cases h0 : 0 ≤ i
        · have hj : i.toNat = j := by
            rw [seqIndex_of h0 h5] at h1
            exact Option.some.inj h1
          exact wpAny_getItem_list pl.isList h0 (by omega) (by rw [hj]; simpa using ew) fin
        · have hj : (i + (its.toArray.size : Int)).toNat = j := by
            rw [seqIndex_neg (by omega) h4] at h1
            rw [List.size_toArray, ← hl]
            exact Option.some.inj h1
          exact wpAny_getItem_list_neg pl.isList (by omega) (by rw [List.size_toArray] <;> omega) (by omega) (by rw [hj]; simpa using ew) fin
      · exact False.elim q
    · exact False.elim q
  | _ => exact False.elim q
end
end DP

/-! DP.Expr: evaluation holds in the model: expressions. -/
namespace DP
open PySem PySem.Spec PyProof.Rows L2
variable [ClsMap]

/-- what stands fast: the written part, what calls give, the exceptions' classes -/
structure Cf where
  K : PySem.W.Frag
  call : Nat → List D → Mem → Res D
def RepX (cf : Cf) (g : G) (x : Exn) (cls : Value) (dx : Option Addr) (H : Hp) : Prop :=
  ∃ C d vs, ClsMap.m x.cls = some C ∧ cls = .ref C ∧ dx = some d ∧ g.F d = some (.xd ((x.fs.map (·.1)).zip vs)) ∧ Reps cf.K g vs (x.fs.map (·.2))
/-- an evaluation's end, in the heap -/
def Post {α : Type} (cf : Cf) (W : WX) (g : G) (H : Hp) (σ : L2.St) (r : Res α) (k : α → Mem → G → Hp → Prop) : Prop := match r with
  | .bad => False
  | .exc x M' => ∀ g' H' cls dx, Stp g H g' H' → RelM cf.K g' M' H' → RepX cf g' x cls dx H' → W cls dx σ H'
  | .ok a M' => ∀ g' H', Stp g H g' H' → RelM cf.K g' M' H' → k a M' g' H'
section
variable {cf : Cf} {W : WX} {g g' : G} {H H' : Hp} {σ : L2.St} {α β : Type} {r : Res α} {k k' : α → Mem → G → Hp → Prop}
theorem Post.step (h : Post cf W g H σ r k) (st : Stp g H g' H') : Post cf W g' H' σ r k := by
  cases r with
  | bad => exact h
  | exc x M => exact fun g2 H2 c d s R X => h g2 H2 c d (st.trans s) R X
  | ok a M => exact fun g2 H2 s R => h g2 H2 (st.trans s) R
theorem Post.bind {f : α → Mem → Res β} {k : β → Mem → G → Hp → Prop} (h : Post cf W g H σ (r.bind f) k) : Post cf W g H σ r fun a M1 g1 H1 => Post cf W g1 H1 σ (f a M1) k := by
  cases r with
  | bad => exact h
  | exc x M => exact h
  | ok a M => exact fun g2 H2 s R => Post.step (r := f a M) h s
theorem Post.imp (h : Post cf W g H σ r k) (f : ∀ a M' g' H', Stp g H g' H' → RelM cf.K g' M' H' → k a M' g' H' → k' a M' g' H') : Post cf W g H σ r k' := by
  cases r with
  | bad => exact h
  | exc x M => exact h
  | ok a M => exact fun g2 H2 s R => f _ _ _ _ s R (h g2 H2 s R)
theorem Post.ok {a : α} {M : Mem} (h : Post cf W g H σ (.ok a M) k) (R : RelM cf.K g M H) : k a M g H := h g H Stp.refl R
theorem Post.ofP {p : PRes} {Q : VK} (h : Post cf W g H σ (DP.ofP p) fun d _ g' H' => ∀ v, Rep cf.K g' v d → Q v H') : PostP cf.K g H p Q := by
  cases p with
  | none => exact h
  | some dm => exact fun g' v H' st R r => h g' H' st R v r
theorem bind_assoc {γ : Type} {r : Res α} {f : α → Mem → Res β} {h : β → Mem → Res γ} : (r.bind f).bind h = r.bind fun a M => (f a M).bind h := by
  cases r <;> rfl
end
/-! ### readings -/
def TD (cf : Cf) (W : WX) (e : E) : TE := fun σ H Q => ∃ g env M, RelM cf.K g M H ∧ RelE cf.K g env σ ∧ Post cf W g H σ (ev cf.call e env M) fun d _ g' H' => ∀ v, Rep cf.K g' v d → Q v H'
def TDs (cf : Cf) (W : WX) (es : List E) : TA := fun σ H Q => ∃ g env M, RelM cf.K g M H ∧ RelE cf.K g env σ ∧ Post cf W g H σ (evs cf.call es env M) fun ds _ g' H' => ∀ vs, Reps cf.K g' vs ds → Q vs H'
/-- a test's answer -/
def tru (d : D) (M : Mem) : Res Bool := match truth M d with
  | some b => .ok b M
  | none => .bad
noncomputable def tst (call : Nat → List D → Mem → Res D) (e : E) (env : Env) (M : Mem) : Res Bool := (ev call e env M).bind tru
def TT (cf : Cf) (W : WX) (e : E) : L2.TT := fun σ H Q => ∃ g env M, RelM cf.K g M H ∧ RelE cf.K g env σ ∧ Post cf W g H σ (tst cf.call e env M) fun b _ _ H' => Q b H'

theorem pe_weak {X : Cx} {e : Expr} {t t' : TE} (h : PE X e t) (f : ∀ σ H Q, t' σ H Q → t σ H Q) : PE X e t' := ⟨fun pins s σ H Q I q => h.run pins s σ H Q I (f _ _ _ q)⟩
theorem pt_weak {X : Cx} {e : Expr} {t t' : L2.TT} (h : PT X e t) (f : ∀ σ H Q, t' σ H Q → t σ H Q) : PT X e t' := ⟨fun pins s σ H Q I q => h.run pins s σ H Q I (f _ _ _ q)⟩
theorem pw_weak {X : Cx} {e : Expr} {t t' : L2.TT} (h : PW X e t) (f : ∀ σ H Q, t' σ H Q → t σ H Q) : PW X e t' := ⟨fun w pins s σ H Q I q => h.run w pins s σ H Q I (f _ _ _ q)⟩
theorem pa_weak {X : Cx} {es : List Expr} {t t' : TA} (h : PA X es t) (f : ∀ σ H Q, t' σ H Q → t σ H Q) : PA X es t' := ⟨fun pos pins s σ H Q I q => h.run pos pins s σ H Q I (f _ _ _ q)⟩

section
variable {cf : Cf} {W : WX} {X : Cx}
theorem ev_pr1 {p : Pr} {a : E} {env : Env} {M : Mem} : ev cf.call (.pr p [a]) env M = (ev cf.call a env M).bind fun d1 M1 => ofP (pr p M1 [d1]) := by
  simp only [ev, evs, bind_assoc]
  cases ev cf.call a env M <;> rfl
theorem ev_pr2 {p : Pr} {a b : E} {env : Env} {M : Mem} : ev cf.call (.pr p [a, b]) env M = (ev cf.call a env M).bind fun d1 M1 => (ev cf.call b env M1).bind fun d2 M2 => ofP (pr p M2 [d1, d2]) := by
  simp only [ev, evs, bind_assoc]
  cases ev cf.call a env M with
  | ok d1 M1 =>
    simp only [Res.bind]
  | _ => rfl
theorem ev_pr {p : Pr} {es : List E} {env : Env} {M : Mem} : ev cf.call (.pr p es) env M = (evs cf.call es env M).bind fun ds M1 => ofP (pr p M1 ds) := by simp only [ev]
theorem ev_prc {p : Pr} {a : E} {es : List E} {env : Env} {M : Mem} : ev cf.call (.pr p (a :: es)) env M = (ev cf.call a env M).bind fun d M1 => (evs cf.call es env M1).bind fun ds M2 => ofP (pr p M2 (d :: ds)) := by
  simp only [ev, evs, bind_assoc]
  congr 1
/-! ### names and constants -/
theorem td_c {e : Expr} {d : D} {v : V} (h : PE X e (tC v)) (hr : ∀ g, Rep cf.K g v d) : PE X e (TD cf W (.c d)) := pe_weak h fun σ H Q ⟨g, env, M, R, RE, q⟩ => by
  simp only [ev] at q
  exact q.ok R v (hr g)
theorem td_v {x : Str} {i : Nat} {pos : Pos} (h : PE X (.Name x pos) (tVar i)) : PE X (.Name x pos) (TD cf W (.v i)) := pe_weak h fun σ H Q ⟨g, env, M, R, RE, q⟩ => by
  simp only [ev] at q
  split at q
  · rename_i d hd
    obtain ⟨v, hv, r⟩ := RE.2 _ _ hd
    exact ⟨v, hv, q.ok R v r⟩
  · exact False.elim q
/-! ### strict operations -/
theorem td_op2 {p : Pr} {e a b : Expr} {a' b' : E} (ho : PE X a (TD cf W a') → PE X b (TD cf W b') → PE X e (tOp (rP2 cf.K (pr p)) (TD cf W a') (TD cf W b'))) (ha : PE X a (TD cf W a')) (hb : PE X b (TD cf W b')) :
    PE X e (TD cf W (.pr p [a', b'])) := pe_weak (ho ha hb) fun σ H Q ⟨g, env, M, R, RE, q⟩ => by
  rw [ev_pr2] at q
  exact ⟨g, env, M, R, RE, q.bind.imp fun d1 M1 g1 H1 st1 R1 q1 x rx => ⟨g1, env, M1, R1, RE.mono st1.le, q1.bind.imp fun d2 M2 g2 H2 st2 R2 q2 y ry => ⟨g2, M2, [d1, d2], R2, .cons (rx.mono st2.le) (.cons ry .nil), q2.ofP⟩⟩⟩
/-- .. as a test -/
theorem tt_op2 {p : Pr} {e a b : Expr} {a' b' : E} (ho : PE X a (TD cf W a') → PE X b (TD cf W b') → PT X e (tTest (tOp (rP2 cf.K (pr p)) (TD cf W a') (TD cf W b')))) (hb0 : ∀ M ds d M', pr p M ds = some (d, M') → ∃ b, d = .bl b)
    (ha : PE X a (TD cf W a')) (hb : PE X b (TD cf W b')) : PT X e (TT cf W (.pr p [a', b'])) := pt_weak (ho ha hb) fun σ H Q ⟨g, env, M, R, RE, q⟩ => by
  unfold tst at q
  rw [ev_pr2, bind_assoc] at q
  simp only [bind_assoc] at q
  refine ⟨g, env, M, R, RE, q.bind.imp fun d1 M1 g1 H1 st1 R1 q1 x rx => ⟨g1, env, M1, R1, RE.mono st1.le, q1.bind.imp fun d2 M2 g2 H2 st2 R2 q2 y ry => ⟨g2, M2, [d1, d2], R2, .cons (rx.mono st2.le) (.cons ry .nil), ?_⟩⟩⟩
  cases e : pr p M2 [d1, d2] with
  | none => rw [e] at q2; exact q2
  | some dm =>
    obtain ⟨d, M3⟩ := dm
    obtain ⟨b, rfl⟩ := hb0 _ _ _ _ e
    rw [e] at q2
    intro g3 v H3 st3 R3 r3
    cases r3
    exact ⟨b, rfl, q2 g3 H3 st3 R3⟩
theorem td_args {es : List Expr} {es' : List E} {p : Pr} {e : Expr} (ho : PE X e (tCB (rP cf.K (pr p)) (TDs cf W es'))) : PE X e (TD cf W (.pr p es')) := pe_weak ho fun σ H Q ⟨g, env, M, R, RE, q⟩ => by
  rw [ev_pr] at q
  exact ⟨g, env, M, R, RE, q.bind.imp fun ds M1 g1 H1 st1 R1 q1 vs rs => ⟨g1, M1, ds, R1, rs, q1.ofP⟩⟩
theorem pa_nilD : PA X [] (TDs cf W []) := pa_weak pa_nil fun σ H Q ⟨g, env, M, R, RE, q⟩ => by
  simp only [evs] at q
  exact q.ok R [] .nil
theorem pa_consD {e : Expr} {es : List Expr} {e' : E} {es' : List E} (ha : PE X e (TD cf W e')) (hr : PA X es (TDs cf W es')) (hs : starEach (e :: es) X.env = (false, eval e X.env) :: starEach es X.env) : PA X (e :: es) (TDs cf W (e' :: es')) :=
  pa_weak (pa_cons ha hr hs) fun σ H Q ⟨g, env, M, R, RE, q⟩ => by
    simp only [evs] at q
    refine ⟨g, env, M, R, RE, q.bind.imp fun d1 M1 g1 H1 st1 R1 q1 x rx => ⟨g1, env, M1, R1, RE.mono st1.le, q1.bind.imp fun d2 M2 g2 H2 st2 R2 q2 y ry => ?_⟩⟩
    exact q2.ok R2 (x :: y) (.cons (rx.mono st2.le) ry)
/-- displays -/
theorem td_tup {es : List Expr} {es' : List E} {k : Nat} {pos : Pos} (h : PA X es (TDs cf W es')) : PE X (.Tuple es k pos) (TD cf W (.pr .tup es')) := pe_weak (pe_tup h) fun σ H Q ⟨g, env, M, R, RE, q⟩ => by
  rw [ev_pr] at q
  refine ⟨g, env, M, R, RE, q.bind.imp fun ds M1 g1 H1 st1 R1 q1 vs rs => ?_⟩
  have q2 := q1.ofP
  simp only [pr, prTup] at q2
  split at q2
  · rename_i hz
    exact ⟨by rw [rs.len]; exact hz, fun p hp => q2.new R1 hp fun g' le e => .tup (SqT.of e) (rs.mono le)⟩
  · exact False.elim q2
theorem td_list {es : List Expr} {es' : List E} {pos : Pos} (h : PA X es (TDs cf W es')) : PE X (.List es pos) (TD cf W (.pr .list es')) := pe_weak (pe_lst h) fun σ H Q ⟨g, env, M, R, RE, q⟩ => by
  rw [ev_pr] at q
  refine ⟨g, env, M, R, RE, q.bind.imp fun ds M1 g1 H1 st1 R1 q1 vs rs => ?_⟩
  have q2 := q1.ofP
  simp only [pr, prList] at q2
  split at q2
  · rename_i hz
    exact ⟨by rw [rs.len]; exact hz, fun p hp => q2.new R1 hp fun g' le e => .lst e (rs.mono le)⟩
  · exact False.elim q2
theorem td_listM {es : List Expr} {es' : List E} {pos : Pos} (h : PA X es (TDs cf W es')) : PE X (.List es pos) (TD cf W (.pr .listM es')) := pe_weak (pe_lst h) fun σ H Q ⟨g, env, M, R, RE, q⟩ => by
  rw [ev_pr] at q
  refine ⟨g, env, M, R, RE, q.bind.imp fun ds M1 g1 H1 st1 R1 q1 vs rs => ?_⟩
  have q2 := q1.ofP
  simp only [pr, prListM] at q2
  split at q2
  · rename_i hz
    refine ⟨by rw [rs.len]; exact hz, fun p hp => ?_⟩
    obtain ⟨R', st, r⟩ := R1.born hp rs
    exact q2 _ _ _ st R' r
  · exact False.elim q2
/-- a changing list becomes a plain one -/
theorem fz_rep {K : PySem.W.Frag} {g : G} {M M' : Mem} {H : Hp} : ∀ {k : Nat} {d d' : D} {v : V}, RelM K g M H → Rep K g v d → fz k M d = some (d', M') → ∃ g', Stp g H g' H ∧ RelM K g' M' H ∧ Rep K g' v d' := by
  intro k
  induction k generalizing g M M' with
  | zero =>
    intro d d' v R r h
    cases d <;> first | (cases h; exact ⟨g, Stp.refl, R, r⟩) | (simp [fz] at h)
  | succ k ih =>
    intro d d' v R r h
    cases r with
    | @loc n p e =>
      simp only [fz] at h
      split at h
      · rename_i xs hc
        simp only [Option.map_eq_some_iff] at h
        obtain ⟨⟨ys, M2⟩, h, e2⟩ := h
        cases e2
        obtain ⟨vs, q1, q2, R1, le1⟩ := R.kill e hc
        -- the items
        have items : ∀ (xs : List D) (vs : List V) (g1 : G) (M1 : Mem) (acc : List D) (ws : List V) (ys : List D) (M2 : Mem), RelM K g1 M1 H → Reps K g1 vs xs → Reps K g1 ws acc →
            xs.foldl (fun (r : Option (List D × Mem)) x => match r with
              | some (acc, M1) => match fz k M1 x with
                | some (y, M2) => some (acc ++ [y], M2)
                | none => none
              | none => none) (some (acc, M1)) = some (ys, M2) → ∃ g', Stp g1 H g' H ∧ RelM K g' M2 H ∧ Reps K g' (ws ++ vs) ys := by
          intro xs
          induction xs with
          | nil =>
            intro vs g1 M1 acc ws ys M2 R1 rs ra h
            cases rs
            cases h
            exact ⟨g1, Stp.refl, R1, by simpa using ra⟩
          | cons x xs ihx =>
            intro vs g1 M1 acc ws ys M2 R1 rs ra h
            cases rs with
            | cons r rs =>
              rw [List.foldl_cons] at h
              cases hx : fz k M1 x with
              | none =>
                simp only [hx] at h
                exfalso
                have none_stays : ∀ l : List D, l.foldl (fun (r : Option (List D × Mem)) x => match r with
                  | some (acc, M1) => match fz k M1 x with
                    | some (y, M2) => some (acc ++ [y], M2)
                    | none => none
                  | none => none) none = none := by
                  intro l
                  induction l with
                  | nil => rfl
                  | cons _ _ ih => rw [List.foldl_cons]; exact ih
                rw [none_stays] at h
                cases h
              | some ym =>
                obtain ⟨y, M3⟩ := ym
                simp only [hx] at h
                obtain ⟨g2, st2, R2, r2⟩ := ih R1 r hx
                obtain ⟨g3, st3, R3, r3⟩ := ihx _ g2 M3 (acc ++ [y]) (ws ++ [_]) ys M2 R2 (rs.mono st2.le) ((ra.mono st2.le).append (.cons r2 .nil)) h
                exact ⟨g3, st2.trans st3, R3, by simpa using r3⟩
        obtain ⟨g3, st3, R3, r3⟩ := items xs vs _ _ [] [] ys _ R1 (q2.mono le1.le) .nil h
        exact ⟨g3, le1.trans st3, R3, .lst (st3.le.F _ _ upd_same) (by simpa using r3)⟩
      · cases h
    | _ =>
      cases h
      exact ⟨g, Stp.refl, R, by constructor <;> assumption⟩
theorem td_freeze {e : Expr} {e' : E} (h : PE X e (TD cf W e')) : PE X e (TD cf W (.pr .freeze [e'])) := pe_weak h fun σ H Q ⟨g, env, M, R, RE, q⟩ => by
  rw [ev_pr1] at q
  refine ⟨g, env, M, R, RE, q.bind.imp fun d M1 g1 H1 st1 R1 q1 v r => ?_⟩
  have q2 := q1.ofP
  simp only [pr, prFreeze] at q2
  cases hf : fz 4 M1 d with
  | none => rw [hf] at q2; exact False.elim q2
  | some dm =>
    obtain ⟨d2, M2⟩ := dm
    rw [hf] at q2
    obtain ⟨g2, st, R2, r2⟩ := fz_rep R1 r hf
    exact q2 g2 v H1 st R2 r2
end
end DP

/-! DP.Caught: a caught exception with fields, known to the heap: isinstance(e, C), e.f. -/
namespace DP
open PySem PySem.Spec PyProof.Rows L2
variable [ClsMap]
/-- what each class of the map must say -/
def Ecl (K : PySem.W.Frag) (flds : List Str) : Prop := ∀ (n : Nat) (C : Addr), ClsMap.m n = some C → ExcC K C ∧ ∀ f ∈ flds, PySem.W.findIn K (.ref C) f = some none
/-- the answers of isinstance(e, C), of an except clause for C -/
def Ist (K : PySem.W.Frag) (cv : Value) (l : List Nat) (b : Bool) : Prop := ∀ n ∈ l, ∀ C, ClsMap.m n = some C → PySem.W.kitOne K (.ref C) cv = some b ∧ PySem.W.exmOne K (.ref C) cv = some b
theorem lookup_zip {K : PySem.W.Frag} {g : G} {f : Str} : ∀ {ns : List Str} {vs : List V} {ds : List D} {d : D}, Reps K g vs ds → (ns.zip ds).lookup f = some d → ∃ v, (ns.zip vs).lookup f = some v ∧ Rep K g v d
  | [], _, _, _, _, h => by simp at h
  | n :: ns, _, _, _, .nil, h => by simp at h
  | n :: ns, _, _, _, .cons (v := v) r rs, h => by
    rw [List.zip_cons_cons, List.lookup_cons] at h
    rw [List.zip_cons_cons, List.lookup_cons]
    cases q : f == n with
    | true =>
      rw [q] at h
      cases h
      exact ⟨v, rfl, r⟩
    | false =>
      rw [q] at h
      obtain ⟨w, hw, rw'⟩ := lookup_zip rs h
      exact ⟨w, hw, rw'⟩
section
variable {X : Cx} {pins : List (Addr × Obj)} {σ : L2.St} {H : Hp} {s : Shared}
/-- the caught exception in the state -/
theorem err_at {g : G} {M : Mem} {a dx C : Addr} {oe : Obj} {fs : List (Str × V)} (I : Inv X pins σ H s) (R : RelM X.K g M H) (h1 : g.F a = some (.frz oe (.own a))) (h2 : oe.cls = .ref C) (h3 : oe.dict = some dx) (h4 : ∃ ws, oe.data = .fields ws) (h5 : g.F dx = some (.xd fs)) :
    ∃ (od : Obj) (mp : Str → Option Value), PySem.W.InstAt s.heap a oe C (some od) ∧ (∀ f, PySem.W.lookIn f od = some (mp f)) ∧ ∀ f, RelO (fs.lookup f) (mp f) := by
  obtain ⟨ws, hw⟩ := h4
  obtain ⟨there, _⟩ : ObjOk X.prog X.w H s.heap a (.frz oe (.own a)) := I.hok a _ (R.sub _ _ h1)
  obtain ⟨mp, nsp, rel⟩ : ObjOk X.prog X.w H s.heap dx (.xd fs) := I.hok dx _ (R.sub _ _ h5)
  obtain ⟨od, hod, look⟩ := lookIn_ns nsp
  exact ⟨od, mp, ⟨there, h2, by unfold PySem.W.notCls; rw [hw] <;> rfl, by rw [h3]; exact hod⟩, look, rel⟩
/-- isinstance(e, C) -/
theorem so_isC {yes no : List Nat} {cv : Value} {flds : List Str} (hy : Ist X.K cv yes true) (hn : Ist X.K cv no false) (ec : Ecl X.K flds) : CallR X (.builtin "isinstance") (fun xs H Q => ∃ x c, xs = [x, c] ∧ (∀ u, RelV c u → u = cv) ∧ rP X.K (prIsC yes no) [x] H Q) := by
  intro pins s σ H xs us Q I r ⟨x, c, e, hcv, hq⟩
  subst e
  obtain ⟨g, M, a, R, ra, q⟩ := rP.one hq
  cases r with
  | @cons _ u1 _ _ rx rr =>
    cases rr with
    | @cons _ u2 _ _ rt rr =>
      cases rr
      have ec' := hcv _ rt
      subst ec'
      cases ra with
      | @err aa dx C oe cn ns vs ds h1 h2 h3 h4 h5 h6 h7 =>
        obtain rfl : u1 = Value.ref aa := rx
        obtain ⟨od, mp, J, _⟩ := err_at I R h1 h2 h3 h4 h6
        obtain ⟨EC, _⟩ := ec _ _ h5
        have hcl : (PySem.W.clsIn X.K C).isSome = true := (PySem.W.any_some EC.hd).elim fun cd h => by rw [h.1]; rfl
        have go : ∀ b, PySem.W.kitOne X.K (.ref C) u2 = some b → Q (.bl b) H → wpAny (model X.prog X.w) X.A (call (.builtin "isinstance") [.ref aa, u2]) (EP X pins σ Q) X.xe s := fun b e q2 =>
          PySem.W.kia_one (PySem.W.kitx_exc hcl EC.hg EC.hk EC.hs EC.ha EC.hn EC.ht EC.hm) I.kIn J e (fun z => nomatch z) fun tk => ⟨.bl b, H, I.kept (t' := tk) fun _ _ z => z, rfl, q2⟩
        dsimp only [prIsC] at q
        split at q
        · rename_i hm
          exact go true (hy _ hm _ h5).1 (q.here R (.bl _))
        · split at q
          · rename_i hm
            exact go false (hn _ hm _ h5).1 (q.here R (.bl _))
          · exact False.elim q
      | _ => exact False.elim q
/-- e.f -/
theorem pe_fld {cf : Cf} {W : WX} {e : Expr} {e' : E} {pos : Pos} {f : Str} {flds : List Str} (hK : X.K = cf.K) (ec : Ecl X.K flds) (hf : f ∈ flds) (he : PE X e (TD cf W e')) (hb : attributeBase e f X.env (eval e X.env) = eval e X.env) : PE X (.Attribute e f pos) (TD cf W (.pr (.fld f) [e'])) := by
  constructor
  intro pn0 s0 st0 Hp0 Want I0 ⟨g, env, M, R, RE, q⟩
  rw [ev_pr1] at q
  refine attr_of hb (thn (he.run pn0 s0 st0 Hp0 _ I0 ⟨g, env, M, R, RE, q.bind.imp fun d1 M1 g1 H1 st1 R1 q1 x rx => (⟨g1, M1, d1, R1, rx, q1.ofP⟩ : ∃ g1 M1 d1, RelM cf.K g1 M1 H1 ∧ Rep cf.K g1 x d1 ∧ PostP cf.K g1 H1 (pr (.fld f) M1 [d1]) Want)⟩) ?_)
  rintro w0 s1 ⟨y, Hq, Iq, ry, g1, M1, d1, R1, rx, q1⟩
  rw [← hK] at R1 rx q1
  cases rx with
  | @err aa dx C oe cn ns vs ds h1 h2 h3 h4 h5 h6 h7 =>
    obtain rfl : w0 = Value.ref aa := ry
    obtain ⟨od, mp, J, look, rel⟩ := err_at Iq R1 h1 h2 h3 h4 h6
    obtain ⟨EC, hno⟩ := ec _ _ h5
    simp only [pr, prFld] at q1
    split at q1
    · rename_i d hd
      obtain ⟨v, hv, rv⟩ := lookup_zip h7 hd
      obtain ⟨got, hgot, rgot⟩ := RelO.some_of (v := v) (o := mp f) (by rw [← hv]; exact rel f)
      refine HandSPX.exc_get Iq.kIn J EC.hg EC.hk EC.hs (PySem.W.findObj_own EC.hd (hno f hf) rfl (by rw [look, hgot])) (handed_of rgot) ⟨v, Hq, Iq.tok _, rgot, q1.here R1 rv⟩
    · exact False.elim q1
  | _ => simp only [pr, prFld] at q1; exact False.elim q1
end
end DP

/-! DP.Cls: what a def's body must know of an own exception class. -/
namespace DP
open PySem PySem.Spec PyProof.Rows L2 NdefX
variable [ClsMap]
/-- an own exception class as a def's body sees it: its number, how many arguments, its fields and their slots -/
structure ClsK (P : Program) (w : World) (K : PySem.W.Frag) (mg : Str → Option Value) (base : Heap) (cls : Nat → Option Addr) (x : Str) (c m : Nat) (r : List (Str × Nat)) (C : Addr) : Prop where
  num : cls c = some C
  nam : mg x = some (.ref C)
  cls : OexC K C
  ini : ∃ fI fd ps N, PySem.W.findIn K (.ref C) "__init__" = some (some (.ref fI)) ∧ PySem.W.typeIn K (.ref fI) = some (.type "function") ∧ FnOk P w K mg base (L2.CX P w) 1 fI fd ps (spI N C m r) ∧ Binds K fd ps []
  few : m ≤ 1000
end DP

/-! DP.Expr2: tests, and, or, if, methods, slices, f-strings, calls. -/
namespace DP
open PySem PySem.Spec PyProof.Rows L2
variable [ClsMap]
section
variable {cf : Cf} {W : WX} {X : Cx}
/-! ### tests -/
theorem tst_op {e' : E} {env : Env} {M : Mem} : tst cf.call e' env M = (ev cf.call e' env M).bind tru := rfl
theorem Post.tru {g : G} {H : Hp} {σ : L2.St} {d : D} {M : Mem} {k : Bool → Mem → G → Hp → Prop} (h : Post cf W g H σ (DP.tru d M) k) : ∃ b, truth M d = some b ∧ Post cf W g H σ (.ok b M) k := by
  unfold DP.tru at h
  split at h
  · rename_i b hb
    exact ⟨b, hb, h⟩
  · exact False.elim h
theorem tt_plain {e : Expr} {e' : E} (hK : X.K = cf.K) (h : PE X e (TD cf W e')) (he : ∀ whole, isTrue e X.env whole = (do let v ← whole; standAt e.pos; holding [v] (truthy v))) : PT X e (TT cf W e') := pt_weak (pt_truth h he) fun σ H Q ⟨g, env, M, R, RE, q⟩ => by
  refine ⟨g, env, M, R, RE, q.bind.imp fun d M1 g1 H1 st1 R1 q1 v r => ?_⟩
  obtain ⟨b, hb, q2⟩ := q1.tru
  exact ⟨b, by rw [hK]; exact R1.truth r hb, q2.ok R1⟩
theorem tt_and1 {a : Expr} {a' : E} {pos : Pos} (h : PT X a (TT cf W a')) : PW X (.BoolOp .And [a] pos) (TT cf W a') := pw_and1 h
theorem tt_or1 {a : Expr} {a' : E} {pos : Pos} (h : PT X a (TT cf W a')) : PW X (.BoolOp .Or [a] pos) (TT cf W a') := pw_or1 h
theorem tt_and {a b : Expr} {rest : List Expr} {a' b' : E} {pos : Pos} (ha : PT X a (TT cf W a')) (hb : PW X (.BoolOp .And (b :: rest) pos) (TT cf W b')) : PW X (.BoolOp .And (a :: b :: rest) pos) (TT cf W (.and_ a' b')) :=
  pw_weak (pw_and ha hb) fun σ H Q ⟨g, env, M, R, RE, q⟩ => by
    refine ⟨g, env, M, R, RE, ?_⟩
    unfold tst at q ⊢
    simp only [ev, bind_assoc] at q
    cases h : ev cf.call a' env M with
    | bad => rw [h] at q; exact q
    | exc x M1 => rw [h] at q; exact q
    | ok d M1 =>
      rw [h] at q
      simp only [Res.bind] at q ⊢
      unfold DP.tru
      cases ht : truth M1 d with
      | none => simp only [ht] at q; exact q
      | some b =>
        simp only [ht] at q
        cases b with
        | true =>
          intro g1 H1 st1 R1
          exact ⟨g1, env, M1, R1, RE.mono st1.le, q.step st1⟩
        | false =>
          simp only [Res.bind, DP.tru, ht] at q
          intro g1 H1 st1 R1
          exact q g1 H1 st1 R1
theorem tt_or {a b : Expr} {rest : List Expr} {a' b' : E} {pos : Pos} (ha : PT X a (TT cf W a')) (hb : PW X (.BoolOp .Or (b :: rest) pos) (TT cf W b')) : PW X (.BoolOp .Or (a :: b :: rest) pos) (TT cf W (.or_ a' b')) :=
  pw_weak (pw_or ha hb) fun σ H Q ⟨g, env, M, R, RE, q⟩ => by
    refine ⟨g, env, M, R, RE, ?_⟩
    unfold tst at q ⊢
    simp only [ev, bind_assoc] at q
    cases h : ev cf.call a' env M with
    | bad => rw [h] at q; exact q
    | exc x M1 => rw [h] at q; exact q
    | ok d M1 =>
      rw [h] at q
      simp only [Res.bind] at q ⊢
      unfold DP.tru
      cases ht : truth M1 d with
      | none => simp only [ht] at q; exact q
      | some b =>
        simp only [ht] at q
        cases b with
        | false =>
          intro g1 H1 st1 R1
          exact ⟨g1, env, M1, R1, RE.mono st1.le, q.step st1⟩
        | true =>
          simp only [Res.bind, DP.tru, ht] at q
          intro g1 H1 st1 R1
          exact q g1 H1 st1 R1
theorem tt_not {a : Expr} {a' : E} {pos : Pos} (ha : PT X a (TT cf W a')) : PT X (.UnaryOp .Not a pos) (TT cf W (.pr .not_ [a'])) := pt_weak (pt_not ha) fun σ H Q ⟨g, env, M, R, RE, q⟩ => by
  refine ⟨g, env, M, R, RE, ?_⟩
  unfold tst at q ⊢
  rw [ev_pr1, bind_assoc] at q
  cases h : ev cf.call a' env M with
  | bad => rw [h] at q; exact q
  | exc x M1 => rw [h] at q; exact q
  | ok d M1 =>
    rw [h] at q
    simp only [Res.bind, pr, prNot] at q ⊢
    unfold DP.tru
    cases ht : truth M1 d with
    | none => simp only [ht] at q; exact q
    | some b =>
      simp only [ht, okB, DP.ofP, Res.bind] at q
      exact q
/-! ### values -/
theorem td_one {op : BoolOp} {a : Expr} {a' : E} {pos : Pos} (h : PE X a (TD cf W a')) : PE X (.BoolOp op [a] pos) (TD cf W a') := pe_one h
theorem td_and {a b : Expr} {rest : List Expr} {a' b' : E} {pos : Pos} (hK : X.K = cf.K) (ha : PE X a (TD cf W a')) (hb : PE X (.BoolOp .And (b :: rest) pos) (TD cf W b')) : PE X (.BoolOp .And (a :: b :: rest) pos) (TD cf W (.and_ a' b')) :=
  pe_weak (pe_andT ha hb) fun σ H Q ⟨g, env, M, R, RE, q⟩ => by
    simp only [ev] at q
    refine ⟨g, env, M, R, RE, q.bind.imp fun d M1 g1 H1 st1 R1 q1 v r => ?_⟩
    cases ht : truth M1 d with
    | none => simp only [ht] at q1; exact False.elim q1
    | some b =>
      simp only [ht] at q1
      refine ⟨b, by rw [hK]; exact R1.truth r ht, ?_⟩
      cases b with
      | true => exact ⟨g1, env, M1, R1, RE.mono st1.le, q1⟩
      | false => exact q1.ok R1 v r
theorem td_or {a b : Expr} {rest : List Expr} {a' b' : E} {pos : Pos} (hK : X.K = cf.K) (ha : PE X a (TD cf W a')) (hb : PE X (.BoolOp .Or (b :: rest) pos) (TD cf W b')) : PE X (.BoolOp .Or (a :: b :: rest) pos) (TD cf W (.or_ a' b')) :=
  pe_weak (pe_orT ha hb) fun σ H Q ⟨g, env, M, R, RE, q⟩ => by
    simp only [ev] at q
    refine ⟨g, env, M, R, RE, q.bind.imp fun d M1 g1 H1 st1 R1 q1 v r => ?_⟩
    cases ht : truth M1 d with
    | none => simp only [ht] at q1; exact False.elim q1
    | some b =>
      simp only [ht] at q1
      refine ⟨b, by rw [hK]; exact R1.truth r ht, ?_⟩
      cases b with
      | false => exact ⟨g1, env, M1, R1, RE.mono st1.le, q1⟩
      | true => exact q1.ok R1 v r
theorem td_not {a : Expr} {a' : E} {pos : Pos} (hK : X.K = cf.K) (ha : PE X a (TD cf W a')) : PE X (.UnaryOp .Not a pos) (TD cf W (.pr .not_ [a'])) := pe_weak (pe_notT ha) fun σ H Q ⟨g, env, M, R, RE, q⟩ => by
  rw [ev_pr1] at q
  refine ⟨g, env, M, R, RE, q.bind.imp fun d M1 g1 H1 st1 R1 q1 v r => ?_⟩
  simp only [pr, prNot] at q1
  cases ht : truth M1 d with
  | none => simp only [ht] at q1; exact False.elim q1
  | some b =>
    simp only [ht] at q1
    exact ⟨b, by rw [hK]; exact R1.truth r ht, q1.ok R1 _ (.bl _)⟩
theorem td_ite {c a b : Expr} {c' a' b' : E} {pos : Pos} (hc : PT X c (TT cf W c')) (ha : PE X a (TD cf W a')) (hb : PE X b (TD cf W b')) : PE X (.IfExp c a b pos) (TD cf W (.ite c' a' b')) :=
  pe_weak (pe_ifExp hc ha hb) fun σ H Q ⟨g, env, M, R, RE, q⟩ => by
    simp only [ev] at q
    refine ⟨g, env, M, R, RE, ?_⟩
    unfold tst
    cases h : ev cf.call c' env M with
    | bad => rw [h] at q; exact q
    | exc x M1 => rw [h] at q; exact q
    | ok d M1 =>
      rw [h] at q
      simp only [Res.bind] at q ⊢
      unfold DP.tru
      cases ht : truth M1 d with
      | none => simp only [ht] at q; exact q
      | some b =>
        simp only [ht] at q
        intro g1 H1 st1 R1
        cases b with
        | true => exact ⟨g1, env, M1, R1, RE.mono st1.le, q.step st1⟩
        | false => exact ⟨g1, env, M1, R1, RE.mono st1.le, q.step st1⟩
/-! ### unary minus, is None -/
theorem td_neg {a : Expr} {a' : E} {pos : Pos} (hK : X.K = cf.K) (ha : PE X a (TD cf W a')) : PE X (.UnaryOp .USub a pos) (TD cf W (.pr .neg [a'])) := pe_weak (pe_un so_neg ha) fun σ H Q ⟨g, env, M, R, RE, q⟩ => by
  rw [ev_pr1] at q
  rw [hK]
  exact ⟨g, env, M, R, RE, q.bind.imp fun d M1 g1 H1 st1 R1 q1 v r => ⟨g1, M1, [d], R1, .cons r .nil, q1.ofP⟩⟩
theorem td_isN {a : Expr} {a' : E} {j : Nat} {pos pos' : Pos} (hK : X.K = cf.K) (ha : PE X a (TD cf W a')) : PE X (.Compare a [.Is] [.Constant .none j pos'] pos) (TD cf W (.pr .isN [a'])) :=
  pe_weak (pe_cmpR so_isN ha pe_non (nomark _)) fun σ H Q ⟨g, env, M, R, RE, q⟩ => by
    rw [ev_pr1] at q
    rw [hK]
    exact ⟨g, env, M, R, RE, q.bind.imp fun d M1 g1 H1 st1 R1 q1 v r => ⟨rfl, g1, M1, [d], R1, .cons r .nil, q1.ofP⟩⟩
theorem td_notN {a : Expr} {a' : E} {j : Nat} {pos pos' : Pos} (hK : X.K = cf.K) (ha : PE X a (TD cf W a')) : PE X (.Compare a [.IsNot] [.Constant .none j pos'] pos) (TD cf W (.pr .notN [a'])) :=
  pe_weak (pe_cmpR so_notN ha pe_non (nomark _)) fun σ H Q ⟨g, env, M, R, RE, q⟩ => by
    rw [ev_pr1] at q
    rw [hK]
    exact ⟨g, env, M, R, RE, q.bind.imp fun d M1 g1 H1 st1 R1 q1 v r => ⟨rfl, g1, M1, [d], R1, .cons r .nil, q1.ofP⟩⟩
theorem tt_one {p : Pr} {e a : Expr} {a' : E} (f : PE X a (TD cf W a') → PT X e (fun σ H Q => TD cf W a' σ H fun x H1 => rP cf.K (pr p) [x] H1 fun x H' => ∃ k, x = .bl k ∧ Q k H')) (hb0 : ∀ M ds d M', pr p M ds = some (d, M') → ∃ b, d = .bl b)
    (ha : PE X a (TD cf W a')) : PT X e (TT cf W (.pr p [a'])) := pt_weak (f ha) fun σ H Q ⟨g, env, M, R, RE, q⟩ => by
  unfold tst at q
  rw [ev_pr1, bind_assoc] at q
  refine ⟨g, env, M, R, RE, q.bind.imp fun d1 M1 g1 H1 st1 R1 q1 x rx => ⟨g1, M1, [d1], R1, .cons rx .nil, ?_⟩⟩
  cases e : pr p M1 [d1] with
  | none => rw [e] at q1; exact q1
  | some dm =>
    obtain ⟨d, M3⟩ := dm
    obtain ⟨b, rfl⟩ := hb0 _ _ _ _ e
    rw [e] at q1
    intro g3 v H3 st3 R3 r3
    cases r3
    exact ⟨b, rfl, q1 g3 H3 st3 R3⟩
theorem tt_isN {a : Expr} {a' : E} {j : Nat} {pos pos' : Pos} (hK : X.K = cf.K) (ha : PE X a (TD cf W a')) : PT X (.Compare a [.Is] [.Constant .none j pos'] pos) (TT cf W (.pr .isN [a'])) :=
  tt_one (fun ha => pt_weak (pt_cmpR so_isN ha pe_non (nomark _)) fun σ H Q q => by
    obtain ⟨g, env, M, R, RE, q⟩ := q
    rw [hK]
    exact ⟨g, env, M, R, RE, q.imp fun _ _ _ _ _ _ k v r => ⟨rfl, k v r⟩⟩) (fun M ds d M' e => by
      simp only [pr, prIsN] at e
      split at e <;> cases e
      exact ⟨_, rfl⟩) ha
theorem tt_notN {a : Expr} {a' : E} {j : Nat} {pos pos' : Pos} (hK : X.K = cf.K) (ha : PE X a (TD cf W a')) : PT X (.Compare a [.IsNot] [.Constant .none j pos'] pos) (TT cf W (.pr .notN [a'])) :=
  tt_one (fun ha => pt_weak (pt_cmpR so_notN ha pe_non (nomark _)) fun σ H Q q => by
    obtain ⟨g, env, M, R, RE, q⟩ := q
    rw [hK]
    exact ⟨g, env, M, R, RE, q.imp fun _ _ _ _ _ _ k v r => ⟨rfl, k v r⟩⟩) (fun M ds d M' e => by
      simp only [pr, prNotN] at e
      split at e <;> cases e
      exact ⟨_, rfl⟩) ha
/-! ### methods of built-in types -/
theorem D.ty_tyV {K : PySem.W.Frag} {g : G} {M : Mem} {H : Hp} {d : D} {v : V} {t : String} (R : RelM K g M H) (r : Rep K g v d) (ht : t = "str" ∨ t = "list") (h : d.ty M = some t) : tyV K t v H := by
  cases r with
  | str s => cases h; rfl
  | lst e q => cases h; exact .inl ⟨rfl, _, SqL.of (R.sub _ _ e)⟩
  | @loc n a e =>
    simp only [D.ty] at h
    split at h
    · rename_i xs hc
      cases h
      obtain ⟨_, vs, q1, _⟩ := R.cell n a _ e hc
      exact .inl ⟨rfl, _, SqL.of q1⟩
    · cases h
  | klst e q => cases h
  | _ =>
    exfalso
    rcases ht with rfl | rfl <;> simp [D.ty] at h
theorem td_meth {p : Pr} {t : String} {o e : Expr} {es : List Expr} {o' e' : E} {es' : List E} {name : Str} {apos cpos : Pos} {id : String} (hK : X.K = cf.K) (pa : PlainAttrs t) (slot : Slot t name id) (hty : typeOf (.builtin id) = pure (.type "method_descriptor")) (hm : MtR X id (rM X.K (pr p))) (ht : t = "str" ∨ t = "list")
    (ho : PE X o (TD cf W o')) (ha : PA X (e :: es) (TDs cf W (e' :: es')))
    (hbase : attributeBase o name X.env (eval o X.env) = eval o X.env)
    (hfew : ((backTo cpos (starEach (e :: es) X.env)).all (fun x => !x.1) && (backToKw cpos (keywordEach [] X.env)).all (fun x => x.1.isSome)
      && decide ((e :: es).length + ([] : List Keyword).length + (if ([] : List Keyword).isEmpty then 0 else 1) < 30)) = true)
    (hline : (apos.endLine == cpos.line) = true) (hs : starEach (e :: es) X.env = (false, eval e X.env) :: starEach es X.env) (hplain : (backTo cpos (starEach es X.env)).any (·.1) = false) :
    PE X (.Call (.Attribute o name apos) (e :: es) [] cpos) (TD cf W (.meth p t o' (e' :: es'))) := pe_weak (pe_bm pa slot hty hm ho ha hbase hfew hline hs hplain) fun σ H Q ⟨g, env, M, R, RE, q⟩ => by
  rw [ev] at q
  refine ⟨g, env, M, R, RE, q.bind.imp fun d1 M1 g1 H1 st1 R1 q1 x rx => ?_⟩
  split at q1
  · rename_i hty
    rw [hK]
    refine ⟨D.ty_tyV R1 rx ht hty, g1, env, M1, R1, RE.mono st1.le, q1.bind.imp fun ds M2 g2 H2 st2 R2 q2 vs rs => ?_⟩
    exact ⟨g2, M2, d1 :: ds, R2, .cons (rx.mono st2.le) rs, q2.ofP⟩
  · exact False.elim q1
/-! ### subscripts -/
theorem td_idx {a b : Expr} {a' b' : E} {pos : Pos} (hK : X.K = cf.K) (hs : PlainIx b) (ha : PE X a (TD cf W a')) (hb : PE X b (TD cf W b')) : PE X (.Subscript a b pos) (TD cf W (.pr .idx [a', b'])) :=
  td_op2 (fun ha hb => by rw [← hK]; exact pe_ix so_idx ha hb hs) ha hb
theorem slc_post {g : G} {M : Mem} {H : Hp} {σ : L2.St} {lo hi : Option Int} {d : D} {x : V} {Q : VK} (hK : X.K = cf.K) (R : RelM cf.K g M H) (r : Rep cf.K g x d) (q : PostP cf.K g H (slc M lo hi d) Q) : rSl X.K x lo hi H Q := by
  rw [hK]
  exact ⟨g, M, d, R, r, q⟩
theorem td_slice0 {a : Expr} {a' : E} {pos p2 : Pos} (hK : X.K = cf.K) (ha : PE X a (TD cf W a')) : PE X (.Subscript a (.Slice none none none p2) pos) (TD cf W (.pr (.slice false false) [a'])) :=
  pe_weak (pe_slice so_slice ha po_none po_none) fun σ H Q ⟨g, env, M, R, RE, q⟩ => by
    rw [ev_pr1] at q
    exact ⟨g, env, M, R, RE, q.bind.imp fun d1 M1 g1 H1 st1 R1 q1 x rx => slc_post (σ := σ) hK R1 rx q1.ofP⟩
theorem td_sliceL {a l : Expr} {a' l' : E} {pos p2 : Pos} (hK : X.K = cf.K) (ha : PE X a (TD cf W a')) (hl : PE X l (TD cf W l')) : PE X (.Subscript a (.Slice (some l) none none p2) pos) (TD cf W (.pr (.slice true false) [a', l'])) :=
  pe_weak (pe_slice so_slice ha (po_some hl) po_none) fun σ H Q ⟨g, env, M, R, RE, q⟩ => by
    rw [ev_pr2] at q
    refine ⟨g, env, M, R, RE, q.bind.imp fun d1 M1 g1 H1 st1 R1 q1 x rx => ⟨g1, env, M1, R1, RE.mono st1.le, q1.bind.imp fun d2 M2 g2 H2 st2 R2 q2 y ry => ?_⟩⟩
    have q3 := q2.ofP
    cases ry <;> first | exact False.elim q3 | exact ⟨_, rfl, slc_post (σ := σ) hK R2 (rx.mono st2.le) q3⟩
theorem td_sliceH {a l : Expr} {a' l' : E} {pos p2 : Pos} (hK : X.K = cf.K) (ha : PE X a (TD cf W a')) (hl : PE X l (TD cf W l')) : PE X (.Subscript a (.Slice none (some l) none p2) pos) (TD cf W (.pr (.slice false true) [a', l'])) :=
  pe_weak (pe_slice so_slice ha po_none (po_some hl)) fun σ H Q ⟨g, env, M, R, RE, q⟩ => by
    rw [ev_pr2] at q
    refine ⟨g, env, M, R, RE, q.bind.imp fun d1 M1 g1 H1 st1 R1 q1 x rx => ⟨g1, env, M1, R1, RE.mono st1.le, q1.bind.imp fun d2 M2 g2 H2 st2 R2 q2 y ry => ?_⟩⟩
    have q3 := q2.ofP
    cases ry <;> first | exact False.elim q3 | exact ⟨_, rfl, slc_post (σ := σ) hK R2 (rx.mono st2.le) q3⟩
theorem td_sliceLH {a l u : Expr} {a' l' u' : E} {pos p2 : Pos} (hK : X.K = cf.K) (ha : PE X a (TD cf W a')) (hl : PE X l (TD cf W l')) (hu : PE X u (TD cf W u')) : PE X (.Subscript a (.Slice (some l) (some u) none p2) pos) (TD cf W (.slc3 a' l' u')) :=
  pe_weak (pe_slice so_slice ha (po_some hl) (po_some hu)) fun σ H Q ⟨g, env, M, R, RE, q⟩ => by
    rw [ev] at q
    refine ⟨g, env, M, R, RE, q.bind.imp fun d1 M1 g1 H1 st1 R1 q1 x rx => ⟨g1, env, M1, R1, RE.mono st1.le, q1.bind.imp fun d2 M2 g2 H2 st2 R2 q2 y ry => ?_⟩⟩
    cases ry <;> first | exact False.elim q2 | skip
    refine ⟨_, rfl, g2, env, M2, R2, RE.mono (st1.le.trans st2.le), q2.bind.imp fun d3 M3 g3 H3 st3 R3 q3 z rz => ?_⟩
    cases rz <;> first | exact False.elim q3 | exact ⟨_, rfl, slc_post (σ := σ) hK R3 ((rx.mono st2.le).mono st3.le) q3.ofP⟩
/-! ### f-strings -/
theorem td_fmt1 {e : Expr} {e' : E} {pos : Pos} (h : PE X e (TD cf W e')) : PE X (.FormattedValue e (-1) none pos) (TD cf W (.pr .fmt1 [e'])) := pe_weak (pe_fmt h) fun σ H Q ⟨g, env, M, R, RE, q⟩ => by
  rw [ev_pr1] at q
  refine ⟨g, env, M, R, RE, q.bind.imp fun d M1 g1 H1 st1 R1 q1 v r => ?_⟩
  have q2 := q1.ofP
  simp only [pr] at q2
  cases r with
  | str s =>
    dsimp only [prFmt1] at q2
    split at q2
    · rename_i hz
      exact .inl ⟨s, rfl, hz, q2.here R1 (.str _)⟩
    · exact False.elim q2
  | int i =>
    dsimp only [prFmt1] at q2
    split at q2
    · rename_i hz
      exact .inr ⟨i, rfl, hz, q2.here R1 (.str _)⟩
    · exact False.elim q2
  | _ => exact False.elim q2
theorem fstr_run {σ : L2.St} {env : Env} : ∀ (es : List E) (acc out : Str) (g : G) (M M' : Mem) (H : Hp) (ds : List D) (Q : Str → Hp → Prop), RelM cf.K g M H → RelE cf.K g env σ → evs cf.call es env M = .ok ds M' → fmtAll acc ds = some out →
    (∀ g' H', Stp g H g' H' → RelM cf.K g' M' H' → Q out H') → tJs (es.map (TD cf W)) acc σ H Q
  | [], acc, out, g, M, M', H, ds, Q, R, RE, he, hf, k => by
    simp only [evs] at he
    cases he
    cases hf
    exact k g H Stp.refl R
  | e :: es, acc, out, g, M, M', H, ds, Q, R, RE, he, hf, k => by
    simp only [evs] at he
    cases h1 : ev cf.call e env M with
    | bad => rw [h1] at he; cases he
    | exc x M1 => rw [h1] at he; cases he
    | ok d M1 =>
      rw [h1] at he
      simp only [Res.bind] at he
      cases h2 : evs cf.call es env M1 with
      | bad => rw [h2] at he; cases he
      | exc x M2 => rw [h2] at he; cases he
      | ok ds2 M2 =>
        rw [h2] at he
        simp only [Res.bind] at he
        cases he
        show TD cf W e σ H _
        refine ⟨g, env, M, R, RE, ?_⟩
        rw [h1]
        intro g1 H1 st1 R1 v r
        cases r with
        | str s =>
          simp only [fmtAll] at hf
          split at hf
          · rename_i hz
            exact ⟨s, rfl, hz, fstr_run es _ out g1 M1 _ H1 ds2 Q R1 (RE.mono st1.le) h2 hf fun g' H' st R' => k g' H' (st1.trans st) R'⟩
          · cases hf
        | _ => cases hf
theorem td_fstr {v1 v2 : Expr} {rest : List Expr} {es' : List E} {pos : Pos} (h : PJ X (v1 :: v2 :: rest) (es'.map (TD cf W))) : PE X (.JoinedStr (v1 :: v2 :: rest) pos) (TD cf W (.fstr es')) := pe_weak (pe_joined h) fun σ H Q ⟨g, env, M, R, RE, q⟩ => by
  rw [ev] at q
  cases he : evs cf.call es' env M with
  | bad => rw [he] at q; exact False.elim q
  | exc x M1 => rw [he] at q; exact False.elim q
  | ok ds M1 =>
    rw [he] at q
    simp only [prFmt] at q
    cases hf : fmtAll Str.empty ds with
    | none => simp only [hf] at q; exact False.elim q
    | some out =>
      simp only [hf] at q
      exact fstr_run es' _ out g M M1 H ds _ R RE he hf fun g' H' st R' => q g' H' st R' _ (.str _)
/-! ### calls of own defs -/
/-- what a def promises: what the evaluation gives -/
def spOf (cf : Cf) (f : Nat) : Sp := fun vs H Q E => ∃ g M ds, RelM cf.K g M H ∧ Reps cf.K g vs ds ∧ Post cf (fun cls d _ H => E cls d H) g H [] (cf.call f ds M) fun d _ g' H' => ∀ v, Rep cf.K g' v d → Q v H'
theorem td_call {x : Str} {p pos : Pos} {e : Expr} {es : List Expr} {es' : List E} {f : Nat} {k : Nat} {fa : Addr} {fd : FuncData} {ps : List Str} (F : FnOk X.prog X.w X.K X.mg X.base (L2.CX X.prog X.w) k fa fd ps (spOf cf f)) (hr : Room k X.A) (hg : Gl X x)
    (hm : X.mg x = some (.ref fa)) (hk : PySem.W.keepIn X.K (.ref fa) = true) (hb : Binds X.K fd ps []) (tk : Takes X W) (ha : PA X (e :: es) (TDs cf W es')) (hdb : (x == ("__debug__" : Str)) = false)
    (he : starEach (e :: es) X.env = (false, eval e X.env) :: starEach es X.env) (hpl : (backTo pos (starEach es X.env)).any (·.1) = false) : PE X (.Call (.Name x p) (e :: es) [] pos) (TD cf W (.call f es')) :=
  pe_weak (pe_callSD (E := WE W) (dvs := []) F hr hg hm hk hb .nil (passAt tk) ha hdb he hpl) fun σ H Q ⟨g, env, M, R, RE, q⟩ => by
    rw [ev] at q
    refine ⟨g, env, M, R, RE, q.bind.imp fun ds M1 g1 H1 st1 R1 q1 vs rs => ?_⟩
    show spOf cf f (vs ++ []) H1 Q (WE W σ)
    rw [List.append_nil]
    refine ⟨g1, M1, ds, R1, rs, ?_⟩
    cases h : cf.call f ds M1 with
    | bad => rw [h] at q1; exact q1
    | exc x M2 => rw [h] at q1; exact q1
    | ok d M2 => rw [h] at q1; exact q1
end
end DP

/-! DP.Walks: targets, what loops walk, comprehensions. -/
namespace DP
open PySem PySem.Spec PyProof.Rows L2
variable [ClsMap]

/-- an iterator walks these data -/
structure Walks (cf : Cf) (J : It) (w : Walk) (g : G) (H : Hp) : Prop where
  go : ∀ i d g' M' H', w.xs[i]? = some d → Stp g H g' H' → RelM cf.K g' M' H' → w.Ok M' → J.go i H' ∧ ∀ x H'', J.yld i H' x H'' → ∃ g'', Stp g' H' g'' H'' ∧ RelM cf.K g'' M' H'' ∧ Rep cf.K g'' x d
  stop : ∀ g' M' H', Stp g H g' H' → RelM cf.K g' M' H' → w.Ok M' → J.stop w.xs.length H'
def walkR (k : SrcK) (ds : List D) (M : Mem) : Res Walk := match walk M k ds with
  | none => .bad
  | some w => .ok w M
def TSrc (cf : Cf) (W : WX) (k : SrcK) (src : List E) : TI := fun σ H R => ∃ g env M, RelM cf.K g M H ∧ RelE cf.K g env σ ∧ Post cf W g H σ ((evs cf.call src env M).bind (walkR k)) fun w _ g' H' => ∀ J, Walks cf J w g' H' → R J H'
section
variable {cf : Cf} {W : WX} {X : Cx}
theorem Walks.list {a : Addr} {vs : List V} {xs : List D} {g : G} {H : Hp} (hs : ∀ H', Same g.F H' → SqL cf.K H' a vs) (hl : ∀ {H' : Hp} {ys : List V}, SqL cf.K H' a ys → SqL cf.K H' a vs → ys = vs ∨ True) (rs : Reps cf.K g vs xs) : Walks cf (Itl cf.K a) (.items xs) g H := by
  refine ⟨fun i d g' M' H' hd st R _ => ?_, fun g' M' H' st R _ => ?_⟩
  · obtain ⟨v, hv, r⟩ := rs.get hd
    have q := hs H' (st.le.F.trans R.sub)
    refine ⟨⟨vs, v, q, hv⟩, fun x H'' y => ?_⟩
    obtain ⟨e, y⟩ := y
    subst e
    have e := y vs q
    rw [hv] at e
    cases e
    exact ⟨g', Stp.refl, R, r.mono st.le⟩
  · exact ⟨vs, hs H' (st.le.F.trans R.sub), by rw [rs.len]; exact Nat.le_refl _⟩
theorem Walks.cell {a : Addr} {n : Nat} {xs : List D} {g : G} {H : Hp} (ha : g.a[n]? = some a) : Walks cf (Itl cf.K a) (.cell n xs) g H := by
  refine ⟨fun i d g' M' H' hd st R ok => ?_, fun g' M' H' st R ok => ?_⟩
  · obtain ⟨_, vs, q1, rs⟩ := R.cell n a _ (st.le.at ha) (show M'[n]? = some (.lst xs) from ok)
    obtain ⟨v, hv, r⟩ := rs.get hd
    refine ⟨⟨vs, v, SqL.of q1, hv⟩, fun x H'' y => ?_⟩
    obtain ⟨e, y⟩ := y
    subst e
    have e := y vs (SqL.of q1)
    rw [hv] at e
    cases e
    exact ⟨g', Stp.refl, R, r⟩
  · obtain ⟨_, vs, q1, rs⟩ := R.cell n a _ (st.le.at ha) (show M'[n]? = some (.lst xs) from ok)
    exact ⟨vs, SqL.of q1, by rw [rs.len]; exact Nat.le_refl _⟩
theorem Walks.tup {a : Addr} {vs : List V} {xs : List D} {g : G} {H : Hp} (hs : ∀ H', Same g.F H' → SqT cf.K H' a vs) (rs : Reps cf.K g vs xs) : Walks cf (Itt cf.K a) (.items xs) g H := by
  refine ⟨fun i d g' M' H' hd st R _ => ?_, fun g' M' H' st R _ => ?_⟩
  · obtain ⟨v, hv, r⟩ := rs.get hd
    have q := hs H' (st.le.F.trans R.sub)
    refine ⟨⟨vs, v, q, hv⟩, fun x H'' y => ?_⟩
    obtain ⟨e, y⟩ := y
    subst e
    have e := y vs q
    rw [hv] at e
    cases e
    exact ⟨g', Stp.refl, R, r.mono st.le⟩
  · exact ⟨vs, hs H' (st.le.F.trans R.sub), by rw [rs.len]; exact Nat.le_refl _⟩
theorem Walks.rng {lo : Int} {n : Nat} {g : G} {H : Hp} : Walks cf (Itr lo n) (.items (rngD lo n)) g H := by
  refine ⟨fun i d g' M' H' hd st R _ => ?_, fun g' M' H' st R _ => ?_⟩
  · have hi : i < n := by
      have := (List.getElem?_eq_some_iff.mp hd).1
      simpa [rngD, Walk.xs] using this
    simp only [Walk.xs, rngD, List.getElem?_map, List.getElem?_range hi, Option.map_some, Option.some.injEq] at hd
    refine ⟨hi, fun x H'' y => ?_⟩
    obtain ⟨e1, e2⟩ := y
    subst e1 e2 hd
    exact ⟨g', Stp.refl, R, .int _⟩
  · show n ≤ (rngD lo n).length
    simp [rngD]
theorem Walks.str {z : Str} {g : G} {H : Hp} : Walks cf (Its z) (.items (z.cps.toList.map fun c => .str ⟨#[c]⟩)) g H := by
  refine ⟨fun i d g' M' H' hd st R _ => ?_, fun g' M' H' st R _ => ?_⟩
  · simp only [Walk.xs, List.getElem?_map, Option.map_eq_some_iff] at hd
    obtain ⟨c, hc, e⟩ := hd
    subst e
    have hi : i < z.cps.size := by
      have := (List.getElem?_eq_some_iff.mp hc).1
      simpa using this
    refine ⟨hi, fun x H'' y => ?_⟩
    obtain ⟨e1, c', hc', e2⟩ := y
    subst e1 e2
    have : c' = c := by
      have h1 : z.cps.toList[i]? = some c' := by rw [Array.getElem?_toList]; exact hc'
      rw [hc] at h1
      exact (Option.some.inj h1).symm
    subst this
    exact ⟨g', Stp.refl, R, .str _⟩
  · show z.cps.size ≤ (z.cps.toList.map _).length
    simp
theorem enumD_get : ∀ {xs : List D} {k i : Nat} {d : D}, (enumD k xs)[i]? = some d → ∃ x, xs[i]? = some x ∧ d = .tup [.int ((k + i : Nat) : Int), x]
  | [], _, _, _, h => by simp [enumD] at h
  | x :: xs, k, 0, d, h => by
    simp [enumD] at h
    exact ⟨x, rfl, by rw [← h]; simp⟩
  | x :: xs, k, i + 1, d, h => by
    simp only [enumD, List.getElem?_cons_succ] at h
    obtain ⟨y, e, q⟩ := enumD_get h
    exact ⟨y, by simpa using e, by rw [q, show k + 1 + i = k + (i + 1) by omega]⟩
theorem enumD_len : ∀ (xs : List D) (k : Nat), (enumD k xs).length = xs.length
  | [], _ => rfl
  | _ :: xs, k => by simp [enumD, enumD_len xs]
theorem Walks.enum {a : Addr} {vs : List V} {xs : List D} {g : G} {H : Hp} (ha : g.F a = some (.lst vs)) (rs : Reps cf.K g vs xs) : Walks cf (Ite cf.K a) (.items (enumD 0 xs)) g H := by
  refine ⟨fun i d g' M' H' hd st R _ => ?_, fun g' M' H' st R _ => ?_⟩
  · obtain ⟨x0, hx, e0⟩ := enumD_get hd
    subst e0
    obtain ⟨v, hv, r⟩ := rs.get hx
    have q : SqL cf.K H' a vs := SqL.of (R.sub _ _ (st.le.F _ _ ha))
    refine ⟨⟨vs, v, q, hv⟩, fun x H'' y => ?_⟩
    obtain ⟨T, w, e1, hT, e2, y⟩ := y
    subst e1 e2
    have e := y vs q
    rw [hv] at e
    cases e
    obtain ⟨R', st'⟩ := R.froze (o := .tup [.int (i : Nat), v]) hT
    exact ⟨_, st', R', .tup (SqT.of upd_same) (.cons (by rw [Nat.zero_add]; exact .int _) (.cons ((r.mono st.le).mono st'.le) .nil))⟩
  · refine ⟨vs, SqL.of (R.sub _ _ (st.le.F _ _ ha)), ?_⟩
    show vs.length ≤ (enumD 0 xs).length
    rw [enumD_len, rs.len]
    exact Nat.le_refl _
theorem zipD_get : ∀ {xs ys : List D} {i : Nat} {d : D}, (zipD xs ys)[i]? = some d → ∃ x y, xs[i]? = some x ∧ ys[i]? = some y ∧ d = .tup [x, y]
  | [], _, _, _, h => by simp [zipD] at h
  | _ :: _, [], _, _, h => by simp [zipD] at h
  | x :: xs, y :: ys, 0, d, h => by
    simp [zipD] at h
    exact ⟨x, y, rfl, rfl, h.symm⟩
  | x :: xs, y :: ys, i + 1, d, h => by
    simp only [zipD, List.getElem?_cons_succ] at h
    obtain ⟨a, b, e, f, q⟩ := zipD_get h
    exact ⟨a, b, by simpa using e, by simpa using f, q⟩
theorem zipD_len : ∀ (xs ys : List D), xs.length = ys.length → (zipD xs ys).length = xs.length
  | [], _, _ => by simp [zipD]
  | _ :: _, [], h => by simp at h
  | _ :: xs, _ :: ys, h => by simp [zipD, zipD_len xs ys (by simpa using h)]

/-! ### sources -/
theorem Post.walkR {g : G} {H : Hp} {σ : L2.St} {k : SrcK} {ds : List D} {M : Mem} {kk : Walk → Mem → G → Hp → Prop} (h : Post cf W g H σ (DP.walkR k ds M) kk) : ∃ w, walk M k ds = some w ∧ Post cf W g H σ (.ok w M) kk := by
  unfold DP.walkR at h
  split at h
  · exact False.elim h
  · rename_i w hw
    exact ⟨w, hw, h⟩
theorem src_seq {tg e : Expr} {e' : E} (hK : X.K = cf.K) (he : PE X e (TD cf W e')) : PI X tg e (TSrc cf W .seq [e']) := by
  refine ⟨fun pins s σ H R I h => ?_⟩
  obtain ⟨g, env, M, Rm, RE, q⟩ := h
  simp only [evs, bind_assoc] at q
  cases h : ev cf.call e' env M with
  | bad => rw [h] at q; exact False.elim q
  | exc x M1 => exact (pi_list he).run pins s σ H R I ⟨g, env, M, Rm, RE, by rw [h] at q ⊢; exact q⟩
  | ok d M1 =>
    rw [h] at q
    simp only [Res.bind] at q
    obtain ⟨w, hw, q⟩ := q.walkR
    have go : ∀ {t : L2.V → Hp → Prop}, (∀ g1 H1 v, Stp g H g1 H1 → RelM cf.K g1 M1 H1 → Rep cf.K g1 v d → t v H1) → TD cf W e' σ H t := fun {t} k => ⟨g, env, M, Rm, RE, by rw [h]; exact fun g1 H1 st R1 v r => k g1 H1 v st R1 r⟩
    cases d with
    | list xs =>
      simp only [walk, asL, Option.map_some, Option.some.injEq] at hw
      subst hw
      refine (pi_list he).run pins s σ H R I (go fun g1 H1 v st R1 r => ?_)
      cases r with
      | @lst a vs _ e rs =>
        rw [hK]
        exact ⟨a, rfl, ⟨vs, SqL.of (R1.sub _ _ e)⟩, q g1 H1 st R1 _ (Walks.list (fun H' s => SqL.of (s _ _ e)) (fun _ _ => .inr trivial) rs)⟩
    | klist xs =>
      simp only [walk, asL, Option.map_some, Option.some.injEq] at hw
      subst hw
      refine (pi_list he).run pins s σ H R I (go fun g1 H1 v st R1 r => ?_)
      cases r with
      | @klst a vs _ e rs =>
        rw [hK]
        exact ⟨a, rfl, ⟨vs, R1.sub.seq e⟩, q g1 H1 st R1 _ (Walks.list (fun H' s => s.seq e) (fun _ _ => .inr trivial) rs)⟩
    | loc n =>
      simp only [walk] at hw
      split at hw
      · rename_i xs hc
        cases hw
        refine (pi_list he).run pins s σ H R I (go fun g1 H1 v st R1 r => ?_)
        cases r with
        | @loc _ a e =>
          rw [hK]
          obtain ⟨_, vs, q1, _⟩ := R1.cell n a _ e hc
          exact ⟨a, rfl, ⟨vs, SqL.of q1⟩, q g1 H1 st R1 _ (Walks.cell e)⟩
      · cases hw
    | tup xs =>
      simp only [walk, Option.some.injEq] at hw
      subst hw
      refine (pi_tup he).run pins s σ H R I (go fun g1 H1 v st R1 r => ?_)
      cases r with
      | @tup a vs _ e rs =>
        rw [hK]
        exact ⟨a, rfl, ⟨vs, DP.Same.sqT R1.sub e⟩, q g1 H1 st R1 _ (Walks.tup (fun H' s => DP.Same.sqT s e) rs)⟩
    | str z =>
      simp only [walk, Option.some.injEq] at hw
      subst hw
      refine (pi_str he).run pins s σ H R I (go fun g1 H1 v st R1 r => ?_)
      cases r
      exact ⟨z, rfl, q g1 H1 st R1 _ Walks.str⟩
    | _ => simp [walk, asL] at hw
theorem src_rng1 {tg a : Expr} {a' : E} {p pos : Pos} (hg : Gl X "range") (hm : X.mg "range" = none) (ha : PA X [a] (TDs cf W [a'])) (hs : starEach [a] X.env = [(false, eval a X.env)]) : PI X tg (.Call (.Name "range" p) [a] [] pos) (TSrc cf W .rng1 [a']) := by
  refine ⟨fun pins s σ H R I h => (pi_range1 hg hm ha hs).run pins s σ H R I ?_⟩
  obtain ⟨g, env, M, Rm, RE, q⟩ := h
  refine ⟨g, env, M, Rm, RE, q.bind.imp fun ds M1 g1 H1 st1 R1 q1 vs rs => ?_⟩
  obtain ⟨w, hw, q2⟩ := q1.walkR
  match ds, rs, hw with
  | [.int j], .cons (.int _) .nil, hw =>
    simp only [walk] at hw
    split at hw
    · rename_i hj
      cases hw
      exact ⟨j, rfl, hj.1, hj.2, q2.ok R1 _ Walks.rng⟩
    · cases hw
theorem src_rng2 {tg a b : Expr} {a' b' : E} {p pos : Pos} (hg : Gl X "range") (hm : X.mg "range" = none) (ha : PA X [a, b] (TDs cf W [a', b'])) (hs : starEach [a, b] X.env = [(false, eval a X.env), (false, eval b X.env)]) (hs2 : starEach [b] X.env = [(false, eval b X.env)]) :
    PI X tg (.Call (.Name "range" p) [a, b] [] pos) (TSrc cf W .rng2 [a', b']) := by
  refine ⟨fun pins s σ H R I h => (pi_range2 hg hm ha hs hs2).run pins s σ H R I ?_⟩
  obtain ⟨g, env, M, Rm, RE, q⟩ := h
  refine ⟨g, env, M, Rm, RE, q.bind.imp fun ds M1 g1 H1 st1 R1 q1 vs rs => ?_⟩
  obtain ⟨w, hw, q2⟩ := q1.walkR
  match ds, rs, hw with
  | [.int i, .int j], .cons (.int _) (.cons (.int _) .nil), hw =>
    simp only [walk] at hw
    split at hw
    · rename_i hj
      cases hw
      exact ⟨i, j, rfl, hj, q2.ok R1 _ Walks.rng⟩
    · cases hw
theorem src_enum {a : Expr} {a' : E} {p pos tpos : Pos} {elts : List Expr} {kk : Nat} (hK : X.K = cf.K) (hg : Gl X "enumerate") (hm : X.mg "enumerate" = none) (ha : PA X [a] (TDs cf W [a'])) (hs : starEach [a] X.env = [(false, eval a X.env)]) :
    PI X (.Tuple elts kk tpos) (.Call (.Name "enumerate" p) [a] [] pos) (TSrc cf W .enum [a']) := by
  refine ⟨fun pins s σ H R I h => (pi_enum hg hm ha hs).run pins s σ H R I ?_⟩
  obtain ⟨g, env, M, Rm, RE, q⟩ := h
  refine ⟨g, env, M, Rm, RE, q.bind.imp fun ds M1 g1 H1 st1 R1 q1 vs rs => ?_⟩
  obtain ⟨w, hw, q2⟩ := q1.walkR
  match ds, rs, hw with
  | [.list xs], .cons (.lst e rs) .nil, hw =>
    simp only [walk, Option.some.injEq] at hw
    subst hw
    rw [hK]
    exact ⟨_, _, rfl, SqL.of (R1.sub _ _ e), q2.ok R1 _ (Walks.enum e rs)⟩
end
end DP

/-! DP.Comps: targets, comprehensions. -/
namespace DP
open PySem PySem.Spec PyProof.Rows L2
variable [ClsMap]

/-! ### targets -/
def T.slots : T → List Nat
  | .nm i => [i]
  | .tp is => is
/-- the slots but those are the same -/
def Off (is : List Nat) (σ σ' : L2.St) : Prop := σ'.length = σ.length ∧ ∀ i, i ∉ is → σ'[i]? = σ[i]?
theorem Off.refl {is : List Nat} {σ : L2.St} : Off is σ σ := ⟨rfl, fun _ _ => rfl⟩
def gD (cf : Cf) (t : T) : TG := fun v σ H Q => ∃ g env d env', Same g.F H ∧ RelE cf.K g env σ ∧ Rep cf.K g v d ∧ store env d t = some env' ∧ ∀ σ', RelE cf.K g env' σ' → Off t.slots σ σ' → Q σ' H
def gNs : List Nat → TGs
  | [] => gNil
  | i :: is => gCons (gName i) (gNs is)
theorem pg_weak {X : Cx} {e : Expr} {t t' : TG} (h : PG X e t) (f : ∀ v σ H Q, t' v σ H Q → t v σ H Q) : PG X e t' := ⟨fun pins s σ H v u Q I r q => h.run pins s σ H v u Q I r (f _ _ _ _ q)⟩
theorem pi_weak {X : Cx} {tg e : Expr} {t t' : TI} (h : PI X tg e t) (f : ∀ σ H Q, t' σ H Q → t σ H Q) : PI X tg e t' := ⟨fun pins s σ H Q I q => h.run pins s σ H Q I (f _ _ _ q)⟩
theorem set_off {σ : L2.St} {i : Nat} {v : Option V} {is : List Nat} (h : i ∈ is) : Off is σ (σ.set i v) := ⟨by rw [List.length_set], fun j hj => by rw [List.getElem?_set_ne (show i ≠ j from fun e => hj (e ▸ h))]⟩
theorem Off.trans {is : List Nat} {σ σ1 σ2 : L2.St} (a : Off is σ σ1) (b : Off is σ1 σ2) : Off is σ σ2 := ⟨b.1.trans a.1, fun i h => (b.2 i h).trans (a.2 i h)⟩
theorem Off.mono {is js : List Nat} {σ σ1 : L2.St} (a : Off is σ σ1) (h : ∀ i ∈ is, i ∈ js) : Off js σ σ1 := ⟨a.1, fun i hi => a.2 i fun z => hi (h i z)⟩
section
variable {cf : Cf} {W : WX} {X : Cx}
theorem gNs_run {g : G} {H : Hp} {Q : L2.St → Hp → Prop} : ∀ {is : List Nat} {env env' : Env} {σ : L2.St} {vs : List V} {ds : List D}, RelE cf.K g env σ → Reps cf.K g vs ds → setAll env is ds = some env' → (∀ σ', RelE cf.K g env' σ' → Off is σ σ' → Q σ' H) → gNs is vs σ H Q
  | [], env, env', σ, vs, ds, RE, rs, h, k => by
    cases rs with
    | nil =>
      cases h
      exact ⟨rfl, k σ RE Off.refl⟩
    | cons _ _ => cases h
  | i :: is, env, env', σ, vs, ds, RE, rs, h, k => by
    cases rs with
    | nil => cases h
    | cons r rs =>
      refine ⟨_, _, rfl, ?_⟩
      exact gNs_run (RE.set r i) rs h fun σ' RE' o => k σ' RE' ((set_off (is := i :: is) List.mem_cons_self).trans (o.mono fun j hj => List.mem_cons_of_mem _ hj))
theorem gd_name {x : Str} {pos : Pos} {i : Nat} (h : PG X (.Name x pos) (gName i)) : PG X (.Name x pos) (gD cf (.nm i)) := pg_weak h fun v σ H Q ⟨g, env, d, env', sub, RE, r, e, k⟩ => by
  cases e
  exact k _ (RE.set r i) (set_off List.mem_cons_self)
theorem gd_tup {es : List Expr} {k : Nat} {pos : Pos} {is : List Nat} (hK : X.K = cf.K) (hc : X.calm = true) (h : PGs X es (gNs is)) (hn : (assignEach es X.env).length = is.length) (hst : (assignEach es X.env).findIdx? (·.1) = none) :
    PG X (.Tuple es k pos) (gD cf (.tp is)) := pg_weak (pg_tup hc h hn hst) fun v σ H Q ⟨g, env, d, env', sub, RE, r, e, k⟩ => by
  cases d with
  | tup xs =>
    cases r with
    | tup e1 rs =>
      rw [hK]
      refine ⟨_, _, rfl, DP.Same.sqT sub e1, ?_, gNs_run RE rs e k⟩
      rw [rs.len]
      have len : ∀ (is : List Nat) (xs : List D) (env env' : Env), setAll env is xs = some env' → xs.length = is.length := by
        intro is
        induction is with
        | nil => intro xs env env' h; cases xs with
          | nil => rfl
          | cons _ _ => cases h
        | cons i is ih => intro xs env env' h; cases xs with
          | nil => cases h
          | cons x xs => simp only [List.length_cons, ih xs _ _ h]
      exact len is xs env env' e
  | _ => cases e
/-! ### comprehensions -/
theorem wipe_get {σ : L2.St} : ∀ {vs : List Nat} {i : Nat}, (wipe σ vs)[i]? = if i ∈ vs ∧ i < σ.length then some none else σ[i]?
  | [], i => by simp [wipe]
  | v :: vs, i => by
    unfold wipe
    by_cases h : v = i
    · subst h
      by_cases hl : v < σ.length
      · rw [List.getElem?_set_self (by rw [wipe_length]; exact hl), if_pos ⟨List.mem_cons_self, hl⟩]
      · rw [List.getElem?_eq_none (by rw [List.length_set, wipe_length]; omega), if_neg (fun q => hl q.2), List.getElem?_eq_none (by omega)]
    · rw [List.getElem?_set_ne h, wipe_get (vs := vs) (i := i)]
      have : (i ∈ v :: vs) ↔ i ∈ vs := by simp [Ne.symm h]
      simp only [this]
theorem wipe_off {vs : List Nat} {σ σ' : L2.St} (h : Off vs (wipe σ vs) σ') : wipe σ' vs = wipe σ vs := by
  apply List.ext_getElem?
  intro i
  have hl : σ'.length = σ.length := by rw [h.1, wipe_length]
  rw [wipe_get, wipe_get, hl]
  by_cases hi : i ∈ vs
  · by_cases hil : i < σ.length
    · rw [if_pos ⟨hi, hil⟩, if_pos ⟨hi, hil⟩]
    · rw [if_neg (fun q => hil q.2), if_neg (fun q => hil q.2), List.getElem?_eq_none (by omega), List.getElem?_eq_none (by omega)]
  · rw [if_neg (fun q => hi q.1), if_neg (fun q => hi q.1), h.2 i hi, wipe_get, if_neg (fun q => hi q.1)]
abbrev W0 : WX := fun _ _ _ _ => False
/-- the test of a comprehension -/
def tC' (cf : Cf) : Option E → L2.TT
  | none => tYes
  | some c => TT cf W0 c
noncomputable def turnF (cf : Cf) (env : Env) (own : List Nat) (t : T) (cond : Option E) (elt : E) (x : D) (M2 : Mem) : Res (Option D) := match store (wipeE env own) x t with
        | none => .bad
        | some env2 => match cond with
          | none => (match ev cf.call elt env2 M2 with
            | .ok d M4 => .ok (some d) M4
            | _ => .bad)
          | some c => match ev cf.call c env2 M2 with
            | .ok d M3 => match truth M3 d with
              | some true => (match ev cf.call elt env2 M3 with
                | .ok d M4 => .ok (some d) M4
                | _ => .bad)
              | some false => .ok none M3
              | none => .bad
            | _ => .bad
theorem ev_comp {mt : Bool} {own : List Nat} {t : T} {k : SrcK} {src : List E} {cond : Option E} {elt : E} {env : Env} {M : Mem} : ev cf.call (.comp mt own t k src cond elt) env M = ((evs cf.call src env M).bind (walkR k)).bind fun w M1 =>
    match compLoop w (turnF cf env own t cond elt) w.xs M1 with
      | .ok ys M5 => if ys.length ≤ sizeLine then (if mt then .ok (.loc M5.length) (M5 ++ [.lst ys]) else .ok (.list ys) M5) else .bad
      | _ => .bad := by
  rw [ev, bind_assoc]
  cases evs cf.call src env M with
  | bad => rfl
  | exc x M1 => rfl
  | ok ds M1 =>
    simp only [Res.bind, walkR]
    cases walk M1 k ds <;> rfl
/-- one turn -/
theorem turn_run {own : List Nat} {t : T} {cond : Option E} {elt : E} {env : Env} {x : D} {M M2 : Mem} {o : Option D} {g : G} {H : Hp} {σ : L2.St} {v : V} (ho : ∀ i ∈ t.slots, i ∈ own) (R : RelM cf.K g M H) (RE : RelE cf.K g env σ) (r : Rep cf.K g v x)
    (h : turnF cf env own t cond elt x M = .ok o M2) {K1 : V → Hp → Prop} {K0 : Hp → Prop} (k1 : ∀ d, o = some d → ∀ g' v' H', Stp g H g' H' → RelM cf.K g' M2 H' → Rep cf.K g' v' d → K1 v' H') (k0 : o = none → ∀ g' H', Stp g H g' H' → RelM cf.K g' M2 H' → K0 H') :
    gD cf t v (wipe σ own) H fun σ2 H2 => wipe σ2 own = wipe σ own ∧ tC' cf cond σ2 H2 fun b H3 => if b = true then TD cf W0 elt σ2 H3 K1 else K0 H3 := by
  unfold turnF at h
  cases hs : store (wipeE env own) x t with
  | none => rw [hs] at h; cases h
  | some env2 =>
    rw [hs] at h
    simp only at h
    refine ⟨g, wipeE env own, x, env2, R.sub, RE.wipe own, r, hs, fun σ2 RE2 off => ⟨wipe_off (off.mono ho), ?_⟩⟩
    cases cond with
    | none =>
      simp only at h
      show (if true = true then TD cf W0 elt σ2 H K1 else K0 H)
      rw [if_pos rfl]
      refine ⟨g, env2, M, R, RE2, ?_⟩
      cases he : ev cf.call elt env2 M with
      | ok d M4 =>
        rw [he] at h
        cases h
        exact fun g' H' st R' v' r' => k1 d rfl g' v' H' st R' r'
      | bad => rw [he] at h; cases h
      | exc _ _ => rw [he] at h; cases h
    | some c =>
      simp only at h
      show TT cf W0 c σ2 H _
      refine ⟨g, env2, M, R, RE2, ?_⟩
      unfold tst
      cases hc : ev cf.call c env2 M with
      | bad => rw [hc] at h; cases h
      | exc _ _ => rw [hc] at h; cases h
      | ok d M3 =>
        rw [hc] at h
        simp only at h
        simp only [Res.bind, DP.tru]
        cases ht : truth M3 d with
        | none => rw [ht] at h; cases h
        | some b =>
          rw [ht] at h
          intro g3 H3 st3 R3
          cases b with
          | false =>
            simp only at h
            cases h
            rw [if_neg Bool.false_ne_true]
            exact k0 rfl g3 H3 st3 R3
          | true =>
            simp only at h
            rw [if_pos rfl]
            refine ⟨g3, env2, M3, R3, RE2.mono st3.le, ?_⟩
            cases he : ev cf.call elt env2 M3 with
            | ok d M4 =>
              rw [he] at h
              cases h
              exact fun g' H' st R' v' r' => k1 d rfl g' v' H' (st3.trans st) R' r'
            | bad => rw [he] at h; cases h
            | exc _ _ => rw [he] at h; cases h
/-- the new list D through the turns -/
structure CInv (cf : Cf) (env : Env) (own : List Nat) (t : T) (cond : Option E) (elt : E) (w : Walk) (g1 : G) (H1 : Hp) (σ : L2.St) (D : Addr) (ys : List DP.D) (M5 : Mem) (i : Nat) (H' : Hp) (g' : G) (M' : Mem) (acc : List V) (ds rest : List DP.D) : Prop where
  st : Stp g1 H1 g' H'
  rel : RelM cf.K g' M' H'
  at_ : H' D = some (.lst acc)
  nF : g'.F D = none
  na : D ∉ g'.a
  reps : Reps cf.K g' acc ds
  run : compLoop w (turnF cf env own t cond elt) (w.xs.drop i) M' = .ok rest M5
  all : ys = ds ++ rest
theorem comp_core {mt : Bool} {own : List Nat} {t : T} {k : SrcK} {src : List E} {cond : Option E} {elt : E} {σ : L2.St} {H : Hp} {Q : VK} (ho : ∀ i ∈ t.slots, i ∈ own) (h : TD cf W (.comp mt own t k src cond elt) σ H Q) :
    tLc (TSrc cf W k src) (gD cf t) (tC' cf cond) (TD cf W0 elt) own σ H Q := by
  obtain ⟨g, env, M, R, RE, q⟩ := h
  rw [ev_comp] at q
  refine ⟨g, env, M, R, RE, q.bind.imp fun w M1 g1 H1 st1 R1 q1 J wk D hD => ?_⟩
  cases hr : compLoop w (turnF cf env own t cond elt) w.xs M1 with
  | bad => rw [hr] at q1; exact False.elim q1
  | exc _ _ => rw [hr] at q1; exact False.elim q1
  | ok ys M5 =>
    rw [hr] at q1
    simp only at q1
    by_cases hz : ys.length ≤ sizeLine
    · rw [if_pos hz] at q1
      have hF1 : g1.F D = none := R1.sub.free hD
      have ha1 : D ∉ g1.a := fun m => R1.live D m hD
      have neD : ∀ b o, H1 b = some o → b ≠ D := fun b o e => ne_of_none e hD
      refine ⟨fun i m H' => m = w.xs.length - i ∧ i ≤ w.xs.length ∧ ∃ g' M' acc ds rest, CInv cf env own t cond elt w g1 H1 σ D ys M5 i H' g' M' acc ds rest, ⟨_, rfl, Nat.zero_le _, g1, M1, [], [], ys, ?_⟩, ?_⟩
      · exact ⟨⟨Le.refl _, fun b o e n => ⟨by rw [upd_ne (neD b o e)]; exact e, n, rfl⟩⟩, R1.off hF1 ha1, upd_same, hF1, ha1, .nil, hr, rfl⟩
      · rintro i m H' ⟨rfl, hi, g', M', acc, ds, rest, c⟩
        -- the ghost without the new list
        have wk' : Stp g1 H1 g' H' := c.st
        by_cases hlt : i < w.xs.length
        · obtain ⟨x, hx⟩ : ∃ x, w.xs[i]? = some x := ⟨_, List.getElem?_eq_getElem hlt⟩
          have hd : w.xs.drop i = x :: w.xs.drop (i + 1) := by
            rw [List.drop_eq_getElem_cons hlt]
            rw [List.getElem?_eq_getElem hlt] at hx
            rw [Option.some.inj hx]
          have run := c.run
          rw [hd] at run
          unfold compLoop at run
          by_cases ok : w.Ok M'
          · rw [if_pos ok] at run
            obtain ⟨go, yld⟩ := wk.go i x g' M' H' hx c.st c.rel ok
            refine .inr ⟨go, fun H' => ∃ g' M' acc ds rest, CInv cf env own t cond elt w g1 H1 σ D ys M5 (i + 1) H' g' M' acc ds rest, fun H2 n => ⟨_, by omega, rfl, hlt, n⟩, fun v H2 y => ?_⟩
            obtain ⟨g2, st2, R2, r2⟩ := yld v H2 y
            have k2 := st2.keep D _ c.at_ c.na
            cases hf : turnF cf env own t cond elt x M' with
            | bad => rw [hf] at run; cases run
            | exc _ _ => rw [hf] at run; cases run
            | ok o M2 =>
              rw [hf] at run
              refine turn_run ho R2 (RE.mono ((st1.trans c.st).trans st2).le) r2 hf (fun d ed g3 v3 H3 st3 R3 r3 => ?_) (fun ed g3 H3 st3 R3 => ?_)
              · subst ed
                simp only at run
                cases hr2 : compLoop w (turnF cf env own t cond elt) (w.xs.drop (i + 1)) M2 with
                | bad => rw [hr2] at run; cases run
                | exc _ _ => rw [hr2] at run; cases run
                | ok rest2 M6 =>
                  rw [hr2] at run
                  cases run
                  have st := st2.trans st3
                  obtain ⟨e3, n3, f3⟩ := st.keep D _ c.at_ c.na
                  have hl : acc.length < sizeLine := by
                    have e1 := c.reps.len
                    have e2 := congrArg List.length c.all
                    rw [List.length_append, List.length_cons] at e2
                    omega
                  refine ⟨acc, e3, hl, g3, M2, acc ++ [v3], ds ++ [d], rest2, ?_⟩
                  have nF3 : g3.F D = none := f3.trans c.nF
                  refine ⟨⟨(c.st.trans st).le, fun b o e n => ?_⟩, R3.off nF3 n3, upd_same, nF3, n3, (c.reps.mono st.le).append (.cons r3 .nil), hr2, by rw [c.all]; simp⟩
                  obtain ⟨a1, a2, a3⟩ := (c.st.trans st).keep b o e n
                  exact ⟨by rw [upd_ne (neD b o e)]; exact a1, a2, a3⟩
              · subst ed
                simp only at run
                have st := st2.trans st3
                obtain ⟨e3, n3, f3⟩ := st.keep D _ c.at_ c.na
                exact ⟨g3, M2, acc, ds, rest, c.st.trans st, R3, e3, f3.trans c.nF, n3, c.reps.mono st.le, run, c.all⟩
          · rw [if_neg ok] at run
            cases run
        · have e : i = w.xs.length := by omega
          subst e
          have run := c.run
          rw [List.drop_of_length_le (Nat.le_refl _)] at run
          unfold compLoop at run
          by_cases ok : w.Ok M'
          · rw [if_pos ok] at run
            cases run
            refine .inl ⟨wk.stop g' _ H' c.st c.rel ok, ?_⟩
            have ea : ys = ds := by rw [c.all]; simp
            subst ea
            cases mt with
            | false =>
              obtain ⟨R', le⟩ := c.rel.seal c.at_ c.nF c.na
              refine q1 _ H' ⟨c.st.le.trans le, fun b o e n => ?_⟩ R' _ (.lst upd_same (c.reps.mono le))
              obtain ⟨a1, a2, a3⟩ := c.st.keep b o e n
              refine ⟨a1, a2, ?_⟩
              show upd g'.F D _ b = _
              rw [upd_ne (neD b o e)]
              exact a3
            | true =>
              obtain ⟨R', le, r⟩ := c.rel.adopt c.at_ c.nF c.na c.reps
              refine q1 _ H' ⟨c.st.le.trans le, fun b o e n => ?_⟩ R' _ r
              obtain ⟨a1, a2, a3⟩ := c.st.keep b o e n
              refine ⟨a1, ?_, a3⟩
              show b ∉ g'.a ++ [D]
              rw [List.mem_append]
              rintro (m | m)
              · exact a2 m
              · simp at m
                exact neD b o e m
          · rw [if_neg ok] at run
            cases run
    · rw [if_neg hz] at q1
      exact False.elim q1
end
end DP

/-! DP.Stmt: statements hold in the model. -/
namespace DP
open PySem PySem.Spec PyProof.Rows L2
variable [ClsMap]

def endOf (cf : Cf) (W : WX) (e : Ends) (g : G) (σ : L2.St) (H : Hp) : Flow → Prop
  | .nx => e.nx σ H
  | .bk => e.bk σ H
  | .ct => e.ct σ H
  | .rt d => ∀ v, Rep cf.K g v d → e.rt v H
  | .ex x => ∀ cls dx, RepX cf g x cls dx H → W cls dx σ H
def PostS (cf : Cf) (W : WX) (g : G) (H : Hp) (r : SRes) (e : Ends) : Prop := match r with
  | .bad => False
  | .done f env M => ∀ g' H' σ', Stp g H g' H' → RelM cf.K g' M H' → RelE cf.K g' env σ' → endOf cf W e g' σ' H' f
section
variable {cf : Cf} {W : WX} {g g' : G} {H H' : Hp} {σ : L2.St} {α : Type} {r : SRes} {e : Ends}
theorem PostS.step (h : PostS cf W g H r e) (st : Stp g H g' H') : PostS cf W g' H' r e := by
  cases r with
  | bad => exact h
  | done f env M => exact fun g2 H2 σ2 s R RE => h g2 H2 σ2 (st.trans s) R RE
theorem PostS.sb {env : Env} {p : Res α} {f : α → Mem → SRes} (RE : RelE cf.K g env σ) (h : PostS cf W g H (p.sb env f) e) : Post cf W g H σ p fun a M1 g1 H1 => PostS cf W g1 H1 (f a M1) e := by
  cases p with
  | bad => exact h
  | exc x M => exact fun g2 H2 c d s R X => h g2 H2 σ s R (RE.mono s.le) c d X
  | ok a M => exact fun g2 H2 s R => PostS.step (r := f a M) h s
theorem PostS.nx {env : Env} {M : Mem} (h : PostS cf W g H (.done .nx env M) e) (R : RelM cf.K g M H) {σ' : L2.St} (RE : RelE cf.K g env σ') : e.nx σ' H := h g H σ' Stp.refl R RE
end
def TSt (cf : Cf) (W : WX) (s : S) : TS := fun e σ H => ∃ g env M, RelM cf.K g M H ∧ RelE cf.K g env σ ∧ PostS cf W g H (exec cf.call s env M) e
def TSs (cf : Cf) (W : WX) (ss : List S) : TS := fun e σ H => ∃ g env M, RelM cf.K g M H ∧ RelE cf.K g env σ ∧ PostS cf W g H (execs cf.call ss env M) e
theorem ps_weak {X : Cx} {s : Stmt} {t t' : TS} (h : PS X s t) (f : ∀ D σ H, t' D σ H → t D σ H) : PS X s t' := ⟨fun pins s σ H D I q => h.run pins s σ H D I (f _ _ _ q)⟩
theorem pss_weak {X : Cx} {s : List Stmt} {t t' : TS} (h : PSs X s t) (f : ∀ D σ H, t' D σ H → t D σ H) : PSs X s t' := ⟨fun pins s σ H D I q => h.run pins s σ H D I (f _ _ _ q)⟩
section
variable {cf : Cf} {W : WX} {X : Cx} {pos : Pos}
theorem tss_nil : PSs X [] (TSs cf W []) := pss_weak pss_nil fun e σ H ⟨g, env, M, R, RE, q⟩ => by
  simp only [execs] at q
  exact q.nx R RE
theorem tss_cons {s : Stmt} {ss : List Stmt} {s' : S} {ss' : List S} (h1 : PS X s (TSt cf W s')) (h2 : PSs X ss (TSs cf W ss')) : PSs X (s :: ss) (TSs cf W (s' :: ss')) := pss_weak (pss_cons h1 h2) fun e σ H ⟨g, env, M, R, RE, q⟩ => by
  simp only [execs] at q
  refine ⟨g, env, M, R, RE, ?_⟩
  cases h : exec cf.call s' env M with
  | bad => rw [h] at q; exact q
  | done f env1 M1 =>
    rw [h] at q
    cases f with
    | nx => exact fun g1 H1 σ1 st R1 RE1 => ⟨g1, env1, M1, R1, RE1, q.step st⟩
    | bk => exact q
    | ct => exact q
    | rt d => exact q
    | ex x => exact q
theorem ts_expr {e : Expr} {e' : E} (he : PE X e (TD cf W e')) (hs : swapsWith e none pos.line X.env = pure false) : PS X (.Expr e pos) (TSt cf W (.ex e')) := ps_weak (ps_expr he hs) fun en σ H ⟨g, env, M, R, RE, q⟩ => by
  simp only [exec] at q
  exact ⟨g, env, M, R, RE, (q.sb RE).imp fun d M1 g1 H1 st R1 q1 v r => q1.nx R1 (RE.mono st.le)⟩
theorem ts_ret {e : Expr} {e' : E} (he : PE X e (TD cf W e')) : PS X (.Return (some e) pos) (TSt cf W (.ret e')) := ps_weak (ps_ret he) fun en σ H ⟨g, env, M, R, RE, q⟩ => by
  simp only [exec] at q
  exact ⟨g, env, M, R, RE, (q.sb RE).imp fun d M1 g1 H1 st R1 q1 v r => q1 g1 H1 σ Stp.refl R1 (RE.mono st.le) v r⟩
theorem ts_retN : PS X (.Return none pos) (TSt cf W .retN) := ps_weak ps_retN fun en σ H ⟨g, env, M, R, RE, q⟩ => by
  simp only [exec] at q
  exact q g H σ Stp.refl R RE _ .non
theorem ts_pass : PS X (.Pass pos) (TSt cf W .pass) := ps_weak ps_pass fun en σ H ⟨g, env, M, R, RE, q⟩ => by
  simp only [exec] at q
  exact q.nx R RE
theorem ts_brk : PS X (.Break pos) (TSt cf W .brk) := ps_weak ps_break fun en σ H ⟨g, env, M, R, RE, q⟩ => by
  simp only [exec] at q
  exact q g H σ Stp.refl R RE
theorem ts_cont : PS X (.Continue pos) (TSt cf W .cont) := ps_weak ps_continue fun en σ H ⟨g, env, M, R, RE, q⟩ => by
  simp only [exec] at q
  exact q g H σ Stp.refl R RE
theorem ts_never {s : Stmt} : PS X s (TSt cf W .never) := ps_weak ps_never fun en σ H ⟨g, env, M, R, RE, q⟩ => by
  simp only [exec] at q
  exact q
theorem ts_doc {x : Str} {j : Nat} {pos pos' : Pos} : PS X (.Expr (.Constant (.str x) j pos) pos') (TSt cf W .pass) := ps_weak ps_doc fun en σ H ⟨g, env, M, R, RE, q⟩ => by
  simp only [exec] at q
  exact q.nx R RE
theorem ts_if {c : Expr} {a b : List Stmt} {c' : E} {a' b' : List S} (hc : PT X c (TT cf W c')) (ha : PSs X a (TSs cf W a')) (hb : PSs X b (TSs cf W b')) : PS X (.If c a b pos) (TSt cf W (.ife c' a' b')) := ps_weak (ps_if hc ha hb) fun en σ H ⟨g, env, M, R, RE, q⟩ => by
  simp only [exec] at q
  refine ⟨g, env, M, R, RE, ?_⟩
  unfold tst
  cases h : ev cf.call c' env M with
  | bad => rw [h] at q; exact q
  | exc x M1 =>
    rw [h] at q
    exact fun g1 H1 c d st R1 X => q g1 H1 σ st R1 (RE.mono st.le) c d X
  | ok d M1 =>
    rw [h] at q
    simp only [Res.bind, Res.sb] at q ⊢
    unfold DP.tru
    cases ht : truth M1 d with
    | none => simp only [ht] at q; exact q
    | some b =>
      simp only [ht] at q
      intro g1 H1 st1 R1
      cases b with
      | true =>
        rw [if_pos rfl]
        exact ⟨g1, env, M1, R1, RE.mono st1.le, q.step st1⟩
      | false =>
        rw [if_neg Bool.false_ne_true]
        exact ⟨g1, env, M1, R1, RE.mono st1.le, q.step st1⟩
/-! ### stores -/
theorem asg_read {t : T} {e' : E} {en : Ends} {σ : L2.St} {H : Hp} (h : TSt cf W (.asg t e') en σ H) : tAsg (TD cf W e') (gD cf t) en σ H := by
  obtain ⟨g, env, M, R, RE, q⟩ := h
  simp only [exec] at q
  refine ⟨g, env, M, R, RE, (q.sb RE).imp fun d M1 g1 H1 st R1 q1 v r => ?_⟩
  cases hs : store env d t with
  | none => rw [hs] at q1; exact False.elim q1
  | some env1 =>
    rw [hs] at q1
    exact ⟨g1, env, d, env1, R1.sub, RE.mono st.le, r, hs, fun σ' RE' _ => q1.nx R1 RE'⟩
theorem ts_asg {tg e : Expr} {t : T} {e' : E} (he : PE X e (TD cf W e')) (hg : PG X tg (gD cf t)) (hs : swapsWithSole [tg] e pos.line X.env = pure false) (hw : swappedStores [tg] e X.env = pure none)
    (h1 : (assignEach [tg] X.env).map (·.2) = [assign tg X.env]) : PS X (.Assign [tg] e pos) (TSt cf W (.asg t e')) := ps_weak (ps_asg he hg hs hw h1) fun en σ H h => asg_read h
theorem ts_setLc {i : Nat} {y : Str} {py : Pos} {elt tg iter : Expr} {ifs : List Expr} {scope : Scope} {own : List (Str × Nat)} {pos spos : Pos} {mt : Bool} {t : T} {k : SrcK} {src : List E} {cond : Option E} {el : E} (hc : X.calm = true) (hN : X.N.Nodup) (hy : X.N[i]? = some y) (hyl : X.env.scope.names.lookup y = some .local)
    (hsw : swapsWith (.ListComp elt [⟨tg, iter, ifs, 0⟩] scope pos) (some (.Name y py)) spos.line X.env = pure true) (hi : PI X tg iter (TSrc cf W k src)) (ok : BlkOk X.N X.env.scope scope own) (ho : ∀ i ∈ t.slots, i ∈ own.map (·.2))
    (hg : ∀ (s : Shared) (H : Hp) (C : Addr) (cl : List (Str × Addr)) (fp : List Addr), PG (X.blk s H scope (compEnvC scope cl C X.env) fp) tg (gD cf t)) (ht : ∀ (s : Shared) (H : Hp) (C : Addr) (cl : List (Str × Addr)) (fp : List Addr), PTs (X.blk s H scope (compEnvC scope cl C X.env) fp) ifs (tC' cf cond))
    (he : ∀ (s : Shared) (H : Hp) (C : Addr) (cl : List (Str × Addr)) (fp : List Addr), PE (X.blk s H scope (compEnvC scope cl C X.env) fp) elt (TD cf W0 el)) (hs : ∀ x, foldedSetIterable iter X.env x = pure x) :
    PS X (.Assign [.Name y py] (.ListComp elt [⟨tg, iter, ifs, 0⟩] scope pos) spos) (TSt cf W (.asg (.nm i) (.comp mt (own.map (·.2)) t k src cond el))) :=
  ps_weak (ps_setLc hc hN hy hyl hsw hi ok hg ht he hs) fun en σ H h => by
    have h := asg_read h
    have h2 : TD cf W (.comp mt (own.map (·.2)) t k src cond el) σ H fun x H1 => gName i x σ H1 en.nx := by
      obtain ⟨g, env, M, R, RE, q⟩ := h
      refine ⟨g, env, M, R, RE, q.imp fun d M1 g1 H1 st R1 q1 v r => ?_⟩
      obtain ⟨g2, env2, d2, env3, sub, RE2, r2, e2, k2⟩ := q1 v r
      cases e2
      exact k2 _ (RE2.set r2 i) (set_off List.mem_cons_self)
    exact comp_core ho h2
theorem td_comp {elt tg iter : Expr} {ifs : List Expr} {scope : Scope} {own : List (Str × Nat)} {pos : Pos} {mt : Bool} {t : T} {k : SrcK} {src : List E} {cond : Option E} {el : E} (hc : X.calm = true) (hN : X.N.Nodup) (hi : PI X tg iter (TSrc cf W k src)) (ok : BlkOk X.N X.env.scope scope own) (ho : ∀ i ∈ t.slots, i ∈ own.map (·.2))
    (hg : ∀ (s : Shared) (H : Hp) (C : Addr) (cl : List (Str × Addr)) (fp : List Addr), PG (X.blk s H scope (compEnvC scope cl C X.env) fp) tg (gD cf t)) (ht : ∀ (s : Shared) (H : Hp) (C : Addr) (cl : List (Str × Addr)) (fp : List Addr), PTs (X.blk s H scope (compEnvC scope cl C X.env) fp) ifs (tC' cf cond))
    (he : ∀ (s : Shared) (H : Hp) (C : Addr) (cl : List (Str × Addr)) (fp : List Addr), PE (X.blk s H scope (compEnvC scope cl C X.env) fp) elt (TD cf W0 el)) (hs : ∀ x, foldedSetIterable iter X.env x = pure x) :
    PE X (.ListComp elt [⟨tg, iter, ifs, 0⟩] scope pos) (TD cf W (.comp mt (own.map (·.2)) t k src cond el)) := pe_weak (pe_lc hc hN hi ok hg ht he hs) fun σ H Q h => comp_core ho h
theorem ts_setIx {o i e : Expr} {o' i' e' : E} {tpos : Pos} (hK : X.K = cf.K) (ho : PE X o (TD cf W o')) (hi : PE X i (TD cf W i')) (he : PE X e (TD cf W e')) (ha : ∀ v, assign (.Subscript o i tpos) X.env v = (do
      let ov ← holding [v] (eval o X.env)
      let iv ← holding [v, ov] (eval i X.env)
      standAt tpos
      holding [v, ov, iv] (setItem ov iv v)
      release [v, ov, iv] [])) (hs : swapsWithSole [.Subscript o i tpos] e pos.line X.env = pure false) (hw : swappedStores [.Subscript o i tpos] e X.env = pure none)
    (h1 : (assignEach [.Subscript o i tpos] X.env).map (·.2) = [assign (.Subscript o i tpos) X.env]) : PS X (.Assign [.Subscript o i tpos] e pos) (TSt cf W (.setIx o' i' e')) :=
  ps_weak (ps_asg he (pg_sub ho hi so_setIdx ha) hs hw h1) fun en σ H ⟨g, env, M, R, RE, q⟩ => by
    simp only [exec] at q
    refine ⟨g, env, M, R, RE, (q.sb RE).imp fun d M1 g1 H1 st1 R1 q1 v r => ?_⟩
    refine ⟨g1, env, M1, R1, RE.mono st1.le, (q1.sb (RE.mono st1.le)).imp fun od M2 g2 H2 st2 R2 q2 ov ro => ?_⟩
    have RE2 := (RE.mono st1.le).mono st2.le
    refine ⟨g2, env, M2, R2, RE2, (q2.sb RE2).imp fun id M3 g3 H3 st3 R3 q3 iv ri => ?_⟩
    rw [hK]
    refine ⟨g3, M3, od, id, d, R3, ro.mono st3.le, ri, (r.mono st2.le).mono st3.le, ?_⟩
    cases hp : prSetIdx M3 [od, id, d] with
    | none => rw [hp] at q3; exact q3
    | some dm =>
      obtain ⟨x, M4⟩ := dm
      rw [hp] at q3
      exact fun g4 H4 st4 R4 => q3 g4 H4 σ st4 R4 ((RE2.mono st3.le).mono st4.le)
/-! ### name op= e -/
theorem ip_of {op : Operator} {p : Pr} (h : PIp X op (fun x y H Q => rP cf.K (pr p) [x, y] H Q)) {x : Str} {e : Expr} {i : Nat} {e' : E} {pos' : Pos} (hN : X.N.Nodup) (hi : X.N[i]? = some x) (hx : Loc X.env.scope x) (he : PE X e (TD cf W e')) (hf : X.fn x = true ∨ X.env.scope.names.lookup x = some .local) :
    PS X (.AugAssign (.Name x pos') op e pos) (TSt cf W (.aug i p e')) := ps_weak (ps_aug hN hi hx he h hf) fun en σ H ⟨g, env, M, R, RE, q⟩ => by
  simp only [exec] at q
  split at q
  · rename_i d hd
    obtain ⟨v, hv, r⟩ := RE.2 _ _ hd
    refine ⟨v, hv, g, env, M, R, RE, (q.sb RE).imp fun d2 M1 g1 H1 st1 R1 q1 w rw' => ?_⟩
    refine ⟨g1, M1, [d, d2], R1, .cons (r.mono st1.le) (.cons rw' .nil), ?_⟩
    cases hp : pr p M1 [d, d2] with
    | none => rw [hp] at q1; exact q1
    | some dm =>
      obtain ⟨d3, M2⟩ := dm
      rw [hp] at q1
      exact fun g2 z H2 st2 R2 r2 => q1 g2 H2 _ st2 R2 (((RE.mono st1.le).mono st2.le).set r2 i)
  · exact False.elim q
theorem ip_addD (hK : X.K = cf.K) : PIp X .Add (fun x y H Q => rP cf.K (pr .iadd) [x, y] H Q) := by
  have h : OpR X (inplaceOp .Add) (rP2 X.K prIadd) := by
    refine so_int2 (rI0_to iop_add) fun M a b Q g H q => ?_
    cases a <;> cases b <;> first | exact False.elim q | exact ⟨_, _, rfl, rfl, trivial, fun R => q.here R (.int _)⟩
  rw [hK] at h
  exact h
theorem ts_aug {x : Str} {e : Expr} {i : Nat} {e' : E} {pos' : Pos} (hK : X.K = cf.K) (hN : X.N.Nodup) (hi : X.N[i]? = some x) (hx : Loc X.env.scope x) (he : PE X e (TD cf W e')) (hf : X.fn x = true ∨ X.env.scope.names.lookup x = some .local) :
    PS X (.AugAssign (.Name x pos') .Add e pos) (TSt cf W (.aug i .iadd e')) := ip_of (ip_addD hK) hN hi hx he hf
theorem ts_augIx {o i e : Expr} {o' i' e' : E} {tpos : Pos} (hK : X.K = cf.K) (ho : PE X o (TD cf W o')) (hi : PE X i (TD cf W i')) (he : PE X e (TD cf W e'))
    (ha : ∀ ov iv new, augStore i ov iv new = (do holding [new, ov, iv] (setItem ov iv new); release [new, ov, iv] []; pure .next)) : PS X (.AugAssign (.Subscript o i tpos) .Add e pos) (TSt cf W (.augIx o' i' .iadd e')) :=
  ps_weak (ps_augS ho hi so_getL he (ip_addD hK) so_setIdx ha) fun en σ H ⟨g, env, M, R, RE, q⟩ => by
    simp only [exec] at q
    refine ⟨g, env, M, R, RE, (q.sb RE).imp fun od M1 g1 H1 st1 R1 q1 ov ro => ?_⟩
    have RE1 := RE.mono st1.le
    refine ⟨g1, env, M1, R1, RE1, (q1.sb RE1).imp fun id M2 g2 H2 st2 R2 q2 iv ri => ?_⟩
    have RE2 := RE1.mono st2.le
    have ro2 := ro.mono st2.le
    rw [hK]
    refine ⟨g2, M2, [od, id], R2, .cons ro2 (.cons ri .nil), ?_⟩
    cases hp : prIdxL M2 [od, id] with
    | none => rw [hp] at q2; exact q2
    | some dm =>
      obtain ⟨old, M3⟩ := dm
      rw [hp] at q2
      intro g3 v3 H3 st3 R3 r3
      have RE3 := RE2.mono st3.le
      have q3 := PostS.step (g' := g3) (H' := H3) q2 st3
      refine ⟨g3, env, M3, R3, RE3, (q3.sb RE3).imp fun d2 M4 g4 H4 st4 R4 q4 w rw' => ?_⟩
      have RE4 := RE3.mono st4.le
      refine ⟨g4, M4, [old, d2], R4, .cons (r3.mono st4.le) (.cons rw' .nil), ?_⟩
      cases hp2 : pr .iadd M4 [old, d2] with
      | none => rw [hp2] at q4; exact q4
      | some dm =>
        obtain ⟨nw, M5⟩ := dm
        rw [hp2] at q4
        intro g5 z H5 st5 R5 r5
        have RE5 := RE4.mono st5.le
        have le35 := st4.le.trans st5.le
        refine ⟨g5, M5, od, id, nw, R5, (ro2.mono st3.le).mono le35, (ri.mono st3.le).mono le35, r5, ?_⟩
        have q5 := PostS.step (g' := g5) (H' := H5) q4 st5
        simp only at q5
        cases hp3 : prSetIdx M5 [od, id, nw] with
        | none => rw [hp3] at q5; exact q5
        | some dm =>
          obtain ⟨x, M6⟩ := dm
          rw [hp3] at q5
          exact fun g6 H6 st6 R6 => q5 g6 H6 σ st6 R6 (RE5.mono st6.le)
/-! ### for -/
theorem ts_for {tg iter : Expr} {body : List Stmt} {t : T} {k : SrcK} {src : List E} {b' : List S} (hp : PassesOwn (model X.prog X.w) X.A X.env X.xe) (hc : X.calm = true) (hi : PI X tg iter (TSrc cf W k src)) (hg : PG X tg (gD cf t)) (hb : PSs X body (TSs cf W b'))
    (hs : ∀ x, foldedSetIterable iter X.env x = pure x) : PS X (.For tg iter body [] pos) (TSt cf W (.for_ t k src b')) :=
  ps_weak (ps_for hp hc hi hg hb hs) fun en σ H ⟨g, env, M, R, RE, q⟩ => by
    have e1 : exec cf.call (.for_ t k src b') env M = ((evs cf.call src env M).bind (walkR k)).sb env fun w M1 => forLoop w (fun x env2 M2 => match store env2 x t with
        | none => .bad
        | some env3 => execs cf.call b' env3 M2) w.xs env M1 := by
      rw [exec]
      cases evs cf.call src env M with
      | bad => rfl
      | exc _ _ => rfl
      | ok ds M1 =>
        simp only [Res.bind, Res.sb, walkR]
        cases walk M1 k ds <;> rfl
    rw [e1] at q
    refine ⟨g, env, M, R, RE, (q.sb RE).imp fun w M1 g1 H1 st1 R1 q1 J wk => ?_⟩
    refine ⟨fun i m σ' H' => m = w.xs.length - i ∧ i ≤ w.xs.length ∧ ∃ g' M' env', Stp g1 H1 g' H' ∧ RelM cf.K g' M' H' ∧ RelE cf.K g' env' σ' ∧ PostS cf W g' H' (forLoop w (fun x env2 M2 => match store env2 x t with
        | none => .bad
        | some env3 => execs cf.call b' env3 M2) (w.xs.drop i) env' M') en, ⟨_, rfl, Nat.zero_le _, g1, M1, env, Stp.refl, R1, RE.mono st1.le, q1⟩, ?_⟩
    rintro i m σ' H' ⟨rfl, hi, g', M', env', st, R', RE', q'⟩
    by_cases hlt : i < w.xs.length
    · obtain ⟨x, hx⟩ : ∃ x, w.xs[i]? = some x := ⟨_, List.getElem?_eq_getElem hlt⟩
      have hd : w.xs.drop i = x :: w.xs.drop (i + 1) := by
        rw [List.drop_eq_getElem_cons hlt]
        rw [List.getElem?_eq_getElem hlt] at hx
        rw [Option.some.inj hx]
      rw [hd] at q'
      unfold forLoop at q'
      by_cases ok : w.Ok M'
      · rw [if_pos ok] at q'
        obtain ⟨go, yld⟩ := wk.go i x g' M' H' hx st R' ok
        refine .inr ⟨go, fun σ2 H2 => ∃ g2 M2 env2, Stp g1 H1 g2 H2 ∧ RelM cf.K g2 M2 H2 ∧ RelE cf.K g2 env2 σ2 ∧ PostS cf W g2 H2 (forLoop w (fun x env2 M2 => match store env2 x t with
          | none => .bad
          | some env3 => execs cf.call b' env3 M2) (w.xs.drop (i + 1)) env2 M2) en, fun σ2 H2 n => ⟨_, by omega, rfl, hlt, n⟩, fun v H2 y => ?_⟩
        obtain ⟨g2, st2, R2, r2⟩ := yld v H2 y
        cases hs : store env' x t with
        | none => rw [hs] at q'; exact False.elim q'
        | some env3 =>
          rw [hs] at q'
          simp only at q'
          refine ⟨g2, env', x, env3, R2.sub, RE'.mono st2.le, r2, hs, fun σ3 RE3 _ => ⟨g2, env3, M', R2, RE3, ?_⟩⟩
          cases he : execs cf.call b' env3 M' with
          | bad => rw [he] at q'; exact q'
          | done f env4 M4 =>
            rw [he] at q'
            have q2 := PostS.step (g' := g2) (H' := H2) q' st2
            cases f with
            | nx => exact fun g5 H5 σ5 st5 R5 RE5 => ⟨g5, M4, env4, (st.trans st2).trans st5, R5, RE5, PostS.step q2 st5⟩
            | ct => exact fun g5 H5 σ5 st5 R5 RE5 => ⟨g5, M4, env4, (st.trans st2).trans st5, R5, RE5, PostS.step q2 st5⟩
            | bk => exact q2
            | rt d => exact q2
            | ex x => exact q2
      · rw [if_neg ok] at q'
        exact False.elim q'
    · have e : i = w.xs.length := by omega
      subst e
      rw [List.drop_of_length_le (Nat.le_refl _)] at q'
      unfold forLoop at q'
      by_cases ok : w.Ok M'
      · rw [if_pos ok] at q'
        exact .inl ⟨wk.stop g' M' H' st R' ok, q'.nx R' RE'⟩
      · rw [if_neg ok] at q'
        exact False.elim q'
end
end DP

/-! DP.Try: try: .. except C as n: .. where the caught exception becomes a known thing of the heap. -/
namespace DP
open PySem PySem.Spec PyProof.Rows L2
variable [ClsMap]
/-- the caught exception's object, known from now on -/
theorem inv_track {X : Cx} {a : Addr} {oe : Obj} {pn : List (Addr × Obj)} {σ : L2.St} {H : Hp} {s : Shared} (okX : X.Ok) (I : L2.Inv (X.suite a ((a, oe) :: pn)) [] σ H s) (fresh : X.s_0.heap.get? a = none) (away : ∀ p ∈ pn, p.1 ≠ a) :
    L2.Inv (X.suite a pn) [] σ (upd H a (.frz oe (.own a))) s := by
  have P := I.pin (a, oe) (List.mem_append_left _ List.mem_cons_self)
  have there : s.heap.get? a = some oe := P.1
  have clear : H a = none := P.2.1
  exact {
    ok := okX.suite a pn
    os := I.os
    bare := I.bare
    base := {
      keep := I.base.keep
      slot := I.base.slot
      free := fun b o e n x => by
        rw [upd_ne (fun z => by rw [z, fresh] at e; cases e)]
        exact I.base.free b o e n x
      there := I.base.there
      tups := fun b xs e => by
        have q := I.base.tups b xs e
        rw [upd_ne (ne_of_none q clear)]
        exact q
      frzs := fun b o u e => by
        have q := I.base.frzs b o u e
        rw [upd_ne (ne_of_none q clear)]
        exact q
      tbls := fun b ps e => by
        obtain ⟨more, q⟩ := I.base.tbls b ps e
        exact ⟨more, by rw [upd_ne (ne_of_none q clear)]; exact q⟩ }
    loc := I.loc
    cell := I.cell
    free := by
      rw [upd_ne (Ne.symm P.2.2.1)]
      exact I.free
    freeC := fun x c e => by
      rw [upd_ne (fun z => ?_)]
      · exact I.freeC x c e
      · obtain ⟨v, ob, hob, hd⟩ := I.cell x c e
        rw [z, there] at hob
        cases hob
        exact P.2.2.2.2 v hd
    pin := fun p hp => by
      have hp' : p ∈ pn := by simpa using (show p ∈ pn ++ ([] : List (Addr × Obj)) from hp)
      have q := I.pin p (List.mem_append_left _ (List.mem_cons_of_mem _ hp'))
      exact ⟨q.1, by rw [upd_ne (away p hp')]; exact q.2.1, q.2.2⟩
    hok := fun b u e => by
      by_cases hb : b = a
      · subst hb
        rw [upd_same] at e
        cases e
        exact ⟨there, oe, there⟩
      · rw [upd_ne hb] at e
        exact (I.hok b u e).stay (fun _ _ _ q => q) (fun x q => by rw [upd_ne (ne_of_none q clear)]; exact q) fun x xs q => by rw [upd_ne (ne_of_none q clear)]; exact q
    len := I.len }
/-- behind the suite -/
theorem inv_unsuite {X : Cx} {a : Addr} {pins : List (Addr × Obj)} {σ : L2.St} {H : Hp} {s : Shared} (okX : X.Ok) (I : L2.Inv (X.suite a (X.pn ++ pins)) [] σ H s) : L2.Inv X pins σ H s := {
    ok := okX, os := I.os, bare := I.bare, base := I.base, loc := I.loc, cell := I.cell, free := I.free, freeC := I.freeC
    pin := fun p hp => I.pin p (List.mem_append_left _ hp)
    hok := I.hok, len := I.len }
/-- what the clause wishes of an exception of the body -/
def wT (K : PySem.W.Frag) (c : Value) (i : Nat) (ts : TS) (D : Ends) : WX := fun cls d σ H =>
  PySem.W.exmOne K cls c = some true ∧ ∀ a oe, H a = none → Zc cls d oe → (∃ vs, oe.data = .fields vs) →
    ts { nx := fun σ' H' => D.nx (σ'.set i none) H', rt := D.rt, bk := fun σ' H' => D.bk (σ'.set i none) H', ct := fun σ' H' => D.ct (σ'.set i none) H' } (σ.set i (some (.ref a))) (upd H a (.frz oe (.own a)))
section
variable {X : Cx} {x n : Str} {c : Value} {i : Nat} {body suite : List Stmt} {b₀ : Stmt} {np pos pos' : Pos} {tb : WX → TS} {ts : TS}
theorem sky_away {B : Heap} {l : List PySem.Env} {a : Addr} {Z : Obj → Prop} {L : Addr} {h : Heap} (x : Sky B l a Z L h) : B.get? a = none := by
  rcases x with ⟨_, n, _⟩ | ⟨_, n, _⟩ | ⟨_, n, _⟩ <;> exact n
theorem ps_tryT (hs : X.stack = X.env :: X.outer) (hf : X.env.frame = some X.env.locals) (hex : X.ex = []) (hN : X.N.Nodup) (hi : X.N[i]? = some n) (hln : X.env.kindOf n = some .local) (hc : Names X x c)
    (hb : ∀ (W : WX) (pn : List (Addr × Obj)) (xe : Value → Shared → Prop), Takes (X.tr pn xe) W → PassesOwn (model X.prog X.w) X.A X.env xe → PSs (X.tr pn xe) body (tb W))
    (hsu : ∀ (a : Addr) (pn : List (Addr × Obj)), PSs (X.suite a pn) (b₀ :: suite) ts) :
    PS X (.Try body [.ExceptHandler (some (.Name x np)) (some n) (b₀ :: suite) pos'] [] [] pos) (fun D σ H => tb (wT X.K c i ts D) D σ H) := by
  constructor
  intro pins s σ H D I want
  have okX := I.ok
  have frames : X.A.frames = some (X.env :: X.outer) := by rw [okX.frames, hs]
  refine wpAny_Try_except (wpAny_mono ((hb (wT X.K c i ts D) (X.pn ++ pins) _ (fun u s' air => ?caught) PassesOwn.looking).run [] s σ H D (I.toTry _) want) (fun f s1 fine => ?smooth) fun _ _ z => z)
  case smooth =>
    match f, fine with
    | .next, ⟨σ', H', J, q⟩ => exact wpAny_execs_nil ⟨σ', H', J.ofTry okX, q⟩
    | .brk, ⟨σ', H', J, q⟩ => exact ⟨σ', H', J.ofTry okX, q⟩
    | .cont, ⟨σ', H', J, q⟩ => exact ⟨σ', H', J.ofTry okX, q⟩
    | .ret u, ⟨v, σ', H', J, r, q⟩ => exact ⟨v, σ', H', J.ofTry okX, r, q⟩
  case caught =>
    obtain ⟨a, B, sI, ps', σ1, H1, cls, d, rfl, J', ground, up, sky, clear, os, gens, hyes, yes⟩ := air
    have J : L2.Inv X pins σ1 H1 sI := J'.ofTry okX
    have away := sky_away sky
    have sky' : Sky B (X.env :: X.outer) a (Zc cls d) X.env.locals s'.heap := by rw [← hs]; exact sky
    refine Sky.land Zc.steady frames hf sky' fun h3 fl3 up3 => ?_
    obtain ⟨o3, v3, e3, z3, d3⟩ := fl3.there
    have J3 : L2.Inv X pins σ1 H1 { s' with heap := h3 } := J.landed ground fl3.1 (up.trans up3) os gens
    have offFr : a ∉ frs (X.env :: X.outer) := fun hm => by
      obtain ⟨_, o', e', hn⟩ := fl3.2.2.1.mem hm
      rw [e3] at e'
      cases e'
      exact hn _ d3
    have offL : a ≠ X.env.locals := fun z => offFr (List.mem_filterMap.mpr ⟨X.env, List.mem_cons_self, by rw [hf, z]⟩)
    have offF : a ∉ X.fs := fun hm => by
      obtain ⟨e, he, q⟩ := List.mem_filterMap.mp hm
      exact offFr (List.mem_filterMap.mpr ⟨e, List.mem_cons_of_mem _ he, q⟩)
    have noI : sI.heap.get? a = none := by
      cases e : sI.heap.get? a with
      | none => rfl
      | some o =>
        have q := ground a o e (by rw [hs]; exact offFr)
        rw [away] at q
        cases q
    have fresh : X.s_0.heap.get? a = none := by
      cases e : X.s_0.heap.get? a with
      | none => rfl
      | some o =>
        obtain ⟨o', q⟩ := J.base.there a o e (by rw [hex]; simp)
        rw [noI] at q
        cases q
    have apart : ∀ p ∈ X.pn ++ pins, p.1 ≠ a := fun p hp z => by
      have q := (J.pin p hp).1
      rw [z, noI] at q
      cases q
    have S3 := J3.suite e3 d3 clear offL offF
    refine wpAny_handleBy_cons (codeAny_handlers_test ?_) (fun q => by cases q)
    have LT : PySem.W.Looks (model X.prog X.w) h3 (typeOf (.ref a)) cls := fun A Q E s k q => wpAny_typeOf_ref (k _ _ e3) (by rw [z3.1]; exact q)
    have asked := PySem.W.exm_one (M := model X.prog X.w) J3.kIn LT hyes
    have named : ∀ {Q : Value → Shared → Prop} {E : Value → Shared → Prop}, Q c { s' with heap := h3 } → wpAny (model X.prog X.w) (X.A.mark (some (.ref a))) (eval (.Name x np) X.env) Q E { s' with heap := h3 } := by
      intro Q E q
      rcases hc with ⟨g1, g2, hm | ⟨hm, hv, hnn⟩⟩
      · exact ld_glob (X := X.suite a ((a, o3) :: (X.pn ++ pins))) S3 g1 hm q g2
      · exact ld_blt (X := X.suite a ((a, o3) :: (X.pn ++ pins))) S3 g1 hm hv q hnn g2
    refine named (asked.here ?_)
    refine codeAny_handlers_suite_as (HandSPX.lands_againZ fl3 fun h4 fl4 up4 => ?_)
    obtain ⟨o4, v4, e4, z4, d4⟩ := fl4.there
    have J4 : L2.Inv X pins σ1 H1 { s' with heap := h4 } := J.landed ground fl4.1 ((up.trans up3).trans up4) os gens
    have S4 := inv_track okX (J4.suite e4 d4 clear offL offF) fresh apart
    refine store_ok (X := X.suite a (X.pn ++ pins)) (v := .ref a) S4 hN hi (.inl hln) rfl (fun s5 S5 => ?_) (.inr hln)
    refine wpAny_mono ((hsu a (X.pn ++ pins)).run [] s5 _ _ _ S5 (yes a o4 clear z4 ⟨_, d4⟩)) (fun f s6 hsp => ?_) (fun _ _ z => False.elim z)
    have leave : ∀ {σ6 : L2.St} {H6 : Hp} {Q : Shared → Prop}, L2.Inv (X.suite a (X.pn ++ pins)) [] σ6 H6 s6 → (∀ s7, L2.Inv X pins (σ6.set i none) H6 s7 → Q s7) →
        wpAny (model X.prog X.w) X.A (do bindName X.env n .none; unbindBehindTheSuite X.env n pos') (fun _ s7 => Q s7) X.xe s6 := fun S6 hq => gone_ok (inv_unsuite okX S6) hN hi hln hq
    match f, hsp with
    | .next, ⟨σ6, H6, S6, q6⟩ => exact leave S6 fun s7 J7 => ⟨_, _, J7, q6⟩
    | .brk, ⟨σ6, H6, S6, q6⟩ => exact leave S6 fun s7 J7 => ⟨_, _, J7, q6⟩
    | .cont, ⟨σ6, H6, S6, q6⟩ => exact leave S6 fun s7 J7 => ⟨_, _, J7, q6⟩
    | .ret u, ⟨v6, σ6, H6, S6, r6, q6⟩ => exact leave S6 fun s7 J7 => ⟨_, _, _, J7, r6, q6⟩
theorem RelE.unset {K : PySem.W.Frag} {g : G} {env : Env} {σ : L2.St} (r : RelE K g env σ) (i : Nat) : RelE K g (env.set i none) (σ.set i none) := by
  refine ⟨by rw [List.length_set, List.length_set]; exact r.1, fun j d e => ?_⟩
  by_cases hj : i = j
  · subst hj
    by_cases hl : i < env.length
    · rw [List.getElem?_set_self hl] at e
      cases e
    · rw [List.getElem?_eq_none (by rw [List.length_set]; omega)] at e
      cases e
  · rw [List.getElem?_set_ne hj] at e
    rw [List.getElem?_set_ne hj]
    exact r.2 j d e
theorem ts_try {cf : Cf} {W : WX} {body' suite' : List S} {yes : List Nat} (hK : X.K = cf.K) (hs : X.stack = X.env :: X.outer) (hf : X.env.frame = some X.env.locals) (hex : X.ex = []) (hN : X.N.Nodup) (hi : X.N[i]? = some n) (hln : X.env.kindOf n = some .local) (hc : Names X x c) (hy : Ist X.K c yes true)
    (hb : ∀ (W : WX) (pn : List (Addr × Obj)) (xe : Value → Shared → Prop), Takes (X.tr pn xe) W → PassesOwn (model X.prog X.w) X.A X.env xe → PSs (X.tr pn xe) body (TSs cf W body'))
    (hsu : ∀ (a : Addr) (pn : List (Addr × Obj)), PSs (X.suite a pn) (b₀ :: suite) (TSs cf (fun _ _ _ _ => False) suite')) :
    PS X (.Try body [.ExceptHandler (some (.Name x np)) (some n) (b₀ :: suite) pos'] [] [] pos) (TSt cf W (.try_ body' yes i suite')) :=
  ps_weak (ps_tryT (tb := fun W => TSs cf W body') (ts := TSs cf (fun _ _ _ _ => False) suite') hs hf hex hN hi hln hc hb hsu) fun D σ H ⟨g, env, M, R, RE, q⟩ => by
    simp only [DP.exec] at q
    refine ⟨g, env, M, R, RE, ?_⟩
    cases he : execs cf.call body' env M with
    | bad => rw [he] at q; exact q
    | done f env1 M1 =>
      rw [he] at q
      cases f with
      | nx => exact q
      | bk => exact q
      | ct => exact q
      | rt d => exact q
      | ex x =>
        simp only at q
        by_cases hm : x.cls ∈ yes
        · rw [if_pos hm] at q
          rintro g1 H1 σ1 st1 R1 RE1 cls dx ⟨C, d, vs, hC, rfl, rfl, hF, rs⟩
          refine ⟨(hy _ hm C hC).2, fun a oe clear zc fl => ?_⟩
          obtain ⟨R2, st2⟩ := R1.froze (o := .frz oe (.own a)) clear
          have hda : d ≠ a := fun z => by
            have q := R1.sub d _ hF
            rw [z, clear] at q
            cases q
          have rE : Rep cf.K ⟨upd g1.F a (.frz oe (.own a)), g1.a⟩ (.ref a) (.err x.cls (x.fs.map (·.1)) (x.fs.map (·.2))) :=
            .err (C := C) (dx := d) upd_same zc.1 zc.2 fl hC (by show upd g1.F a _ d = _; rw [upd_ne hda]; exact hF) (rs.mono st2.le)
          refine ⟨_, env1.set i (some (.err x.cls (x.fs.map (·.1)) (x.fs.map (·.2)))), M1, R2, (RE1.mono st2.le).set rE i, ?_⟩
          cases hx : execs cf.call suite' (env1.set i (some (.err x.cls (x.fs.map (·.1)) (x.fs.map (·.2))))) M1 with
          | bad => rw [hx] at q; exact q
          | done f2 env2 M2 =>
            rw [hx] at q
            intro g3 H3 σ3 st3 R3 RE3
            have st := (st1.trans st2).trans st3
            cases f2 with
            | nx => exact q g3 H3 _ st R3 (RE3.unset i)
            | bk => exact q g3 H3 _ st R3 (RE3.unset i)
            | ct => exact q g3 H3 _ st R3 (RE3.unset i)
            | rt d => exact q g3 H3 _ st R3 (RE3.unset i)
            | ex x => exact False.elim q
        · rw [if_neg hm] at q
          exact False.elim q
end
end DP

/-! DP.Hot: defs that may be called whether or not an exception is handled (they raise nothing themselves, walk nothing). -/
namespace DP
open PySem PySem.Spec PyProof.Rows L2
variable [ClsMap]
/-- room, whatever is handled -/
structure RoomU (k : Nat) (A : Around) : Prop where
  dp : A.depth + 3 * k + 5 < recursionLimit
  un : A.units + 16 * k + 200 < cLine
theorem RoomU.of {k : Nat} {A : Around} (r : Room k A) : RoomU k A := ⟨r.dp, r.un⟩
theorem RoomU.mono {j k : Nat} {A : Around} (r : RoomU k A) (h : j ≤ k) : RoomU j A := by
  have a := r.dp
  have b := r.un
  exact ⟨by omega, by omega⟩
theorem RoomU.inner {k : Nat} {A : Around} (r : RoomU (k + 1) A) (env : PySem.Env) : RoomU k (A.deeper env) := by
  have a := r.dp
  have b := r.un
  constructor
  · show A.depth + 1 + 3 * k + 5 < _
    omega
  · show A.units + 3 + 16 * k + 200 < _
    omega
/-- the promise -/
structure FnU (P : Program) (w : World) (K : PySem.W.Frag) (mg : Str → Option Value) (base : Heap) (CX : CXT) (k : Nat) (f : Addr) (fd : FuncData) (ps : List Str) (sp : Sp) : Prop where
  len : ∀ vs H Q E, sp vs H Q E → vs.length = ps.length
  go : ∀ (A : Around) (outer : List PySem.Env) (s : Shared) (H : Hp) (args : Args) (us : List Value) (vs : List V) (Q : VK) (E : XK), RoomU k A → Env0 P w K mg base A outer s H → BindsTo s fd args (ps.zip us) → Vals vs us → sp vs H Q E →
    codeAny (model P w) A (.call (.ref f) args) (CR CX outer P w H s Q E) s
section
variable {P : Program} {w : World} {K : PySem.W.Frag} {mg : Str → Option Value} {base : Heap} {CX : CXT} {k : Nat} {f : Addr} {fd : FuncData} {ps N : List Str} {sp : Sp}
theorem FnU.ok (F : FnU P w K mg base CX k f fd ps sp) : FnOk P w K mg base CX k f fd ps sp := ⟨F.len, fun A outer s H args us vs Q E hr => F.go A outer s H args us vs Q E (.of hr)⟩
/-- the context of its body -/
def cxU (CX : CXT) (P : Program) (w : World) (K : PySem.W.Frag) (mg : Str → Option Value) (base : Heap) (N : List Str) (qual : Str) (scope : Scope) (f : Addr) (cd : Value) (A : Around) (outer : List PySem.Env) (s : Shared) (H : Hp) (E : XK) : Cx :=
  { cxOf CX P w K mg base N qual scope f cd A outer s H E with calm := false }
theorem inv_startU {qual : Str} {scope : Scope} {cd : Value} {A : Around} {outer : List PySem.Env} {s s1 : Shared} {H : Hp} {E : XK} {us : List Value} {vs : List V} (S : FnScope N ps scope) (e0 : Env0 P w K mg base A outer s H) (hl : vs.length = ps.length) (r : Vals vs us)
    (x : InCallC s s.heap.objs.size (bindL (envOfC qual scope s.heap.objs.size f cd).kindOf (ps.zip us) fun _ => none) (cellsFrom (s.heap.objs.size + 1) scope.names []) (bindC (envOfC qual scope s.heap.objs.size f cd).kindOf (ps.zip us) fun _ => none) s1) :
    L2.Inv (cxU CX P w K mg base N qual scope f cd A outer s H E) [] (L2.start N vs) H s1 := by
  have e1 : Env0 P w K mg base { A with handled := none } outer s H := ⟨e0.frames, e0.mod, e0.bs, e0.bsz, e0.funs, e0.frf, e0.hok, e0.bare⟩
  have J : L2.Inv (cxOf CX P w K mg base N qual scope f cd { A with handled := none } outer s H E) [] (L2.start N vs) H s1 := inv_start S rfl e1 hl r x
  have o := J.ok
  have fr : (cxU CX P w K mg base N qual scope f cd A outer s H E).A.frames = some (cxU CX P w K mg base N qual scope f cd A outer s H E).stack := o.frames
  exact {
    ok := {
      mod := o.mod, kind := o.kind, glob := o.glob, blt := o.blt, above := o.above, inj := o.inj, has := o.has, cab := o.cab
      hd := fun z => Bool.noConfusion (show false = true from z)
      frames := fr
      stk := o.stk, exf := o.exf, bs := o.bs, bsz := o.bsz, noex := o.noex, exfs := o.exfs, funs := o.funs, frf := o.frf }
    os := J.os, bare := J.bare, base := J.base, loc := J.loc, cell := J.cell, free := J.free, freeC := J.freeC, pin := J.pin, hok := J.hok, len := J.len }
theorem fn_ofU {name qual : Str} {params : Arguments} {body : List Stmt} {scope : Scope} {dV kV doc pm cdv ct oc : Value} {an od : Option Addr} {osl : Array (Option Value)} (lk : K.lookup f = some ⟨oc, od, .func (PySem.W.fnOf name qual params body scope dV kV doc pm an cdv ct), osl⟩)
    (hcd : PySem.W.codeIn K cdv qual = true) (S : FnScope N ps scope) (len : ∀ vs H Q E, sp vs H Q E → vs.length = ps.length)
    (walks : ∀ (A : Around) (outer : List PySem.Env) (s : Shared) (H : Hp) (vs : List V) (Q : VK) (E : XK), RoomU k (A.deeper (envOfC qual scope s.heap.objs.size f cdv)) → sp vs H Q E →
      ∃ t, PSs (cxU CX P w K mg base N qual scope f cdv A outer s H E) body t ∧ t { nx := fun _ H' => Q .non H', rt := Q } (L2.start N vs) H) :
    FnU P w K mg base CX (k + 1) f (PySem.W.fnOf name qual params body scope dV kV doc pm an cdv ct) ps sp where
  len := len
  go := by
    intro A outer s H args us vs Q E room e0 bound vals want
    have same := len _ _ _ _ want
    have KX : K.In s.heap := e0.mod.kin.keeps fun b o e => (e0.bs b o e).1
    have kinds : ∀ y ∈ ps.zip us, scope.names.lookup y.1 = some .local ∨ (scope.names.lookup y.1 = some .cell ∧ ((cellsFrom (s.heap.objs.size + 1) scope.names []).lookup y.1).isSome = true) := by
      rintro ⟨n, v⟩ hy
      have q := S.par n (List.of_mem_zip hy).1
      exact q.imp id fun z => ⟨z, PySem.W.cellsFrom_some _ _ _ (.inl z)⟩
    have deep : A.depth < recursionLimit := by
      have := room.dp
      omega
    refine codeAny_call_function deep (KX _ _ lk) rfl S.co S.gen rfl (PySem.W.codeRec_of KX hcd) (bound _ _ _ _ (wpAny_newFunctionEnv_cells S.kind kinds fun env he s1 x => ?_))
    subst he
    have lim : s.heap.NoLimit := e0.mod.nolimit.keeps fun b o e => (e0.bs b o e).1
    refine ⟨lim.keeps x.toInCall.keep, codeAny_func ?_⟩
    obtain ⟨t, ht, hq⟩ := walks A outer s H vs Q E (room.inner _) want
    refine wpAny_mono (ht.run [] s1 _ H _ (inv_startU S e0 same vals x) hq) (fun fl s' hs => ?_) fun _ _ z => z
    match fl, hs with
    | .ret u, ⟨v, _, H', J, rv, q⟩ => exact ⟨v, H', J.os, J.bare, J.base, J.hok, rv, q⟩
    | .next, ⟨_, H', J, q⟩ => exact ⟨V.non, H', J.os, J.bare, J.base, J.hok, rfl, q⟩
    | .brk, ⟨_, _, _, q⟩ => exact False.elim q
    | .cont, ⟨_, _, _, q⟩ => exact False.elim q
theorem Fun.okU {x qual : Str} {st : Stmt} (F : Fun K x qual st f fd) (S : FnScope N ps (defScope st)) (len : ∀ vs H Q E, sp vs H Q E → vs.length = ps.length)
    (walks : ∀ (cdv : Value) (A : Around) (outer : List PySem.Env) (s : Shared) (H : Hp) (vs : List V) (Q : VK) (E : XK), RoomU k (A.deeper (envOfC qual (defScope st) s.heap.objs.size f cdv)) → sp vs H Q E →
      ∃ t, PSs (cxU (L2.CX P w) P w K mg base N qual (defScope st) f cdv A outer s H E) (defBody st) t ∧ t { nx := fun _ H' => Q .non H', rt := Q } (L2.start N vs) H) : FnU P w K mg base (L2.CX P w) (k + 1) f fd ps sp := by
  obtain ⟨oc, od, kV, doc, pm, an, cdv, ct, osl, rfl, lk, hcd⟩ := F.ex
  exact fn_ofU lk hcd S len fun A outer s H vs Q E hr h => walks cdv A outer s H vs Q E hr h
end
/-! ### its calls -/
section
variable {X : Cx} {cf : Cf} {W : WX} {k : Nat} {fa : Addr} {fd : FuncData} {ps : List Str}
theorem run_fnU {E : L2.St → XK} {sp : Sp} {CX : CXT} {pins : List (Addr × Obj)} {σ : L2.St} {H : Hp} {s : Shared} {Q : VK} {us : List Value} {vs : List V} (F : FnU X.prog X.w X.K X.mg X.base CX k fa fd ps sp) (hr : RoomU k X.A) (hb : Binds X.K fd ps []) (hx : PassesAt CX X σ (E σ))
    (I : L2.Inv X pins σ H s) (r : Vals vs us) (h : sp vs H Q (E σ)) : wpAny (model X.prog X.w) X.A (PySem.call (.ref fa) us) (EP X pins σ Q) X.xe s := by
  have hl : (us ++ []).length = ps.length := by
    rw [List.append_nil, ← r.length]
    exact F.len _ _ _ _ h
  have bound := hb s us I.kIn hl
  rw [List.append_nil] at bound
  refine wpAny_call (codeAny_mono (F.go X.A X.stack s H ⟨us, []⟩ us vs Q (E σ) hr I.env0 bound r h) fun res s' hq => ?_)
  match res, hq with
  | .error e, hq => exact hx pins H s e s' I hq
  | .ok (.ret u), hq => exact I.after hq
theorem td_callU {x : Str} {p pos : Pos} {e : Expr} {es : List Expr} {es' : List E} {f : Nat} (F : FnU X.prog X.w X.K X.mg X.base (L2.CX X.prog X.w) k fa fd ps (spOf cf f)) (hr : RoomU k X.A) (hg : Gl X x)
    (hm : X.mg x = some (.ref fa)) (hk : PySem.W.keepIn X.K (.ref fa) = true) (hb : Binds X.K fd ps []) (tk : Takes X W) (ha : PA X (e :: es) (TDs cf W es')) (hdb : (x == ("__debug__" : Str)) = false)
    (he : starEach (e :: es) X.env = (false, eval e X.env) :: starEach es X.env) (hpl : (backTo pos (starEach es X.env)).any (·.1) = false) : PE X (.Call (.Name x p) (e :: es) [] pos) (TD cf W (.call f es')) := by
  constructor
  intro pins s σ H Q I ⟨g, env, M, R, RE, q⟩
  refine wpAny_Call_Name_kw (ld_glob I hg hm ?_ hdb)
  rw [ev] at q
  have want : TDs cf W es' σ H fun vs H1 => spOf cf f vs H1 Q (WE W σ) := ⟨g, env, M, R, RE, q.bind.imp fun ds M1 g1 H1 st1 R1 q1 vs rs => by
    refine ⟨g1, M1, ds, R1, rs, ?_⟩
    cases h : cf.call f ds M1 with
    | bad => rw [h] at q1; exact q1
    | exc x M2 => rw [h] at q1; exact q1
    | ok d M2 => rw [h] at q1; exact q1⟩
  refine PySem.W.callWith_K (h₀ := X.base) I.ok.mod.kin hk (thn (ha.run pos pins s σ H _ I want) fun us s1 ⟨vs, H1, I1, r, q1⟩ => ⟨I1.kIn, ?_⟩) he hpl
  exact run_fnU F hr hb (passAt tk σ) I1 r q1
end
end DP

/-! DP.Raise: raise C(e, ..), C an own exception class with fields. -/
namespace DP
open PySem PySem.Spec PyProof.Rows L2 NdefX
variable [ClsMap]
theorem exn_vals {K : PySem.W.Frag} {g : G} {σ : L2.St} {us : List V} {ds : List D} (rs : Reps K g us ds) (hσ : ∀ i v, us[i]? = some v → σ[i + 1]? = some (some v)) : ∀ (r : List (Str × Nat)) (fsD : List (Str × D)) (fsV : List (Str × V)) (xs : List (Str × D)), exnOf r ds fsD = some xs →
    fsV.map (·.1) = fsD.map (·.1) → Reps K g (fsV.map (·.2)) (fsD.map (·.2)) → ∃ ys, fvals σ r fsV = some ys ∧ ys.map (·.1) = xs.map (·.1) ∧ Reps K g (ys.map (·.2)) (xs.map (·.2))
  | [], fsD, fsV, xs, h, hn, hr => by
    cases h
    exact ⟨fsV, rfl, hn, hr⟩
  | (f, 0) :: r, fsD, fsV, xs, h, hn, hr => by cases h
  | (f, i + 1) :: r, fsD, fsV, xs, h, hn, hr => by
    have h : (match ds[i]? with | some d => exnOf r ds ((f, d) :: fsD) | none => none) = some xs := h
    cases hd : ds[i]? with
    | none => rw [hd] at h; cases h
    | some d =>
      rw [hd] at h
      obtain ⟨v, hv, rv⟩ := rs.get hd
      obtain ⟨ys, h1, h2, h3⟩ := exn_vals rs hσ r ((f, d) :: fsD) ((f, v) :: fsV) xs h (by simp [hn]) (.cons rv hr)
      refine ⟨ys, ?_, h2, h3⟩
      rw [fvals, hσ i v hv]
      exact h1
theorem zip_fst_snd {α β : Type} : ∀ ys : List (α × β), (ys.map (·.1)).zip (ys.map (·.2)) = ys
  | [] => rfl
  | y :: ys => by simp [zip_fst_snd ys]
section
variable {X : Cx} {cf : Cf} {W : WX}
theorem ts_raise {es : List Expr} {e : Expr} {es' : List E} {x : Str} {p pos pos' : Pos} {N : List Str} {C : Addr} {c m : Nat} {r : List (Str × Nat)} (hc : X.calm = true) (tk : Takes X W) (hm : m ≤ 1000) (hcls : ClsMap.m c = some C)
    (mk : PMk X (.Call (.Name x p) (e :: es) [] pos') (tMkO C (spI N C m r) [] (TDs cf W es'))) : PS X (.Raise (some (.Call (.Name x p) (e :: es) [] pos')) none pos) (TSt cf W (.raise c m r es')) :=
  ps_weak (ps_raise hc tk mk) fun en σ H ⟨g, env, M, R, RE, q⟩ => by
    simp only [DP.exec] at q
    refine ⟨g, env, M, R, RE, (q.sb RE).imp fun ds M1 g1 H1 st R1 q1 vs rs => ?_⟩
    split at q1
    · rename_i xs hx
      split at hx
      · rename_i hl
        have hvl : vs.length = m := rs.len.trans hl
        refine ⟨by omega, fun a ha => ?_⟩
        obtain ⟨ys, hy1, hy2, hy3⟩ := exn_vals (σ := startF N (V.ref a :: (vs ++ [])) [none]) rs (fun i v h => by
          rw [List.append_nil]
          show ((V.ref a :: vs).map some ++ _)[i + 1]? = _
          rw [List.getElem?_append_left (by
            rw [List.getElem?_eq_some_iff] at h
            obtain ⟨h, _⟩ := h
            simp; omega)]
          simp [h]) r [] [] xs hx rfl .nil
        refine ⟨a, vs, ys, by rw [List.append_nil], hvl, upd_same, hy1, fun dx H' h1 h2 h3 h4 h5 => ⟨rfl, dx, ys, h4, h5, ?_, ?_⟩⟩
        · rw [upd_ne h2] at h1; exact h1
        · have hdx : H1 dx = none := by rw [upd_ne h2] at h1; exact h1
          have e : upd (del H' a) dx (.xd ys) = upd H1 dx (.xd ys) := by
            funext b
            by_cases hb : b = dx
            · rw [hb, upd_same, upd_same]
            · rw [upd_ne hb, upd_ne hb]
              by_cases hb2 : b = a
              · rw [hb2, del_same, ha]
              · rw [del_ne hb2, h3 b hb hb2, upd_ne hb2]
          rw [e]
          obtain ⟨R2, S2⟩ := R1.froze (p := dx) (o := .xd ys) hdx
          exact q1 _ _ σ S2 R2 (RE.mono (st.trans S2).le) (.ref C) (some dx) ⟨C, dx, ys.map (·.2), hcls, rfl, rfl, by show upd g1.F dx _ dx = _; rw [upd_same, ← hy2, zip_fst_snd], hy3.mono S2.le⟩
      · cases hx
    · exact q1.elim
end
end DP

/-! DP.Compile: from the model's syntax to the small language; soundness. -/
namespace DP
open PySem PySem.Spec PyProof.Rows L2
variable [ClsMap]

structure Ctx where
  N : List Str
  names : List (Str × NameKind)
  fnb : Str → Bool
  gl : List (Str × D)
  fns : List (Str × Nat)
  mutN : List Str
  retM : Bool
  retF : Bool
  argM : Bool
  cls : List (Str × Nat × Nat × List (Str × Nat)) := []
  /-- nothing is walked or raised here: an exception may be handled -/
  hot : Bool := false
  fnu : List (Str × Nat) := []
  /-- classes asked for: the numbers of those below, of the others -/
  ist : List (Str × List Nat × List Nat) := []
  flds : List Str := []

/-- the built-ins that are used by their names -/
def bltNames : List Str := ["len", "int", "str", "abs", "sum", "all", "any", "tuple", "list", "isinstance", "range", "enumerate", "min", "max", "bool", "dict", "zip"]

structure Stat (cf : Cf) (W : WX) (k : Nat) (X : Cx) (c : Ctx) : Prop where
  N : X.N = c.N
  nd : X.N.Nodup
  names : X.env.scope.names = c.names
  kind : X.env.scope.kind = .function
  fn : ∀ x, c.fnb x = true → X.fn x = true
  K : X.K = cf.K
  calm : c.hot = false → X.calm = true
  room : c.hot = false → Room k X.A
  roomU : RoomU k X.A
  takes : Takes X W
  gl : ∀ x d, c.gl.lookup x = some d → ∃ v u, X.mg x = some u ∧ RelV v u ∧ ∀ g, Rep cf.K g v d
  fns : ∀ x f, c.fns.lookup x = some f → ∃ fa fd ps, FnOk X.prog X.w X.K X.mg X.base (L2.CX X.prog X.w) k fa fd ps (spOf cf f) ∧ X.mg x = some (.ref fa) ∧ PySem.W.keepIn X.K (.ref fa) = true ∧ Binds X.K fd ps []
  blt : ∀ x ∈ bltNames, X.mg x = none
  cls : ∀ x p, c.cls.lookup x = some p → ∃ C, ClsK X.prog X.w X.K X.mg X.base ClsMap.m x p.1 p.2.1 p.2.2 C
  two : 2 ≤ k
  fnu : ∀ x f, c.fnu.lookup x = some f → ∃ fa fd ps, FnU X.prog X.w X.K X.mg X.base (L2.CX X.prog X.w) k fa fd ps (spOf cf f) ∧ X.mg x = some (.ref fa) ∧ PySem.W.keepIn X.K (.ref fa) = true ∧ Binds X.K fd ps []
  ist : ∀ x p, c.ist.lookup x = some p → ∃ cv, (X.mg x = some cv ∧ (∃ D, cv = .ref D) ∨ X.mg x = none ∧ bootBuiltins x = some cv ∧ x ≠ "__name__" ∧ ∃ t, cv = .type t) ∧ Ist X.K cv p.1 true ∧ Ist X.K cv p.2 false
  ecl : Ecl X.K c.flds

/-! ### side conditions on syntax -/
def isStar : Expr → Bool
  | .Starred _ _ => true
  | _ => false
theorem starEach_cons {e : Expr} {es : List Expr} {env : PySem.Env} (h : isStar e = false) : starEach (e :: es) env = (false, eval e env) :: starEach es env := by
  cases e <;> first | rfl | cases h
def isSet : Expr → Bool
  | .Set _ _ _ => true
  | _ => false
theorem folded_of {e : Expr} {env : PySem.Env} (h : isSet e = false) : ∀ x, foldedSetIterable e env x = pure x := by
  intro x
  cases e <;> first | rfl | cases h
theorem behind_of {op : CmpOp} {e : Expr} (h : isSet e = false) : behindInMarks op e = false := by
  cases e <;> first | rfl | cases h
def isSlice : Expr → Bool
  | .Slice _ _ _ _ => true
  | _ => false
theorem plainIx_of {e : Expr} (h : isSlice e = false) : PlainIx e := by
  intro o i
  cases e <;> first | rfl | cases h
def isComp : Expr → Bool
  | .ListComp _ _ _ _ => true
  | .SetComp _ _ _ _ => true
  | .DictComp _ _ _ _ _ => true
  | _ => false
theorem swaps_of {e : Expr} {t : Option Expr} {l : Nat} {env : PySem.Env} (h : isComp e = false) : swapsWith e t l env = pure false := by
  cases e <;> first | rfl | cases h
/-- a call without arguments of a name: super() looks so -/
def isCall0 : Expr → Bool
  | .Call (.Name _ _) [] [] _ => true
  | _ => false
theorem base_of {o : Expr} {m : Str} {env : PySem.Env} (h : isCall0 o = false) : attributeBase o m env (eval o env) = eval o env := by
  unfold attributeBase
  split
  · cases h
  · rfl
def stars : List Expr → Bool
  | [] => false
  | e :: es => isStar e || stars es
theorem starEach_plain {env : PySem.Env} : ∀ {es : List Expr}, stars es = false → (starEach es env).any (·.1) = false
  | [], _ => rfl
  | e :: es, h => by
    simp only [stars, Bool.or_eq_false_iff] at h
    rw [starEach_cons h.1, List.any_cons, starEach_plain h.2]
    rfl
theorem backTo_any {pos : Pos} : ∀ {l : List (Bool × Sem Value)}, (backTo pos l).any (·.1) = l.any (·.1)
  | [] => rfl
  | (b, t) :: l => by
    show (b || (backTo pos l).any (·.1)) = (b || l.any (·.1))
    rw [backTo_any]
theorem hpl_of {pos : Pos} {env : PySem.Env} {es : List Expr} (h : stars es = false) : (backTo pos (starEach es env)).any (·.1) = false := by
  rw [backTo_any]
  exact starEach_plain h
theorem backTo_all {pos : Pos} : ∀ {l : List (Bool × Sem Value)}, (backTo pos l).all (fun x => !x.1) = !(l.any (·.1))
  | [] => rfl
  | (b, t) :: l => by
    show (!b && (backTo pos l).all (fun x => !x.1)) = !(b || l.any (·.1))
    rw [backTo_all]
    cases b <;> rfl
theorem hfew_of {pos : Pos} {env : PySem.Env} {es : List Expr} (h : stars es = false) (hl : es.length < 30) : ((backTo pos (starEach es env)).all (fun x => !x.1) && (backToKw pos (keywordEach [] env)).all (fun x => x.1.isSome)
      && decide (es.length + ([] : List Keyword).length + (if ([] : List Keyword).isEmpty then 0 else 1) < 30)) = true := by
  rw [backTo_all, starEach_plain h]
  simp [keywordEach, backToKw, hl]
theorem isTrue_of {e : Expr} {env : PySem.Env} (h : (match e with
  | .UnaryOp .Not _ _ => false
  | .BoolOp _ _ _ => false
  | .IfExp _ _ _ _ => false
  | .Compare _ _ _ _ => false
  | _ => true) = true) : ∀ whole, isTrue e env whole = (do let v ← whole; standAt e.pos; holding [v] (truthy v)) := by
  intro whole
  cases e <;> first | rfl | (rename_i op _ _; cases op <;> first | rfl | cases h) | cases h

/-! ### targets -/
def visB (c : Ctx) (x : Str) : Bool := match c.names.lookup x with
  | some .local => true
  | some .cell => true
  | some .free => true
  | _ => false
def locB (c : Ctx) (x : Str) : Bool := match c.names.lookup x with
  | some .local => true
  | some .cell => c.fnb x
  | _ => false
def okNm (x : Str) : Bool := decide ((x == ("__debug__" : Str)) = false) && decide ((x == ("__classdict__" : Str)) = false) && decide (x ≠ "__name__")
/-- the slot of a name -/
def slot (c : Ctx) (x : Str) : Option Nat := match c.N.findIdx? (· == x) with
  | some i => if c.N[i]? = some x then some i else none
  | none => none
theorem slot_at {c : Ctx} {x : Str} {i : Nat} (h : slot c x = some i) : c.N[i]? = some x := by
  unfold slot at h
  split at h
  · split at h
    · cases h
      assumption
    · cases h
  · cases h
section
variable {cf : Cf} {W : WX} {k : Nat} {X : Cx} {c : Ctx}
theorem loc_of (S : Stat cf W k X c) {x : Str} (h : locB c x = true) : L2.Loc X.env.scope x ∧ (X.fn x = true ∨ X.env.scope.names.lookup x = some .local) := by
  unfold locB at h
  unfold L2.Loc
  rw [S.names]
  split at h
  · exact ⟨.inl (by assumption), .inr (by assumption)⟩
  · exact ⟨.inr (by assumption), .inl (S.fn x h)⟩
  · cases h
theorem vis_of (S : Stat cf W k X c) {x : Str} (h : visB c x = true) : Vis X.env.scope x := by
  unfold visB at h
  unfold Vis
  rw [S.names]
  split at h
  · exact .inl (by assumption)
  · exact .inr (.inl (by assumption))
  · exact .inr (.inr (by assumption))
  · cases h
def tgtNm (c : Ctx) : Expr → Option Nat
  | .Name x _ => if locB c x then slot c x else none
  | _ => none
def tgtNms (c : Ctx) : List Expr → Option (List Nat)
  | [] => some []
  | e :: es => match tgtNm c e, tgtNms c es with
    | some i, some is => some (i :: is)
    | _, _ => none
def cTgt (c : Ctx) : Expr → Option T
  | .Name x p => (tgtNm c (.Name x p)).map .nm
  | .Tuple es _ _ => if c.hot then none else (tgtNms c es).map .tp
  | _ => none
theorem tgtNm_ok (S : Stat cf W k X c) {e : Expr} {i : Nat} (h : tgtNm c e = some i) : PG X e (gName i) ∧ ∃ x p, e = .Name x p := by
  cases e with
  | Name x p =>
    simp only [tgtNm] at h
    split at h
    · rename_i hl
      obtain ⟨l, f⟩ := loc_of S hl
      exact ⟨pg_name S.nd (by rw [S.N]; exact slot_at h) l f, x, p, rfl⟩
    · cases h
  | _ => cases h
theorem tgtNms_ok (S : Stat cf W k X c) : ∀ {es : List Expr} {is : List Nat}, tgtNms c es = some is → PGs X es (gNs is) ∧ (assignEach es X.env).length = is.length ∧ (assignEach es X.env).findIdx? (·.1) = none
  | [], is, h => by
    cases h
    exact ⟨pgs_nil, rfl, rfl⟩
  | e :: es, is, h => by
    simp only [tgtNms] at h
    split at h
    · rename_i i js h1 h2
      cases h
      obtain ⟨g1, x, p, rfl⟩ := tgtNm_ok S h1
      obtain ⟨g2, l2, f2⟩ := tgtNms_ok S h2
      refine ⟨pgs_cons g1 g2, ?_, ?_⟩
      · show (assignEach es X.env).length + 1 = js.length + 1
        rw [l2]
      · show List.findIdx? (·.1) ((false, assign (.Name x p) X.env) :: assignEach es X.env) = none
        rw [List.findIdx?_cons, f2]
        rfl
    · cases h
theorem cTgt_ok (S : Stat cf W k X c) {e : Expr} {t : T} (h : cTgt c e = some t) : PG X e (gD cf t) := by
  cases e with
  | Name x p =>
    simp only [cTgt, Option.map_eq_some_iff] at h
    obtain ⟨i, h, rfl⟩ := h
    exact gd_name (tgtNm_ok S h).1
  | Tuple es kk p =>
    simp only [cTgt] at h
    split at h
    · cases h
    · rename_i hh
      simp only [Option.map_eq_some_iff] at h
      obtain ⟨is, h, rfl⟩ := h
      obtain ⟨g, l, f⟩ := tgtNms_ok S h
      exact gd_tup S.K (S.calm (by simpa using hh)) g l f
  | _ => cases h
end

/-! ### expressions, the parts given -/
structure Rec where
  e : Ctx → Bool → Expr → Option E
  t : Ctx → Expr → Option E
structure SndR (cf : Cf) (k : Nat) (r : Rec) : Prop where
  e : ∀ (W : WX) (X : Cx) (c : Ctx) (mm : Bool) (x : Expr) (x' : E), Stat cf W k X c → r.e c mm x = some x' → PE X x (TD cf W x')
  t : ∀ (W : WX) (X : Cx) (c : Ctx) (x : Expr) (x' : E), Stat cf W k X c → r.t c x = some x' → PT X x (TT cf W x')
def cArgs (r : Rec) (c : Ctx) (mm : Bool) : List Expr → Option (List E)
  | [] => some []
  | e :: es => if isStar e then none else match r.e c mm e, cArgs r c mm es with
    | some a, some as => some (a :: as)
    | _, _ => none
section
variable {cf : Cf} {W : WX} {k : Nat} {X : Cx} {c : Ctx} {r : Rec}
theorem cArgs_ok (S : Stat cf W k X c) (hr : SndR cf k r) {mm : Bool} : ∀ {es : List Expr} {es' : List E}, cArgs r c mm es = some es' → PA X es (TDs cf W es') ∧ stars es = false
  | [], _, h => by
    cases h
    exact ⟨pa_nilD, rfl⟩
  | e :: es, _, h => by
    simp only [cArgs] at h
    split at h
    · cases h
    · rename_i hs
      split at h
      · rename_i a as h1 h2
        cases h
        obtain ⟨p, s⟩ := cArgs_ok S hr h2
        have hs : isStar e = false := by simpa using hs
        exact ⟨pa_consD (hr.e W X c mm e a S h1) p (starEach_cons hs), by simp [stars, hs, s]⟩
      · cases h
/-- names -/
def cName (c : Ctx) (x : Str) : Option E := if okNm x then (if visB c x then (slot c x).map .v else if c.names.lookup x = some .globalImplicit then (c.gl.lookup x).map .c else none) else none
theorem okNm_of {x : Str} (h : okNm x = true) : (x == ("__debug__" : Str)) = false ∧ (x == ("__classdict__" : Str)) = false ∧ x ≠ "__name__" := by
  unfold okNm at h
  simp only [Bool.and_eq_true, decide_eq_true_eq] at h
  exact ⟨h.1.1, h.1.2, h.2⟩
theorem cName_ok (S : Stat cf W k X c) {x : Str} {p : Pos} {e' : E} (h : cName c x = some e') : PE X (.Name x p) (TD cf W e') := by
  unfold cName at h
  split at h
  · rename_i ok
    obtain ⟨o1, o2, o3⟩ := okNm_of ok
    split at h
    · rename_i hv
      simp only [Option.map_eq_some_iff] at h
      obtain ⟨i, h, rfl⟩ := h
      exact td_v (pe_var (by rw [S.N]; exact slot_at h) (vis_of S hv) o1 o2)
    · split at h
      · rename_i hg
        simp only [Option.map_eq_some_iff] at h
        obtain ⟨d, h, rfl⟩ := h
        obtain ⟨v, u, m, rv, rep⟩ := S.gl x d h
        exact td_c (pe_glob (show X.env.scope.names.lookup x = _ by rw [S.names]; exact hg) m rv o1) rep
      · cases h
  · cases h
theorem gl_of (S : Stat cf W k X c) {x : Str} (h : c.names.lookup x = some .globalImplicit) : Gl X x := by
  show X.env.scope.names.lookup x = _
  rw [S.names]
  exact h
theorem units_of (S : Stat cf W k X c) : X.A.units + 65 < cLine := by
  have := S.roomU.un
  omega
/-- operators -/
def opPr : Operator → Option Pr
  | .Add => some .add
  | .Sub => some .sub
  | .Mult => some .mul
  | .FloorDiv => some .fdiv
  | .Mod => some .mod
  | .Pow => some .pow
  | _ => none
theorem op_ok (S : Stat cf W k X c) {op : Operator} {p : Pr} (h : opPr op = some p) {a b : Expr} {a' b' : E} {pos : Pos} (ha : PE X a (TD cf W a')) (hb : PE X b (TD cf W b')) : PE X (.BinOp a op b pos) (TD cf W (.pr p [a', b'])) := by
  have go : OpR X (binaryOp op) (rP2 X.K (pr p)) → PE X (.BinOp a op b pos) (TD cf W (.pr p [a', b'])) := fun ho => td_op2 (fun ha hb => by rw [← S.K]; exact pe_op ho ha hb) ha hb
  cases op <;> first | cases h | skip
  · exact go so_add
  · exact go so_sub
  · exact go so_mul
  · exact go so_mod
  · exact go so_pow
  · exact go so_fdiv
def cmpPr : CmpOp → Option Pr
  | .Eq => some .eq
  | .NotEq => some .ne
  | .Lt => some .lt
  | .LtE => some .le
  | .Gt => some .gt
  | .GtE => some .ge
  | .In => some .in_
  | .NotIn => some .notIn
  | _ => none
theorem cmp_bl {op : CmpOp} {p : Pr} (h : cmpPr op = some p) : ∀ M ds d M', pr p M ds = some (d, M') → ∃ b, d = .bl b := by
  intro M ds d M' e
  have ok : ∀ {b : Bool} {M1 : Mem}, okB b M1 = some (d, M') → ∃ b, d = .bl b := fun e => by cases e; exact ⟨_, rfl⟩
  cases op <;> cases h <;> simp only [pr] at e
  all_goals first
    | (simp only [prEq] at e; repeat' split at e) <;> first | exact ok e | cases e
    | (simp only [prNe] at e; repeat' split at e) <;> first | exact ok e | cases e
    | (simp only [prCmp] at e; repeat' split at e) <;> first | exact ok e | cases e
    | (simp only [prIn] at e; repeat' split at e) <;> first | exact ok e | cases e
    | (simp only [prNotIn] at e; repeat' split at e) <;> first | exact ok e | cases e
theorem cmp_op (S : Stat cf W k X c) {op : CmpOp} {p : Pr} (h : cmpPr op = some p) : OpR X (compareOp op) (rP2 cf.K (pr p)) := by
  have hu := units_of S
  rw [← S.K]
  cases op <;> first | cases h | skip
  · exact so_eq (by omega)
  · exact so_ne (by omega)
  · exact so_cmp op_lt
  · exact so_cmp op_le
  · exact so_cmp op_gt
  · exact so_cmp op_ge
  · exact so_in hu
  · exact so_notIn hu
end
end DP

/-! DP.Repl: o.replace(y, z, 1) if w in t else b: the written text w has given out a token. -/
namespace DP
open PySem PySem.Spec PyProof.Rows L2
variable [ClsMap]
open Builtin Builtin.Str in
theorem gives_repl1 (x y z : Str) (t u v k : Tok) (hu : u ≠ 0) (hv : v ≠ 0) (huv : u ≠ v) (hyz : (y == z) = false) (hl : x.length + (Builtin.Str.occurrences x y 0 x.length 1).length * z.length ≤ sizeLine) :
    Gives (Builtin.«str.replace» ⟨[.str x t, .str y u, .str z v, .int 1 k], []⟩) (if ((Builtin.Str.occurrences x y 0 x.length 1).isEmpty || (y.length == 0 && z.length == 0)) = true then .val (.str x t) else .str (Builtin.Str.glued z (Builtin.Str.partsBetween x (Builtin.Str.occurrences x y 0 x.length 1) y.length))) := by
  show Gives (if ((Builtin.Str.occurrences x y 0 x.length 1).isEmpty || (y.length == 0 && z.length == 0)) = true then (do rule "str.replace.nothing"; ret (.str x t)) else
          (do let same ← isSame (.str y u) (.str z v)
              if same = true then (do rule "str.replace.old-is-new"; ret (.str x t)) else
              if tooLong (x.length + (Builtin.Str.occurrences x y 0 x.length 1).length * z.length) = true then unsupported "str.replace:memory" else
              retStr (Builtin.Str.glued z (Builtin.Str.partsBetween x (Builtin.Str.occurrences x y 0 x.length 1) y.length)))) _
  cases hc : ((Builtin.Str.occurrences x y 0 x.length 1).isEmpty || (y.length == 0 && z.length == 0))
  · rw [isSame_str_other y z u v (by simp [hu, hv]) (by simpa using huv) hyz, show tooLong (x.length + (Builtin.Str.occurrences x y 0 x.length 1).length * z.length) = false from decide_eq_false (by omega)]
    exact .of_eq rfl
  · exact .rule (.of_eq rfl)
section
variable {X : Cx} {cf : Cf} {W : WX} {t o b : Expr} {t' o' b' : E} {w y z : Str} {j0 j1 j2 j3 : Nat} {p0 p1 p2 p3 p4 ap cp pos : Pos}
theorem td_repl1 (hK : X.K = cf.K) (hu : X.A.units + 65 < cLine) (ht : PE X t (TD cf W t')) (ho : PE X o (TD cf W o')) (hb : PE X b (TD cf W b')) (hs : isSet t = false) (h0 : isCall0 o = false) (hline : (ap.endLine == cp.line) = true) :
    PE X (.IfExp (.Compare (.Constant (.str w) j0 p0) [.In] [t] p1) (.Call (.Attribute o "replace" ap) [.Constant (.str y) j1 p2, .Constant (.str z) j2 p3, .Constant (.int 1) j3 p4] [] cp) b pos)
      (TD cf W (.ite (.pr .in_ [.c (.str w), t']) (.pr .repl1 [o', .c (.str y), .c (.str z)]) b')) := by
  constructor
  intro pins s σ H Q I ⟨g, env, M, R, RE, q⟩
  have I1 := I.tok (s.toks + 1)
  have e1 : ev cf.call (.ite (.pr .in_ [.c (.str w), t']) (.pr .repl1 [o', .c (.str y), .c (.str z)]) b') env M = (ev cf.call t' env M).bind fun d2 M2 => (ofP (pr .in_ M2 [.str w, d2])).bind fun d M1 => match truth M1 d with
      | some true => (ev cf.call o' env M1).bind fun d3 M3 => ofP (pr .repl1 M3 [d3, .str y, .str z])
      | some false => ev cf.call b' env M1
      | none => .bad := by
    rw [ev, ev_pr2]
    simp only [ev, evs, Res.bind]
    cases ev cf.call t' env M with
    | bad => rfl
    | exc x M2 => rfl
    | ok d2 M2 =>
      simp only
      cases ofP (pr .in_ M2 [.str w, d2]) with
      | bad => rfl
      | exc x M2 => rfl
      | ok d M1 =>
        simp only
        cases truth M1 d with
        | none => rfl
        | some bo => cases bo with
          | false => rfl
          | true =>
            simp only
            cases ev cf.call o' env M1 <;> rfl
  rw [e1] at q
  have run_t := ht.run pins { s with toks := s.toks + 1 } σ H (fun v H1 => ∃ g1 M1 d1, RelM cf.K g1 M1 H1 ∧ RelE cf.K g1 env σ ∧ Rep cf.K g1 v d1 ∧ Post cf W g1 H1 σ ((ofP (pr .in_ M1 [.str w, d1])).bind fun d M1 => match truth M1 d with
      | some true => (ev cf.call o' env M1).bind fun d3 M3 => ofP (pr .repl1 M3 [d3, .str y, .str z])
      | some false => ev cf.call b' env M1
      | none => .bad) fun d _ g' H' => ∀ v, Rep cf.K g' v d → Q v H') I1 ⟨g, env, M, R, RE, q.bind.imp fun d1 M1 g1 H1 st1 R1 q1 v rv => ⟨g1, M1, d1, R1, RE.mono st1.le, rv, q1⟩⟩
  refine wpAny_IfExp (wpAny_isTrue_Compare1 (Calls.Constant_str (PySem.wpAny_with_toks (n := s.toks + 1) (Nat.le_refl _) (wpAny_mono run_t (fun v s1 h1 k1 => ?_) fun _ _ h _ => h))) (behind_of hs))
  obtain ⟨x, H1, I1, r1, g1, M1, d1, R1, RE1, rv, q1⟩ := h1
  have run_in := so_in hu pins s1 σ H1 (.str w) x (.str w s.toks) v (fun c H2 => ∃ g2 M2 bo, c = .bl bo ∧ RelM cf.K g2 M2 H2 ∧ RelE cf.K g2 env σ ∧ Post cf W g2 H2 σ (match some bo with
      | some true => (ev cf.call o' env M2).bind fun d3 M3 => ofP (pr .repl1 M3 [d3, .str y, .str z])
      | some false => ev cf.call b' env M2
      | none => .bad) fun d _ g' H' => ∀ v, Rep cf.K g' v d → Q v H') I1 ⟨_, rfl⟩ r1 (by
    rw [hK]
    refine ⟨g1, M1, [.str w, d1], R1, .cons (.str w) (.cons rv .nil), ?_⟩
    have q2 := q1.bind
    simp only [pr] at q2
    cases hp : prIn M1 [.str w, d1] with
    | none => rw [hp] at q2; exact q2
    | some dm =>
      obtain ⟨d, M2⟩ := dm
      rw [hp] at q2
      obtain ⟨bo, rfl⟩ : ∃ bo, d = .bl bo := by
        unfold prIn at hp
        split at hp
        · cases hp
          exact ⟨_, rfl⟩
        · cases hp
      intro g2 v2 H2 st2 R2 r2
      cases r2
      exact ⟨g2, M2, bo, rfl, R2, RE1.mono st2.le, q2 g2 H2 st2 R2⟩)
  refine PySem.wpAny_with_toks (n := s.toks + 1) k1 (wpAny_mono run_in (fun c s2 h2 k2 => ?_) fun _ _ h _ => h)
  obtain ⟨c', H2, I2, rc, g2, M2, bo, rfl, R2, RE2, q2⟩ := h2
  cases rc
  refine wpAny_truthy_bool ?_
  cases bo with
  | false =>
    exact hb.run pins s2 σ H2 Q I2 ⟨g2, env, M2, R2, RE2, q2⟩
  | true =>
    have q2 : Post cf W g2 H2 σ ((ev cf.call o' env M2).bind fun d3 M3 => ofP (pr .repl1 M3 [d3, .str y, .str z])) fun d _ g' H' => ∀ v, Rep cf.K g' v d → Q v H' := q2
    have run_o := ho.run pins s2 σ H2 (fun v H3 => ∃ g3 M3 x, v = .str x ∧ RelM cf.K g3 M3 H3 ∧ PostP cf.K g3 H3 (prRepl1 M3 [.str x, .str y, .str z]) Q) I2 ⟨g2, env, M2, R2, RE2, q2.bind.imp fun d3 M3 g3 H3 st3 R3 q3 v rv => by
      have q4 := q3.ofP
      simp only [pr] at q4
      cases rv with
      | str x => exact ⟨g3, M3, x, rfl, R3, q4⟩
      | _ => exact False.elim q4⟩
    refine PySem.wpAny_Call_method_lateS (base_of h0) rfl hline (PySem.wpAny_with_toks (n := s.toks + 1) k2 (wpAny_mono run_o (fun v s3 h3 k3 => ?_) fun _ _ h _ => h))
    obtain ⟨v', H3, I3, r3, g3, M3, x, rfl, R3, q3⟩ := h3
    obtain ⟨tx, rfl⟩ := r3
    refine ⟨"str", _, PySem.F.plainAttrs_str, PySem.F.slot_str_replace, PySem.F.type_str_replace, typeIs_str _ _ _, (fun _ e => nomatch e), Calls.callWith_builtin rfl (Calls.evalArgs_plain (Calls.spliced_cons ?_))⟩
    refine Calls.Constant_str (k := j1) (pos := p2) (Calls.spliced_cons (Calls.Constant_str (k := j2) (pos := p3) (Calls.spliced_cons (wpAny_Constant_int (k := j3) (pos := p4) (Calls.spliced_nil ?_)))))
    dsimp only [prRepl1] at q3
    by_cases hc : (y == z) = false ∧ x.length + (Builtin.Str.occurrences x y 0 x.length 1).length * z.length ≤ sizeLine ∧ (repl1 x y z).length ≤ sizeLine
    · rw [if_pos hc] at q3
      obtain ⟨hyz, hl, hz⟩ := hc
      refine call_gives PySem.F.slot_str_replace (typeIs_str _ _ _) PySem.F.entry_str_replace (PySem.F.args_str_replace_4 _ _ _ _) (gives_repl1 x y z tx s3.toks (s3.toks + 1) _ (by show s3.toks ≠ 0; omega) (by show s3.toks + 1 ≠ 0; omega) (by show s3.toks ≠ s3.toks + 1; omega) hyz hl) ?_
      have fin : ∀ t' k, EP X pins σ Q (.str (repl1 x y z) t') { s3 with toks := k } := fun t' k => ⟨.str (repl1 x y z), H3, I3.tok k, ⟨t', rfl⟩, q3.here R3 (.str _)⟩
      unfold repl1 at fin hz
      split
      · rename_i h1
        simp only [h1, if_true] at fin
        exact fin _ _
      · rename_i h1
        rw [if_neg h1] at hz
        refine ⟨hz, ?_⟩
        have f2 := fun t' k => fin t' k
        simp only [if_neg h1] at f2
        exact f2 _ _
    · rw [if_neg hc] at q3
      exact False.elim q3
end
end DP

/-! DP.Raise2: raise C(e, ..) out of what stands fast of the class. -/
namespace DP
open PySem PySem.Spec PyProof.Rows L2 NdefX
variable [ClsMap]
theorem passes_false {X : Cx} : Passes (L2.CX X.prog X.w) X (fun _ _ _ => False) := fun _ _ _ _ _ _ _ ⟨_, _, _, _, _, _, _, _, _, _, _, _, z⟩ => z.elim
section
variable {cf : Cf} {W : WX} {k : Nat} {X : Cx} {c : Ctx}
theorem ts_raise_cls (S : Stat cf W k X c) (hh : c.hot = false) {es : List Expr} {e : Expr} {es' : List E} {x : Str} {p pos pos' : Pos} {C : Addr} {cn m : Nat} {r : List (Str × Nat)} (ok : ClsK X.prog X.w X.K X.mg X.base ClsMap.m x cn m r C) (hg : Gl X x) (hdb : (x == ("__debug__" : Str)) = false)
    (ha : PA X (e :: es) (TDs cf W es')) (hs : stars (e :: es) = false) : PS X (.Raise (some (.Call (.Name x p) (e :: es) [] pos')) none pos) (TSt cf W (.raise cn m r es')) := by
  obtain ⟨fI, fd, ps, N, i1, i2, F1, hb⟩ := ok.ini
  simp only [stars, Bool.or_eq_false_iff] at hs
  exact ts_raise (N := N) (S.calm hh) S.takes ok.few ok.num (pmk_oex ok.cls i1 i2 F1 ((S.room hh).mono S.two) hb .nil passes_false hg ok.nam ha hdb (starEach_cons hs.1) (hpl_of hs.2))
end
end DP

/-! DP.Compile2: calls, methods, comprehensions, the step. -/
namespace DP
open PySem PySem.Spec PyProof.Rows L2
variable [ClsMap]
section
variable {cf : Cf} {W : WX} {k : Nat} {X : Cx} {c : Ctx} {r : Rec}
/-! ### calls of own defs -/
theorem td_call0 {x : Str} {p pos : Pos} {f : Nat} {k : Nat} {fa : Addr} {fd : FuncData} {ps : List Str} (F : FnOk X.prog X.w X.K X.mg X.base (L2.CX X.prog X.w) k fa fd ps (spOf cf f)) (hr : Room k X.A) (hg : Gl X x)
    (hm : X.mg x = some (.ref fa)) (hk : PySem.W.keepIn X.K (.ref fa) = true) (hb : Binds X.K fd ps []) (tk : Takes X W) (hdb : (x == ("__debug__" : Str)) = false) : PE X (.Call (.Name x p) [] [] pos) (TD cf W (.call f [])) := by
  refine ⟨fun pins s σ H Q I h => ?_⟩
  refine wpAny_Call_Name_kw (ld_glob I hg hm ?_ hdb)
  refine PySem.W.callWith_K0 I.kIn hk (run_fnSD (us := []) (vs := []) (dvs := []) (E := WE W) F hr hb .nil (passAt tk σ) I .nil ?_)
  obtain ⟨g, env, M, R, RE, q⟩ := h
  rw [ev] at q
  simp only [evs, Res.bind] at q
  refine ⟨g, M, [], R, .nil, ?_⟩
  cases h : cf.call f [] M with
  | bad => rw [h] at q; exact q
  | exc x M2 => rw [h] at q; exact q
  | ok d M2 => rw [h] at q; exact q
/-- built-ins with plain arguments -/
def bltPr (x : Str) (n : Nat) : Option Pr :=
  if x = "len" ∧ n = 1 then some .len else if x = "int" ∧ n = 1 then some .int_ else if x = "str" ∧ n = 1 then some .str_ else if x = "abs" ∧ n = 1 then some .abs else
  if x = "sum" ∧ n = 1 then some .sum else if x = "all" ∧ n = 1 then some .all else if x = "any" ∧ n = 1 then some .any else if x = "tuple" ∧ n = 1 then some .tuple_ else
  if x = "list" ∧ n = 1 then some .list_ else if x = "min" ∧ n = 2 then some .min2 else if x = "max" ∧ n = 2 then some .max2 else none
/-- those that walk -/
def hotOk (c : Ctx) (x : Str) : Bool := !c.hot || !(x == ("sum" : Str) || x == ("all" : Str) || x == ("any" : Str) || x == ("min" : Str) || x == ("max" : Str))
theorem blt_ok (S : Stat cf W k X c) {x : Str} {p : Pr} {a : Expr} {es : List Expr} {es' : List E} {q pos : Pos} (h : bltPr x (a :: es).length = some p) (hh : hotOk c x = true) (hg : Gl X x) (ha : PA X (a :: es) (TDs cf W es')) (hs : stars (a :: es) = false) :
    PE X (.Call (.Name x q) (a :: es) [] pos) (TD cf W (.pr p es')) := by
  simp only [stars, Bool.or_eq_false_iff] at hs
  have he := starEach_cons (env := X.env) (es := es) hs.1
  have hp : ∀ pos, (backTo pos (starEach es X.env)).any (·.1) = false := fun pos => hpl_of hs.2
  have bi : ∀ {id : String}, CallR X (.builtin id) (rP X.K (pr p)) → X.mg x = none → bootBuiltins x = some (.builtin id) → x ≠ "__name__" → (x == ("__debug__" : Str)) = false → PE X (.Call (.Name x q) (a :: es) [] pos) (TD cf W (.pr p es')) := fun hc hm hv hn hd =>
    td_args (es := a :: es) (by rw [← S.K]; exact pe_callB hc hg hm hv ha hn hd he (hp _))
  have ty : ∀ {id : String}, CallR X (.type id) (rP X.K (pr p)) → X.mg x = none → bootBuiltins x = some (.type id) → x ≠ "__name__" → (x == ("__debug__" : Str)) = false → PE X (.Call (.Name x q) (a :: es) [] pos) (TD cf W (.pr p es')) := fun hc hm hv hn hd =>
    td_args (es := a :: es) (by rw [← S.K]; exact pe_callTy hc hg hm hv ha hn hd he (hp _))
  have bt := S.blt
  have cl : x = "sum" ∨ x = "all" ∨ x = "any" ∨ x = "min" ∨ x = "max" → X.calm = true := fun q => S.calm (by
    unfold hotOk at hh
    rcases q with rfl | rfl | rfl | rfl | rfl <;> simpa using hh)
  unfold bltPr at h
  repeat' split at h
  all_goals first | (rename_i e; obtain ⟨rfl, _⟩ := e; cases h) | cases h
  · exact bi so_len (bt _ (by decide +kernel)) (by decide +kernel) (by decide +kernel) (by decide +kernel)
  · exact ty so_int (bt _ (by decide +kernel)) (by decide +kernel) (by decide +kernel) (by decide +kernel)
  · exact ty so_str (bt _ (by decide +kernel)) (by decide +kernel) (by decide +kernel) (by decide +kernel)
  · exact bi so_abs (bt _ (by decide +kernel)) (by decide +kernel) (by decide +kernel) (by decide +kernel)
  · exact bi (so_sum (cl (by simp))) (bt _ (by decide +kernel)) (by decide +kernel) (by decide +kernel) (by decide +kernel)
  · exact bi (so_all (cl (by simp))) (bt _ (by decide +kernel)) (by decide +kernel) (by decide +kernel) (by decide +kernel)
  · exact bi (so_any (cl (by simp))) (bt _ (by decide +kernel)) (by decide +kernel) (by decide +kernel) (by decide +kernel)
  · exact ty so_tuple (bt _ (by decide +kernel)) (by decide +kernel) (by decide +kernel) (by decide +kernel)
  · exact ty so_list (bt _ (by decide +kernel)) (by decide +kernel) (by decide +kernel) (by decide +kernel)
  · exact bi (so_min2 (cl (by simp))) (bt _ (by decide +kernel)) (by decide +kernel) (by decide +kernel) (by decide +kernel)
  · exact bi (so_max2 (cl (by simp))) (bt _ (by decide +kernel)) (by decide +kernel) (by decide +kernel) (by decide +kernel)
/-- isinstance(x, T) -/
def instTy (x : Str) : Option String :=
  if x = "bool" then some "bool" else if x = "int" then some "int" else if x = "str" then some "str" else if x = "dict" then some "dict" else if x = "tuple" then some "tuple" else if x = "list" then some "list" else none
theorem inst_ok (S : Stat cf W k X c) {t : Str} {u : String} {a : Expr} {a' : E} {p q pos : Pos} (h : instTy t = some u) (hg : Gl X "isinstance") (hgt : Gl X t) (ha : PE X a (TD cf W a')) (hs : isStar a = false) :
    PE X (.Call (.Name "isinstance" p) [a, .Name t q] [] pos) (TD cf W (.pr (.isinst u) [a'])) := by
  have bt := S.blt
  have ht : X.mg t = none ∧ bootBuiltins t = some (.type u) ∧ t ≠ "__name__" ∧ (t == ("__debug__" : Str)) = false := by
    unfold instTy at h
    repeat' split at h
    all_goals first | (rename_i e; subst e; cases h) | cases h
    all_goals exact ⟨bt _ (by decide +kernel), by decide +kernel, by decide +kernel, by decide +kernel⟩
  obtain ⟨t1, t2, t3, t4⟩ := ht
  have pt : PE X (.Name t q) (tC (.ty u)) := pe_bltn hgt t1 t2 rfl t3 t4
  refine pe_weak (pe_callB (so_isinst (t := u)) hg (bt _ (by decide +kernel)) (by decide +kernel) (pa_cons ha (pa_cons pt pa_nil rfl) (starEach_cons hs)) (by decide +kernel) (by decide +kernel) (starEach_cons hs) rfl) fun σ H Q ⟨g, env, M, R, RE, q⟩ => ?_
  rw [ev_pr1] at q
  rw [S.K]
  exact ⟨g, env, M, R, RE, q.bind.imp fun d M1 g1 H1 st1 R1 q1 x rx => ⟨x, rfl, g1, M1, [d], R1, .cons rx .nil, q1.ofP⟩⟩
/-! ### methods -/
def methPr (m : Str) : Option (Pr × String) :=
  if m = "append" then some (.append, "list") else if m = "join" then some (.join, "str") else if m = "split" then some (.split, "str") else
  if m = "removesuffix" then some (.rmsuf, "str") else if m = "removeprefix" then some (.rmpre, "str") else if m = "strip" then some (.strip, "str") else none
theorem meth_ok (S : Stat cf W k X c) {m : Str} {p : Pr} {t : String} (h : methPr m = some (p, t)) {o e : Expr} {es : List Expr} {o' e' : E} {es' : List E} {ap cp : Pos} (ho : PE X o (TD cf W o')) (ha : PA X (e :: es) (TDs cf W (e' :: es')))
    (hb : isCall0 o = false) (hs : stars (e :: es) = false) (hn : (e :: es).length < 30) (hl : (ap.endLine == cp.line) = true) : PE X (.Call (.Attribute o m ap) (e :: es) [] cp) (TD cf W (.meth p t o' (e' :: es'))) := by
  have hs' := hs
  simp only [stars, Bool.or_eq_false_iff] at hs'
  have he := starEach_cons (env := X.env) (es := es) hs'.1
  have go : ∀ {id : String}, PlainAttrs t → Slot t m id → typeOf (.builtin id) = pure (.type "method_descriptor") → MtR X id (rM X.K (pr p)) → t = "str" ∨ t = "list" → PE X (.Call (.Attribute o m ap) (e :: es) [] cp) (TD cf W (.meth p t o' (e' :: es'))) :=
    fun pa sl ty hm ht => td_meth S.K pa sl ty hm ht ho ha (base_of hb) (hfew_of hs hn) hl he (hpl_of hs'.2)
  unfold methPr at h
  repeat' split at h
  all_goals first | (rename_i e; subst e; cases h) | cases h
  · exact go PySem.F.plainAttrs_list PySem.F.slot_list_append PySem.F.type_list_append so_append (.inr rfl)
  · exact go PySem.F.plainAttrs_str PySem.F.slot_str_join PySem.F.type_str_join so_join (.inl rfl)
  · exact go PySem.F.plainAttrs_str PySem.F.slot_str_split PySem.F.type_str_split so_split (.inl rfl)
  · exact go PySem.F.plainAttrs_str PySem.F.slot_str_removesuffix PySem.F.type_str_removesuffix so_rmsuf (.inl rfl)
  · exact go PySem.F.plainAttrs_str PySem.F.slot_str_removeprefix PySem.F.type_str_removeprefix so_rmpre (.inl rfl)
  · exact go PySem.F.plainAttrs_str PySem.F.slot_str_strip PySem.F.type_str_strip so_strip2 (.inl rfl)
/-! ### sources -/
def cSrc (r : Rec) (c : Ctx) (tg it : Expr) : Option (SrcK × List E) := match it with
  | .Call (.Name x p) [a] [] pos => if x = "range" ∧ c.names.lookup x = some .globalImplicit ∧ isStar a = false then (r.e c false a).map fun a' => (.rng1, [a'])
      else if x = "enumerate" ∧ c.names.lookup x = some .globalImplicit ∧ isStar a = false then (match tg with
        | .Tuple _ _ _ => (r.e c false a).map fun a' => (.enum, [a'])
        | _ => none)
      else (r.e c false (.Call (.Name x p) [a] [] pos)).map fun a' => (.seq, [a'])
  | .Call (.Name x p) [a, b] [] pos => if x = "range" ∧ c.names.lookup x = some .globalImplicit ∧ isStar a = false ∧ isStar b = false then (match r.e c false a, r.e c false b with
      | some a', some b' => some (.rng2, [a', b'])
      | _, _ => none)
      else (r.e c false (.Call (.Name x p) [a, b] [] pos)).map fun a' => (.seq, [a'])
  | e => (r.e c false e).map fun a' => (.seq, [a'])
theorem cSrc_ok (S : Stat cf W k X c) (hr : SndR cf k r) {tg it : Expr} {kk : SrcK} {src : List E} (h : cSrc r c tg it = some (kk, src)) : PI X tg it (TSrc cf W kk src) := by
  have bt := S.blt
  have seq : ∀ {e : Expr}, (r.e c false e).map (fun a' => (SrcK.seq, [a'])) = some (kk, src) → PI X tg e (TSrc cf W kk src) := by
    intro e h0
    simp only [Option.map_eq_some_iff] at h0
    obtain ⟨a', h1, e2⟩ := h0
    cases e2
    exact src_seq S.K (hr.e W X c false _ a' S h1)
  unfold cSrc at h
  split at h
  · split at h
    · rename_i q
      obtain ⟨rfl, hg, hs⟩ := q
      simp only [Option.map_eq_some_iff] at h
      obtain ⟨a', h, e⟩ := h
      cases e
      exact src_rng1 (gl_of S hg) (bt _ (by decide +kernel)) (pa_consD (hr.e W X c false _ a' S h) pa_nilD (starEach_cons hs)) (starEach_cons hs)
    · split at h
      · rename_i q
        obtain ⟨rfl, hg, hs⟩ := q
        split at h
        · simp only [Option.map_eq_some_iff] at h
          obtain ⟨a', h, e⟩ := h
          cases e
          exact src_enum S.K (gl_of S hg) (bt _ (by decide +kernel)) (pa_consD (hr.e W X c false _ a' S h) pa_nilD (starEach_cons hs)) (starEach_cons hs)
        · cases h
      · exact seq h
  · split at h
    · rename_i q
      obtain ⟨rfl, hg, hs, hs2⟩ := q
      split at h
      · rename_i a' b' h1 h2
        cases h
        exact src_rng2 (gl_of S hg) (bt _ (by decide +kernel)) (pa_consD (hr.e W X c false _ a' S h1) (pa_consD (hr.e W X c false _ b' S h2) pa_nilD (starEach_cons hs2)) (starEach_cons hs)) (by rw [starEach_cons hs, starEach_cons hs2]; rfl) (starEach_cons hs2)
      · cases h
    · exact seq h
  · exact seq h
/-! ### comprehensions -/
def Ctx.blk (c : Ctx) (scope : Scope) : Ctx := { c with names := scope.names.map (fun (n, k) => if (k == .free && c.names.lookup n == some .cell) then (n, .cell) else (n, k)), fnb := fun x => scope.names.lookup x == some .cell, mutN := [], retM := false, retF := false }
def ownOf (c : Ctx) (scope : Scope) : List (Str × Nat) := scope.names.filterMap fun (n, k) => if k == .local || k == .cell then (slot c n).map fun i => (n, i) else none
def scOf (c : Ctx) : Scope := { kind := .function, names := c.names, isGenerator := false, isCoroutine := false }
theorem blk_stat (S : Stat cf W k X c) {scope : Scope} (hk : scope.kind = .function) (s : Shared) (H : Hp) (C : Addr) (cl : List (Str × Addr)) (fp : List Addr) : Stat cf W0 k (X.blk s H scope (compEnvC scope cl C X.env) fp) (c.blk scope) where
  N := S.N
  nd := S.nd
  cls := S.cls
  two := S.two
  names := by
    show (relabel scope X.env).names = _
    unfold relabel Ctx.blk
    simp only [S.kind, PySem.Env.kindOf, S.names]
    congr 1
    funext ⟨n, k⟩
    simp
  kind := hk
  fn := fun x h => h
  K := S.K
  calm := S.calm
  room := S.room
  roomU := S.roomU
  fnu := S.fnu
  ist := S.ist
  ecl := S.ecl
  takes := fun u s' ⟨_, _, _, _, _, _, _, _, _, _, _, _, _, _, _, _, w⟩ => w
  gl := S.gl
  fns := S.fns
  blt := S.blt
def cComp (r : Rec) (c : Ctx) (mm : Bool) (elt tg iter : Expr) (ifs : List Expr) (scope : Scope) : Option E :=
  if blkC c.N (scOf c) scope (ownOf c scope) = true ∧ isSet iter = false ∧ c.hot = false then
    match cTgt (c.blk scope) tg, cSrc r c tg iter, r.e (c.blk scope) false elt with
    | some t, some (k, src), some el => if t.slots.all (fun i => ((ownOf c scope).map (·.2)).contains i) = true then (match ifs with
        | [] => some (.comp mm ((ownOf c scope).map (·.2)) t k src none el)
        | [f] => (r.t (c.blk scope) f).map fun f' => .comp mm ((ownOf c scope).map (·.2)) t k src (some f') el
        | _ => none) else none
    | _, _, _ => none
  else none
/-- what a comprehension's rule wants -/
structure CompOk (cf : Cf) (W : WX) (k : Nat) (X : Cx) (elt tg iter : Expr) (ifs : List Expr) (scope : Scope) (own : List (Str × Nat)) (t : T) (kk : SrcK) (src : List E) (cond : Option E) (el : E) : Prop where
  hi : PI X tg iter (TSrc cf W kk src)
  ok : BlkOk X.N X.env.scope scope own
  ho : ∀ i ∈ t.slots, i ∈ own.map (·.2)
  hg : ∀ (s : Shared) (H : Hp) (C : Addr) (cl : List (Str × Addr)) (fp : List Addr), PG (X.blk s H scope (compEnvC scope cl C X.env) fp) tg (gD cf t)
  ht : ∀ (s : Shared) (H : Hp) (C : Addr) (cl : List (Str × Addr)) (fp : List Addr), PTs (X.blk s H scope (compEnvC scope cl C X.env) fp) ifs (tC' cf cond)
  he : ∀ (s : Shared) (H : Hp) (C : Addr) (cl : List (Str × Addr)) (fp : List Addr), PE (X.blk s H scope (compEnvC scope cl C X.env) fp) elt (TD cf W0 el)
  hs : ∀ x, foldedSetIterable iter X.env x = pure x
  calm : X.calm = true
theorem cComp_ok (S : Stat cf W k X c) (hr : SndR cf k r) {mm : Bool} {elt tg iter : Expr} {ifs : List Expr} {scope : Scope} {e' : E} (h : cComp r c mm elt tg iter ifs scope = some e') :
    ∃ t kk src cond el, e' = .comp mm ((ownOf c scope).map (·.2)) t kk src cond el ∧ CompOk cf W k X elt tg iter ifs scope (ownOf c scope) t kk src cond el := by
  unfold cComp at h
  split at h
  · rename_i q
    obtain ⟨hb, hs, hh⟩ := q
    have b0 := blkOk_by hb
    have hk := b0.kind
    have ok : BlkOk X.N X.env.scope scope (ownOf c scope) := ⟨b0.kind, b0.uniq, by rw [S.N]; exact b0.ix, by rw [S.names]; exact b0.free, by rw [S.N]; exact b0.own⟩
    split at h
    · rename_i t kk src el h1 h2 h3
      split at h
      · rename_i hall
        have ho : ∀ i ∈ t.slots, i ∈ (ownOf c scope).map (·.2) := fun i hi => by simpa using (List.all_eq_true.mp hall i hi)
        have base : ∀ cond, (∀ (s : Shared) (H : Hp) (C : Addr) (cl : List (Str × Addr)) (fp : List Addr), PTs (X.blk s H scope (compEnvC scope cl C X.env) fp) ifs (tC' cf cond)) → CompOk cf W k X elt tg iter ifs scope (ownOf c scope) t kk src cond el := fun cond ht =>
          ⟨cSrc_ok S hr h2, ok, ho, fun s H C cl fp => cTgt_ok (blk_stat S hk s H C cl fp) h1, ht, fun s H C cl fp => hr.e W0 _ _ false elt el (blk_stat S hk s H C cl fp) h3, folded_of hs, S.calm hh⟩
        split at h
        · cases h
          exact ⟨t, kk, src, none, el, rfl, base none fun s H C cl fp => pts_nil⟩
        · rename_i f
          simp only [Option.map_eq_some_iff] at h
          obtain ⟨f', h4, e⟩ := h
          cases e
          exact ⟨t, kk, src, some f', el, rfl, base (some f') fun s H C cl fp => pts_one (hr.t W0 _ _ f f' (blk_stat S hk s H C cl fp) h4)⟩
        · cases h
      · cases h
    · cases h
  · cases h
end
end DP

/-! DP.Compile3: the step for expressions and tests, statements, defs. -/
namespace DP
open PySem PySem.Spec PyProof.Rows L2
variable [ClsMap]
/-! ### expressions -/
def cBoolE (r : Rec) (c : Ctx) (op : BoolOp) : List Expr → Option E
  | [] => none
  | [a] => r.e c false a
  | a :: b :: rest => match r.e c false a, cBoolE r c op (b :: rest) with
    | some a', some b' => some (match op with
      | .And => .and_ a' b'
      | .Or => .or_ a' b')
    | _, _ => none
def cBoolT (r : Rec) (c : Ctx) (op : BoolOp) : List Expr → Option E
  | [] => none
  | [a] => r.t c a
  | a :: b :: rest => match r.t c a, cBoolT r c op (b :: rest) with
    | some a', some b' => some (match op with
      | .And => .and_ a' b'
      | .Or => .or_ a' b')
    | _, _ => none
/-- the parts of an f-string -/
def cFs (r : Rec) (c : Ctx) : List Expr → Option (List E)
  | [] => some []
  | .Constant (.str s) _ _ :: rest => (cFs r c rest).map (.c (.str s) :: ·)
  | .FormattedValue e v none _ :: rest => if v = -1 then match r.e c false e, cFs r c rest with
      | some e', some l => some (.pr .fmt1 [e'] :: l)
      | _, _ => none
    else none
  | _ => none
/-- a call of a name -/
def cCall (r : Rec) (c : Ctx) (x : Str) (args : List Expr) : Option E :=
  if c.names.lookup x = some .globalImplicit ∧ okNm x = true then
    match c.fns.lookup x with
    | some f => if c.hot then (match c.fnu.lookup x with
        | some f => match args with
          | [] => none
          | a :: es => (cArgs r c false (a :: es)).map fun es' => .call f es'
        | none => none)
      else (cArgs r c false args).map fun es => .call f es
    | none => match args with
      | [] => none
      | a :: es => match (if hotOk c x then bltPr x (a :: es).length else none) with
        | some p => (cArgs r c false (a :: es)).map fun es' => .pr p es'
        | none => if x = "isinstance" then (match es with
            | [.Name t _] => if c.names.lookup t = some .globalImplicit ∧ isStar a = false then match c.ist.lookup t with
                | some p => if okNm t then (r.e c false a).map fun a' => .pr (.isC p.1 p.2) [a'] else none
                | none => match instTy t, r.e c false a with
                  | some u, some a' => some (.pr (.isinst u) [a'])
                  | _, _ => none
              else none
            | _ => none)
          else none
  else none
def cMeth (r : Rec) (c : Ctx) (o : Expr) (m : Str) (args : List Expr) (ap cp : Pos) : Option E :=
  match methPr m with
  | some (p, t) => if isCall0 o = false ∧ args.length < 30 ∧ (ap.endLine == cp.line) = true then
      match r.e c false o, cArgs r c (c.argM && decide (m = "append")) args with
      | some o', some (e' :: es') => some (.meth p t o' (e' :: es'))
      | _, _ => none
    else none
  | none => none
def cSub (r : Rec) (c : Ctx) (a b : Expr) : Option E := match b with
  | .Slice none none none _ => (r.e c false a).map fun a' => .pr (.slice false false) [a']
  | .Slice (some l) none none _ => match r.e c false a, r.e c false l with
    | some a', some l' => some (.pr (.slice true false) [a', l'])
    | _, _ => none
  | .Slice none (some l) none _ => match r.e c false a, r.e c false l with
    | some a', some l' => some (.pr (.slice false true) [a', l'])
    | _, _ => none
  | .Slice (some l) (some u) none _ => match r.e c false a, r.e c false l, r.e c false u with
    | some a', some l', some u' => some (.slc3 a' l' u')
    | _, _, _ => none
  | .Slice _ _ _ _ => none
  | b => match r.e c false a, r.e c false b with
    | some a', some b' => some (.pr .idx [a', b'])
    | _, _ => none
def isNoneC : Expr → Bool
  | .Constant .none _ _ => true
  | _ => false
/-- o.replace(y, z, 1) if w in t else b -/
def cRepl (r : Rec) (c : Ctx) (t a b : Expr) : Option E := match t with
  | .Compare (.Constant (.str w) _ _) [.In] [t1] _ => match a with
    | .Call (.Attribute o m ap) [.Constant (.str y) _ _, .Constant (.str z) _ _, .Constant (.int i) _ _] [] cp => if m = "replace" ∧ i = 1 ∧ isSet t1 = false ∧ isCall0 o = false ∧ (ap.endLine == cp.line) = true then
        match r.e c false t1, r.e c false o, r.e c false b with
        | some t', some o', some b' => some (.ite (.pr .in_ [.c (.str w), t']) (.pr .repl1 [o', .c (.str y), .c (.str z)]) b')
        | _, _, _ => none
      else none
    | _ => none
  | _ => none
def stepE (r : Rec) (c : Ctx) (mm : Bool) : Expr → Option E
  | .Constant (.int i) _ _ => some (.c (.int i))
  | .Constant (.str s) _ _ => some (.c (.str s))
  | .Constant (.bool b) _ _ => some (.c (.bl b))
  | .Constant .none _ _ => some (.c .non)
  | .Name x _ => cName c x
  | .BinOp a op b _ => match opPr op, r.e c false a, r.e c false b with
    | some p, some a', some b' => some (.pr p [a', b'])
    | _, _, _ => none
  | .UnaryOp .USub a _ => (r.e c false a).map fun a' => .pr .neg [a']
  | .UnaryOp .Not a _ => (r.e c false a).map fun a' => .pr .not_ [a']
  | .BoolOp op vs _ => cBoolE r c op vs
  | .IfExp t a b _ => match cRepl r c t a b with
    | some e => some e
    | none => match r.t c t, r.e c false a, r.e c false b with
    | some t', some a', some b' => some (.ite t' a' b')
    | _, _, _ => none
  | .Compare a [.Is] [b] _ => if isNoneC b then (r.e c false a).map fun a' => .pr .isN [a'] else none
  | .Compare a [.IsNot] [b] _ => if isNoneC b then (r.e c false a).map fun a' => .pr .notN [a'] else none
  | .Compare a [op] [b] _ => if isSet b then none else match cmpPr op, r.e c false a, r.e c false b with
    | some p, some a', some b' => some (.pr p [a', b'])
    | _, _, _ => none
  | .Call (.Name x _) args [] _ => cCall r c x args
  | .Call (.Attribute o m ap) args [] cp => cMeth r c o m args ap cp
  | .JoinedStr (v1 :: v2 :: rest) _ => (cFs r c (v1 :: v2 :: rest)).map .fstr
  | .Subscript a b _ => cSub r c a b
  | .Attribute o f _ => if c.flds.contains f && !isCall0 o then (r.e c false o).map fun o' => .pr (.fld f) [o'] else none
  | .List es _ => (cArgs r c mm es).map fun es' => if mm then .pr .listM es' else .pr .list es'
  | .Tuple es _ _ => (cArgs r c false es).map (.pr .tup)
  | .ListComp elt [⟨tg, iter, ifs, 0⟩] scope _ => cComp r c mm elt tg iter ifs scope
  | _ => none
def stepT (r : Rec) (c : Ctx) : Expr → Option E
  | .UnaryOp .Not a _ => (r.t c a).map fun a' => .pr .not_ [a']
  | .BoolOp op vs _ => cBoolT r c op vs
  | .IfExp _ _ _ _ => none
  | .Compare a [.Is] [b] _ => if isNoneC b then (r.e c false a).map fun a' => .pr .isN [a'] else none
  | .Compare a [.IsNot] [b] _ => if isNoneC b then (r.e c false a).map fun a' => .pr .notN [a'] else none
  | .Compare a [op] [b] _ => if isSet b then none else match cmpPr op, r.e c false a, r.e c false b with
    | some p, some a', some b' => some (.pr p [a', b'])
    | _, _, _ => none
  | .Compare _ _ _ _ => none
  | e => r.e c false e
/-- what is not carried is never reached -/
def orNever : Option E → Option E
  | some e => some e
  | none => some .never
def recN : Nat → Rec
  | 0 => ⟨fun _ _ _ => none, fun _ _ => none⟩
  | n + 1 => ⟨fun c mm e => orNever (stepE (recN n) c mm e), fun c e => orNever (stepT (recN n) c e)⟩
section
variable {cf : Cf} {W : WX} {k : Nat} {X : Cx} {c : Ctx} {r : Rec}
theorem cBoolE_ok (S : Stat cf W k X c) (hr : SndR cf k r) {op : BoolOp} {pos : Pos} : ∀ {vs : List Expr} {e' : E}, cBoolE r c op vs = some e' → PE X (.BoolOp op vs pos) (TD cf W e')
  | [], _, h => by cases h
  | [a], _, h => td_one (hr.e W X c false a _ S h)
  | a :: b :: rest, _, h => by
    simp only [cBoolE] at h
    split at h
    · rename_i a' b' h1 h2
      cases h
      have pa := hr.e W X c false a a' S h1
      have pb := cBoolE_ok S hr (op := op) (pos := pos) h2
      cases op with
      | And => exact td_and S.K pa pb
      | Or => exact td_or S.K pa pb
    · cases h
theorem cBoolT_ok (S : Stat cf W k X c) (hr : SndR cf k r) {op : BoolOp} {pos : Pos} : ∀ {vs : List Expr} {e' : E}, cBoolT r c op vs = some e' → PW X (.BoolOp op vs pos) (TT cf W e')
  | [], _, h => by cases h
  | [a], _, h => by
    cases op with
    | And => exact tt_and1 (hr.t W X c a _ S h)
    | Or => exact tt_or1 (hr.t W X c a _ S h)
  | a :: b :: rest, _, h => by
    simp only [cBoolT] at h
    split at h
    · rename_i a' b' h1 h2
      cases h
      have pa := hr.t W X c a a' S h1
      have pb := cBoolT_ok S hr (op := op) (pos := pos) h2
      cases op with
      | And => exact tt_and pa pb
      | Or => exact tt_or pa pb
    · cases h
theorem cFs_ok (S : Stat cf W k X c) (hr : SndR cf k r) : ∀ {vs : List Expr} {es' : List E}, cFs r c vs = some es' → PJ X vs (es'.map (TD cf W))
  | [], _, h => by
    cases h
    exact .nil
  | v :: rest, _, h => by
    unfold cFs at h
    split at h
    · rename_i q
      cases q
    · rename_i q
      cases q
      simp only [Option.map_eq_some_iff] at h
      obtain ⟨l, h, rfl⟩ := h
      exact .cons (td_c pe_str fun g => .str _) (cFs_ok S hr h)
    · rename_i q
      cases q
      split at h
      · rename_i hv
        subst hv
        split at h
        · rename_i e' l h1 h2
          cases h
          exact .cons (td_fmt1 (hr.e W X c false _ e' S h1)) (cFs_ok S hr h2)
        · cases h
      · cases h
    · cases h
theorem isC_ok (S : Stat cf W k X c) {t : Str} {p : List Nat × List Nat} {a : Expr} {a' : E} {q1 q2 pos : Pos} (h : c.ist.lookup t = some p) (ok : okNm t = true) (hg : Gl X "isinstance") (hgt : Gl X t) (ha : PE X a (TD cf W a')) (hs : isStar a = false) :
    PE X (.Call (.Name "isinstance" q1) [a, .Name t q2] [] pos) (TD cf W (.pr (.isC p.1 p.2) [a'])) := by
  obtain ⟨o1, _, _⟩ := okNm_of ok
  obtain ⟨cv, hv, hy, hn⟩ := S.ist t p h
  have nm : ∃ v, (∀ u, RelV v u → u = cv) ∧ PE X (.Name t q2) (tC v) := by
    rcases hv with ⟨hm, D, rfl⟩ | ⟨hm, hb, hn2, t', rfl⟩
    · exact ⟨.ref D, fun u z => z, pe_glob hgt hm rfl o1⟩
    · exact ⟨.ty t', fun u z => z, pe_bltn hgt hm hb rfl hn2 o1⟩
  obtain ⟨v, huv, pt⟩ := nm
  refine pe_weak (pe_callB (so_isC hy hn S.ecl) hg (S.blt _ (by decide +kernel)) (by decide +kernel) (pa_cons ha (pa_cons pt pa_nil rfl) (starEach_cons hs)) (by decide +kernel) (by decide +kernel) (starEach_cons hs) rfl) fun σ H Q ⟨g, env, M, R, RE, q⟩ => ?_
  rw [ev_pr1] at q
  rw [S.K]
  exact ⟨g, env, M, R, RE, q.bind.imp fun d M1 g1 H1 st1 R1 q1 x rx => ⟨x, v, rfl, huv, g1, M1, [d], R1, .cons rx .nil, q1.ofP⟩⟩
theorem cCall_ok (S : Stat cf W k X c) (hr : SndR cf k r) {x : Str} {args : List Expr} {e' : E} {p pos : Pos} (h : cCall r c x args = some e') : PE X (.Call (.Name x p) args [] pos) (TD cf W e') := by
  unfold cCall at h
  split at h
  · rename_i q
    obtain ⟨hg, ok⟩ := q
    obtain ⟨o1, _, _⟩ := okNm_of ok
    split at h
    · rename_i f hf
      split at h
      · split at h
        · rename_i f2 hf2
          split at h
          · cases h
          · simp only [Option.map_eq_some_iff] at h
            obtain ⟨es', h, rfl⟩ := h
            obtain ⟨fa, fd, ps, F, hm, hk, hb⟩ := S.fnu x f2 hf2
            obtain ⟨pa, st⟩ := cArgs_ok S hr h
            simp only [stars, Bool.or_eq_false_iff] at st
            exact td_callU F S.roomU (gl_of S hg) hm hk hb S.takes pa o1 (starEach_cons st.1) (hpl_of st.2)
        · cases h
      rename_i hh
      have hh : c.hot = false := by simpa using hh
      simp only [Option.map_eq_some_iff] at h
      obtain ⟨es', h, rfl⟩ := h
      obtain ⟨fa, fd, ps, F, hm, hk, hb⟩ := S.fns x f hf
      obtain ⟨pa, st⟩ := cArgs_ok S hr h
      cases args with
      | nil =>
        cases h
        exact td_call0 F (S.room hh) (gl_of S hg) hm hk hb S.takes o1
      | cons a es =>
        simp only [stars, Bool.or_eq_false_iff] at st
        exact td_call F (S.room hh) (gl_of S hg) hm hk hb S.takes pa o1 (starEach_cons st.1) (hpl_of st.2)
    · split at h
      · cases h
      · rename_i a es
        split at h
        · rename_i pp hp
          split at hp
          case isFalse => cases hp
          rename_i hh
          simp only [Option.map_eq_some_iff] at h
          obtain ⟨es', h, rfl⟩ := h
          obtain ⟨pa, st⟩ := cArgs_ok S hr h
          exact blt_ok S hp hh (gl_of S hg) pa st
        · split at h
          · rename_i hx
            subst hx
            split at h
            · rename_i t pt
              split at h
              · rename_i q2
                split at h
                · rename_i p hp
                  split at h
                  · rename_i ok2
                    simp only [Option.map_eq_some_iff] at h
                    obtain ⟨a', h1, rfl⟩ := h
                    exact isC_ok S hp ok2 (gl_of S hg) (gl_of S q2.1) (hr.e W X c false a a' S h1) q2.2
                  · cases h
                split at h
                · rename_i u a' h1 h2
                  cases h
                  exact inst_ok S h1 (gl_of S hg) (gl_of S q2.1) (hr.e W X c false a a' S h2) q2.2
                · cases h
              · cases h
            · cases h
          · cases h
  · cases h
theorem cMeth_ok (S : Stat cf W k X c) (hr : SndR cf k r) {o : Expr} {m : Str} {args : List Expr} {ap cp : Pos} {e' : E} (h : cMeth r c o m args ap cp = some e') : PE X (.Call (.Attribute o m ap) args [] cp) (TD cf W e') := by
  unfold cMeth at h
  split at h
  · rename_i p t hm
    split at h
    · rename_i q
      split at h
      · rename_i o' a' es' h1 h2
        cases h
        obtain ⟨pa, st⟩ := cArgs_ok S hr h2
        cases args with
        | nil => cases h2
        | cons a es => exact meth_ok S hm (hr.e W X c false o o' S h1) pa q.1 st q.2.1 q.2.2
      · cases h
    · cases h
  · cases h
theorem cSub_ok (S : Stat cf W k X c) (hr : SndR cf k r) {a b : Expr} {pos : Pos} {e' : E} (h : cSub r c a b = some e') : PE X (.Subscript a b pos) (TD cf W e') := by
  unfold cSub at h
  split at h
  · simp only [Option.map_eq_some_iff] at h
    obtain ⟨a', h, rfl⟩ := h
    exact td_slice0 S.K (hr.e W X c false a a' S h)
  · split at h
    · rename_i a' l' h1 h2
      cases h
      exact td_sliceL S.K (hr.e W X c false a a' S h1) (hr.e W X c false _ l' S h2)
    · cases h
  · split at h
    · rename_i a' l' h1 h2
      cases h
      exact td_sliceH S.K (hr.e W X c false a a' S h1) (hr.e W X c false _ l' S h2)
    · cases h
  · split at h
    · rename_i a' l' u' h1 h2 h3
      cases h
      exact td_sliceLH S.K (hr.e W X c false a a' S h1) (hr.e W X c false _ l' S h2) (hr.e W X c false _ u' S h3)
    · cases h
  · cases h
  · rename_i hns
    split at h
    · rename_i a' b' h1 h2
      cases h
      refine td_idx S.K (plainIx_of ?_) (hr.e W X c false a a' S h1) (hr.e W X c false b b' S h2)
      cases b <;> first | rfl | (exact (hns _ _ _ _ rfl).elim)
    · cases h
theorem cRepl_ok (S : Stat cf W k X c) (hr : SndR cf k r) {t a b : Expr} {e' : E} {pos : Pos} (h : cRepl r c t a b = some e') : PE X (.IfExp t a b pos) (TD cf W e') := by
  unfold cRepl at h
  split at h
  · split at h
    · split at h
      · rename_i q
        obtain ⟨rfl, rfl, q1, q2, q3⟩ := q
        split at h
        · rename_i t' o' b' h1 h2 h3
          cases h
          exact td_repl1 S.K (units_of S) (hr.e W X c false _ t' S h1) (hr.e W X c false _ o' S h2) (hr.e W X c false _ b' S h3) q1 q2 q3
        · cases h
      · cases h
    · cases h
  · cases h
theorem stepE_ok (hr : SndR cf k r) (S : Stat cf W k X c) {mm : Bool} {e : Expr} {e' : E} (h : stepE r c mm e = some e') : PE X e (TD cf W e') := by
  unfold stepE at h
  split at h
  · cases h; exact td_c pe_int fun g => .int _
  · cases h; exact td_c pe_str fun g => .str _
  · cases h; exact td_c pe_bl fun g => .bl _
  · cases h; exact td_c pe_non fun g => .non
  · exact cName_ok S h
  · split at h
    · rename_i p a' b' h0 h1 h2
      cases h
      exact op_ok S h0 (hr.e W X c false _ a' S h1) (hr.e W X c false _ b' S h2)
    · cases h
  · simp only [Option.map_eq_some_iff] at h
    obtain ⟨a', h, rfl⟩ := h
    exact td_neg S.K (hr.e W X c false _ a' S h)
  · simp only [Option.map_eq_some_iff] at h
    obtain ⟨a', h, rfl⟩ := h
    exact td_not S.K (hr.e W X c false _ a' S h)
  · exact cBoolE_ok S hr h
  · split at h
    · rename_i e h0
      cases h
      exact cRepl_ok S hr h0
    split at h
    · rename_i t' a' b' h0 h1 h2
      cases h
      exact td_ite (hr.t W X c _ t' S h0) (hr.e W X c false _ a' S h1) (hr.e W X c false _ b' S h2)
    · cases h
  · rename_i a b _
    split at h
    · rename_i hn
      simp only [Option.map_eq_some_iff] at h
      obtain ⟨a', h, rfl⟩ := h
      cases b <;> first | cases hn | skip
      rename_i v _ _
      cases v <;> first | exact td_isN S.K (hr.e W X c false _ a' S h) | cases hn
    · cases h
  · rename_i a b _
    split at h
    · rename_i hn
      simp only [Option.map_eq_some_iff] at h
      obtain ⟨a', h, rfl⟩ := h
      cases b <;> first | cases hn | skip
      rename_i v _ _
      cases v <;> first | exact td_notN S.K (hr.e W X c false _ a' S h) | cases hn
    · cases h
  · split at h
    · cases h
    · rename_i hs
      split at h
      · rename_i p a' b' h0 h1 h2
        cases h
        exact td_op2 (fun ha hb => pe_cmpR (cmp_op S h0) ha hb (behind_of (by simpa using hs))) (hr.e W X c false _ a' S h1) (hr.e W X c false _ b' S h2)
      · cases h
  · exact cCall_ok S hr h
  · exact cMeth_ok S hr h
  · simp only [Option.map_eq_some_iff] at h
    obtain ⟨es', h, rfl⟩ := h
    exact td_fstr (cFs_ok S hr h)
  · exact cSub_ok S hr h
  · split at h
    · rename_i hc
      simp only [Bool.and_eq_true, Bool.not_eq_true'] at hc
      simp only [Option.map_eq_some_iff] at h
      obtain ⟨o', h1, rfl⟩ := h
      exact pe_fld S.K S.ecl (by simpa using hc.1) (hr.e W X c false _ o' S h1) (base_of hc.2)
    · cases h
  · simp only [Option.map_eq_some_iff] at h
    obtain ⟨es', h, rfl⟩ := h
    obtain ⟨pa, _⟩ := cArgs_ok S hr h
    cases mm with
    | false => exact td_list pa
    | true => exact td_listM pa
  · simp only [Option.map_eq_some_iff] at h
    obtain ⟨es', h, rfl⟩ := h
    exact td_tup (cArgs_ok S hr h).1
  · obtain ⟨t, kk, src, cond, el, rfl, C⟩ := cComp_ok S hr h
    exact td_comp C.calm S.nd C.hi C.ok C.ho C.hg C.ht C.he C.hs
  · cases h
theorem stepT_ok (hr : SndR cf k r) (S : Stat cf W k X c) {e : Expr} {e' : E} (h : stepT r c e = some e') : PT X e (TT cf W e') := by
  unfold stepT at h
  split at h
  · simp only [Option.map_eq_some_iff] at h
    obtain ⟨a', h, rfl⟩ := h
    exact tt_not (hr.t W X c _ a' S h)
  · exact (cBoolT_ok S hr h).pt
  · cases h
  · rename_i a b _
    split at h
    · rename_i hn
      simp only [Option.map_eq_some_iff] at h
      obtain ⟨a', h, rfl⟩ := h
      cases b <;> first | cases hn | skip
      rename_i v _ _
      cases v <;> first | exact tt_isN S.K (hr.e W X c false _ a' S h) | cases hn
    · cases h
  · rename_i a b _
    split at h
    · rename_i hn
      simp only [Option.map_eq_some_iff] at h
      obtain ⟨a', h, rfl⟩ := h
      cases b <;> first | cases hn | skip
      rename_i v _ _
      cases v <;> first | exact tt_notN S.K (hr.e W X c false _ a' S h) | cases hn
    · cases h
  · split at h
    · cases h
    · rename_i hs
      split at h
      · rename_i p a' b' h0 h1 h2
        cases h
        exact tt_op2 (fun ha hb => pt_cmpR (cmp_op S h0) ha hb (behind_of (by simpa using hs))) (cmp_bl h0) (hr.e W X c false _ a' S h1) (hr.e W X c false _ b' S h2)
      · cases h
  · cases h
  · rename_i h1 h2 h3 _ _ _ h4
    refine tt_plain S.K (hr.e W X c false _ _ S h) (isTrue_of ?_)
    cases e with
    | UnaryOp op a p =>
      cases op with
      | Not => exact (h1 _ _ rfl).elim
      | _ => rfl
    | BoolOp op vs p => exact (h2 _ _ _ rfl).elim
    | IfExp a b d p => exact (h3 _ _ _ _ rfl).elim
    | Compare a b d p => exact (h4 _ _ _ _ rfl).elim
    | _ => rfl
theorem td_never {e : Expr} : PE X e (TD cf W .never) := ⟨fun pins s σ H Q I ⟨g, env, M, R, RE, q⟩ => by
  rw [ev] at q
  exact False.elim q⟩
theorem tt_never {e : Expr} : PT X e (TT cf W .never) := ⟨fun pins s σ H Q I ⟨g, env, M, R, RE, q⟩ => by
  unfold tst at q
  rw [ev] at q
  exact False.elim q⟩
theorem recN_ok : ∀ n, SndR cf k (recN n)
  | 0 => ⟨fun _ _ _ _ _ _ _ h => (by cases h), fun _ _ _ _ _ _ h => (by cases h)⟩
  | n + 1 => by
    refine ⟨fun W X c mm x x' S h => ?_, fun W X c x x' S h => ?_⟩
    · have h : orNever (stepE (recN n) c mm x) = some x' := h
      cases e : stepE (recN n) c mm x with
      | none => rw [e] at h; cases h; exact td_never
      | some y => rw [e] at h; cases h; exact stepE_ok (recN_ok n) S e
    · have h : orNever (stepT (recN n) c x) = some x' := h
      cases e : stepT (recN n) c x with
      | none => rw [e] at h; cases h; exact tt_never
      | some y => rw [e] at h; cases h; exact stepT_ok (recN_ok n) S e
end
end DP

/-! DP.Defs: statements, defs, the table of defs, the law. -/
namespace DP
open PySem PySem.Spec PyProof.Rows L2
variable [ClsMap]
/-! ### statements -/
def isTupE : Expr → Bool
  | .Tuple _ _ _ => true
  | _ => false
def swapB (c : Ctx) (y : Str) (py pos : Pos) (scope : Scope) : Bool := decide (c.names.lookup y = some .local) && (py.line == pos.line) && !(scope.names.any fun (n, k) => n == y && (k == .local || k == .cell))
def stepS (r : Rec) (blk : Ctx → List Stmt → Option (List S)) (c : Ctx) : Stmt → Option S
  | .Expr (.Constant (.str _) _ _) _ => some .pass
  | .Expr e _ => if isComp e then none else (r.e c false e).map .ex
  | .Assign [.Name y py] (.ListComp elt [⟨tg, iter, ifs, 0⟩] scope p) _ => if swapB c y py p scope then match slot c y, cComp r c (c.mutN.contains y) elt tg iter ifs scope with
      | some i, some e' => some (.asg (.nm i) e')
      | _, _ => none
    else none
  | .Assign [.Name y py] e _ => if isComp e then none else match cTgt c (.Name y py), r.e c (c.mutN.contains y) e with
      | some t, some e' => some (.asg t e')
      | _, _ => none
  | .Assign [.Tuple es k p] e _ => if isComp e || isTupE e then none else match cTgt c (.Tuple es k p), r.e c false e with
      | some t, some e' => some (.asg t e')
      | _, _ => none
  | .Assign [.Subscript o i _] e _ => if isComp e || isSlice i then none else match r.e c false o, r.e c false i, r.e c false e with
      | some o', some i', some e' => some (.setIx o' i' e')
      | _, _, _ => none
  | .AugAssign (.Name x p) .Add e _ => if locB c x then match slot c x, r.e c false e with
      | some i, some e' => some (.aug i .iadd e')
      | _, _ => none
    else none
  | .AugAssign (.Subscript o i _) .Add e _ => if isSlice i then none else match r.e c false o, r.e c false i, r.e c false e with
      | some o', some i', some e' => some (.augIx o' i' .iadd e')
      | _, _, _ => none
  | .If t a b _ => match r.t c t, blk c a, blk c b with
    | some t', some a', some b' => some (.ife t' a' b')
    | _, _, _ => none
  | .For tg it body [] _ => if isSet it || c.hot then none else match cTgt c tg, cSrc r c tg it, blk c body with
    | some t, some (k, src), some b' => some (.for_ t k src b')
    | _, _, _ => none
  | .Return (some e) _ => (r.e c c.retM e).map fun e' => .ret (if c.retF then .pr .freeze [e'] else e')
  | .Return none _ => some .retN
  | .Pass _ => some .pass
  | .Break _ => some .brk
  | .Continue _ => some .cont
  | .Try body [.ExceptHandler (some (.Name x _)) (some n) (b0 :: suite) _] [] [] _ => if c.hot = false ∧ c.names.lookup x = some .globalImplicit ∧ okNm x = true ∧ c.names.lookup n = some .local then match c.ist.lookup x, slot c n, blk c body, blk { c with hot := true } (b0 :: suite) with
      | some p, some i, some b', some s' => some (.try_ b' p.1 i s')
      | _, _, _, _ => none
    else none
  | .Raise (some (.Call (.Name x _) (a :: es) [] _)) none _ => if c.hot then some .never else match c.cls.lookup x with
    | some (n, m, r') => if c.names.lookup x = some .globalImplicit ∧ okNm x = true then match cArgs r c false (a :: es) with
      | some es' => some (.raise n m r' es')
      | none => some .never
      else some .never
    | none => some .never
  | .Raise _ _ _ => some .never
  | _ => none
def blkOf (f : Ctx → Stmt → Option S) (c : Ctx) : List Stmt → Option (List S)
  | [] => some []
  | s :: ss => match f c s, blkOf f c ss with
    | some a, some b => some (a :: b)
    | _, _ => none
def cS (r : Rec) : Nat → Ctx → Stmt → Option S
  | 0, _, _ => none
  | n + 1, c, s => match stepS r (blkOf (cS r n)) c s with
    | some s' => some s'
    | none => some .never
section
variable {cf : Cf} {W : WX} {k : Nat} {X : Cx} {c : Ctx} {r : Rec}
theorem sole_of {t e : Expr} {l : Nat} (h : isComp e = false) : swapsWithSole [t] e l X.env = pure false := swaps_of h
theorem blkOf_ok {f : Ctx → Stmt → Option S} (hf : ∀ s s', f c s = some s' → PS X s (TSt cf W s')) : ∀ {ss : List Stmt} {ss' : List S}, blkOf f c ss = some ss' → PSs X ss (TSs cf W ss')
  | [], _, h => by
    cases h
    exact tss_nil
  | s :: ss, _, h => by
    simp only [blkOf] at h
    split at h
    · rename_i a b h1 h2
      cases h
      exact tss_cons (hf s a h1) (blkOf_ok hf h2)
    · cases h
/-- a def's own body, not a comprehension's block -/
structure Bdy (X : Cx) (c : Ctx) : Prop where
  pass : c.hot = false → PassesOwn (model X.prog X.w) X.A X.env X.xe
  stk : X.stack = X.env :: X.outer
  frm : X.env.frame = some X.env.locals
  ex : X.ex = []
theorem stat_tr (S : Stat cf W k X c) (pn : List (Addr × Obj)) (xe : Value → Shared → Prop) {W' : WX} (tk : Takes (X.tr pn xe) W') : Stat cf W' k (X.tr pn xe) c :=
  ⟨S.N, S.nd, S.names, S.kind, S.fn, S.K, S.calm, S.room, S.roomU, tk, S.gl, S.fns, S.blt, S.cls, S.two, S.fnu, S.ist, S.ecl⟩
theorem stat_suite (S : Stat cf W k X c) (a : Addr) (pn : List (Addr × Obj)) : Stat cf (fun _ _ _ _ => False) k (X.suite a pn) { c with hot := true } :=
  ⟨S.N, S.nd, S.names, S.kind, S.fn, S.K, fun z => (by cases z), fun z => (by cases z), ⟨S.roomU.dp, S.roomU.un⟩, takes0, S.gl, S.fns, S.blt, S.cls, S.two, S.fnu, S.ist, S.ecl⟩
theorem stepS_ok (S0 : Stat cf W k X c) (hr : SndR cf k r) (B0 : Bdy X c) {blk : Ctx → List Stmt → Option (List S)} (hbk : ∀ (W : WX) (X : Cx) (c : Ctx), Stat cf W k X c → Bdy X c → ∀ ss ss', blk c ss = some ss' → PSs X ss (TSs cf W ss')) {s : Stmt} {s' : S} (h : stepS r blk c s = some s') : PS X s (TSt cf W s') := by
  have hb := hbk W X c S0 B0
  unfold stepS at h
  split at h
  · cases h
    exact ts_doc
  · split at h
    · cases h
    · rename_i hc
      simp only [Option.map_eq_some_iff] at h
      obtain ⟨e', h, rfl⟩ := h
      exact ts_expr (hr.e W X c false _ e' S0 h) (swaps_of (by simpa using hc))
  · rename_i y py elt tg iter ifs scope p sp
    split at h
    · rename_i hsw
      split at h
      · rename_i i e' h1 h2
        cases h
        obtain ⟨t, kk, src, cond, el, rfl, C⟩ := cComp_ok S0 hr h2
        unfold swapB at hsw
        simp only [Bool.and_eq_true, decide_eq_true_eq, Bool.not_eq_true'] at hsw
        have hl : X.env.scope.names.lookup y = some .local := by rw [S0.names]; exact hsw.1.1
        exact ts_setLc C.calm S0.nd (by rw [S0.N]; exact slot_at h1) hl (sw_true S0.kind hl hsw.1.2 hsw.2) C.hi C.ok C.ho C.hg C.ht C.he C.hs
      · cases h
    · cases h
  · rename_i y py e sp _
    split at h
    · cases h
    · rename_i hc
      split at h
      · rename_i t e' h1 h2
        cases h
        exact ts_asg (hr.e W X c _ e e' S0 h2) (cTgt_ok S0 h1) (sole_of (by simpa using hc)) rfl rfl
      · cases h
  · rename_i es kk p e sp
    split at h
    · cases h
    · rename_i hc
      split at h
      · rename_i t e' h1 h2
        cases h
        simp only [Bool.or_eq_true, not_or, Bool.not_eq_true] at hc
        refine ts_asg (hr.e W X c _ e e' S0 h2) (cTgt_ok S0 h1) (sole_of hc.1) ?_ rfl
        unfold swappedStores
        cases e <;> first | rfl | (simp [isTupE] at hc)
      · cases h
  · rename_i o i tp e sp
    split at h
    · cases h
    · rename_i hc
      split at h
      · rename_i o' i' e' h1 h2 h3
        cases h
        simp only [Bool.or_eq_true, not_or, Bool.not_eq_true] at hc
        refine ts_setIx S0.K (hr.e W X c _ o o' S0 h1) (hr.e W X c _ i i' S0 h2) (hr.e W X c _ e e' S0 h3) ?_ (sole_of hc.1) rfl rfl
        intro v
        have hs := hc.2
        cases i <;> first | rfl | (simp [isSlice] at hs)
      · cases h
  · rename_i x p e sp
    split at h
    · rename_i hl
      split at h
      · rename_i i e' h1 h2
        cases h
        obtain ⟨l, f⟩ := loc_of S0 hl
        exact ts_aug S0.K S0.nd (by rw [S0.N]; exact slot_at h1) l (hr.e W X c _ e e' S0 h2) f
      · cases h
    · cases h
  · rename_i o i tp e sp
    split at h
    · cases h
    · rename_i hc
      split at h
      · rename_i o' i' e' h1 h2 h3
        cases h
        refine ts_augIx S0.K (hr.e W X c _ o o' S0 h1) (hr.e W X c _ i i' S0 h2) (hr.e W X c _ e e' S0 h3) ?_
        intro ov iv nw
        cases i <;> first | rfl | (simp [isSlice] at hc)
      · cases h
  · split at h
    · rename_i t' a' b' h1 h2 h3
      cases h
      exact ts_if (hr.t W X c _ t' S0 h1) (hb _ a' h2) (hb _ b' h3)
    · cases h
  · split at h
    · cases h
    · rename_i hs
      split at h
      · rename_i t kk src b' h1 h2 h3
        cases h
        have hs' := hs
        simp only [Bool.or_eq_true, not_or, Bool.not_eq_true] at hs'
        exact ts_for (B0.pass hs'.2) (S0.calm hs'.2) (cSrc_ok S0 hr h2) (cTgt_ok S0 h1) (hb _ b' h3) (folded_of hs'.1)
      · cases h
  · simp only [Option.map_eq_some_iff] at h
    obtain ⟨e', h, rfl⟩ := h
    have pe := hr.e W X c _ _ e' S0 h
    split
    · exact ts_ret (td_freeze pe)
    · exact ts_ret pe
  · cases h; exact ts_retN
  · cases h; exact ts_pass
  · cases h; exact ts_brk
  · cases h; exact ts_cont
  · split at h
    · rename_i q
      obtain ⟨hh, hg, ok, hl⟩ := q
      obtain ⟨o1, _, _⟩ := okNm_of ok
      split at h
      · rename_i p i b' s' h1 h2 h3 h4
        cases h
        obtain ⟨cv, hv, hy, hn⟩ := S0.ist _ p h1
        refine ts_try S0.K B0.stk B0.frm B0.ex S0.nd (by rw [S0.N]; exact slot_at h2) (show X.env.scope.names.lookup _ = _ by rw [S0.names]; exact hl) ⟨gl_of S0 hg, o1, ?_⟩ hy (fun W' pn xe tk ps => hbk W' (X.tr pn xe) c (stat_tr S0 pn xe tk) ⟨fun _ => ps, B0.stk, B0.frm, B0.ex⟩ _ b' h3)
          fun a pn => hbk _ (X.suite a pn) { c with hot := true } (stat_suite S0 a pn) ⟨fun z => (by cases z), B0.stk, B0.frm, B0.ex⟩ _ s' h4
        rcases hv with ⟨hm, _⟩ | ⟨hm, hb2, hn2, _⟩
        · exact .inl hm
        · exact .inr ⟨hm, hb2, hn2⟩
      · cases h
    · cases h
  · split at h
    · cases h; exact ts_never
    rename_i hh
    have hh : c.hot = false := by simpa using hh
    split at h
    · rename_i n m r' hx
      split at h
      · rename_i q
        obtain ⟨hg, ok⟩ := q
        obtain ⟨o1, _, _⟩ := okNm_of ok
        split at h
        · rename_i es' h1
          cases h
          obtain ⟨C, KC⟩ := S0.cls _ _ hx
          obtain ⟨pa, st⟩ := cArgs_ok S0 hr h1
          exact ts_raise_cls S0 hh KC (gl_of S0 hg) o1 pa st
        · cases h; exact ts_never
      · cases h; exact ts_never
    · cases h; exact ts_never
  · cases h; exact ts_never
  · cases h
end
theorem cS_ok {cf : Cf} {k : Nat} {r : Rec} (hr : SndR cf k r) : ∀ (n : Nat) (W : WX) (X : Cx) (c : Ctx), Stat cf W k X c → Bdy X c → ∀ (s : Stmt) (s' : S), cS r n c s = some s' → PS X s (TSt cf W s')
  | 0, _, _, _, _, _, _, _, h => by cases h
  | n + 1, W, X, c, S0, B0, s, s', h => by
    simp only [cS] at h
    split at h
    · rename_i s'' h1
      cases h
      exact stepS_ok S0 hr B0 (fun W X c S B ss ss' hs => blkOf_ok (fun s s' q => cS_ok hr n W X c S B s s' q) hs) h1
    · cases h
      exact ts_never
/-! ### letting cells go -/
section
variable {K : PySem.W.Frag} {g g' : G} {M M1 : Mem} {H H' : Hp}
mutual
theorem Rep.belowR (R : ∀ n, g.a[n]? ≠ none → n < g.a.length) : ∀ {v : V} {d : D}, Rep K g v d → DP.below g.a.length d = true
  | _, _, .non => rfl
  | _, _, .bl _ => rfl
  | _, _, .int _ => rfl
  | _, _, .str _ => rfl
  | _, _, .lst _ r => Reps.belowR R r
  | _, _, .klst _ r => Reps.belowR R r
  | _, _, .tup _ r => Reps.belowR R r
  | _, _, .loc e => by
    have := (List.getElem?_eq_some_iff.mp e).1
    simpa [DP.below] using this
  | _, _, .err _ _ _ _ _ _ r => by
    rw [DP.below]
    exact Reps.belowR R r
theorem Reps.belowR (R : ∀ n, g.a[n]? ≠ none → n < g.a.length) : ∀ {vs : List V} {ds : List D}, Reps K g vs ds → DP.belows g.a.length ds = true
  | _, _, .nil => rfl
  | _, _, .cons a b => by
    simp only [DP.belows, Rep.belowR R a, Reps.belowR R b, Bool.and_self]
end
mutual
theorem Rep.cut {F : Hp} {a b : List Addr} : ∀ {v : V} {d : D}, Rep K ⟨F, a ++ b⟩ v d → DP.below a.length d = true → Rep K ⟨F, a⟩ v d
  | _, _, .non, _ => .non
  | _, _, .bl _, _ => .bl _
  | _, _, .int _, _ => .int _
  | _, _, .str _, _ => .str _
  | _, _, .lst e r, h => .lst e (Reps.cut' r h)
  | _, _, .klst e r, h => .klst e (Reps.cut' r h)
  | _, _, .tup e r, h => .tup e (Reps.cut' r h)
  | _, _, @Rep.loc _ _ _ n p e, h => by
    have hn : n < a.length := by simpa [DP.below] using h
    refine .loc ?_
    show a[n]? = _
    have e : (a ++ b)[n]? = some p := e
    rw [List.getElem?_append_left hn] at e
    exact e
  | _, _, .err e1 e2 e3 e4 e5 e6 r, h => by
    rw [DP.below] at h
    exact .err e1 e2 e3 e4 e5 e6 (Reps.cut' r h)
theorem Reps.cut' {F : Hp} {a b : List Addr} : ∀ {vs : List V} {ds : List D}, Reps K ⟨F, a ++ b⟩ vs ds → DP.belows a.length ds = true → Reps K ⟨F, a⟩ vs ds
  | _, _, .nil, _ => .nil
  | _, _, .cons x y, h => by
    simp only [DP.belows, Bool.and_eq_true] at h
    exact .cons (Rep.cut x h.1) (Reps.cut' y h.2)
end
theorem trim_ok {d : D} {v : V} (R : RelM K g M H) (st : Stp g H g' H') (R1 : RelM K g' M1 H') (r : Rep K g' v d) : ∃ g'', Stp g H g'' H' ∧ RelM K g'' (trim M d M1) H' ∧ Rep K g'' v d := by
  unfold trim
  by_cases c : CanTrim M d M1
  · rw [if_pos c]
    obtain ⟨F', a'⟩ := g'
    obtain ⟨l, ea⟩ := st.le.a
    have ea : a' = g.a ++ l := ea
    subst ea
    have hl : g.a.length = M.length := R.len
    obtain ⟨c1, c2, c3⟩ := c
    rw [← hl] at c1
    refine ⟨⟨F', g.a⟩, ⟨⟨st.le.F, [], by simp⟩, fun b o e n => ?_⟩, ⟨R1.sub, ?_, R.nd, fun a m => R1.live a (List.mem_append_left _ m), fun n p cl e1 e2 => ?_⟩, r.cut c1⟩
    · obtain ⟨k1, k2, k3⟩ := st.keep b o e n
      exact ⟨k1, n, k3⟩
    · rw [List.length_take, Nat.min_eq_left c2]
      exact hl
    · have hn : n < g.a.length := (List.getElem?_eq_some_iff.mp e1).1
      have e1' : (g.a ++ l)[n]? = some p := by
        rw [List.getElem?_append_left hn]
        exact e1
      have e2' : M1[n]? = some cl := by
        rw [List.getElem?_take_of_lt (by omega)] at e2
        exact e2
      have q := R1.cell n p cl e1' e2'
      cases cl with
      | dead => trivial
      | obj _ _ => exact q
      | lst ds =>
        obtain ⟨q1, vs, q2, q3⟩ := q
        refine ⟨q1, vs, q2, q3.cut' ?_⟩
        rcases c3 n (by omega) with z | ⟨c', z1, z2⟩
        · rw [z] at e2'
          obtain ⟨_, ws, _, rs⟩ := R.cell n p _ e1 e2'
          exact rs.belowR fun n h => by
            have := Option.ne_none_iff_exists.mp h
            obtain ⟨x, hx⟩ := this
            exact (List.getElem?_eq_some_iff.mp hx.symm).1
        · rw [e2'] at z1
          cases z1
          rw [hl]
          exact z2
  · rw [if_neg c]
    exact ⟨g', st, R1, r⟩
end
/-! ### the table of defs -/
structure DI where
  st : Stmt
  name : Str
  qual : Str
  ps : List Str
  N : List Str
  mutN : List Str := []
  retM : Bool := false
  retF : Bool := false
  argM : Bool := false
  hot : Bool := false
def scopeB (d : DI) : Bool := (match (defScope d.st).kind with
    | .function => true
    | _ => false) && ((defScope d.st).isCoroutine == false) && ((defScope d.st).isGenerator == false) && decide d.N.Nodup && decide (d.N.take d.ps.length = d.ps) &&
  d.ps.all (fun x => match (defScope d.st).names.lookup x with
    | some .local => true
    | some .cell => true
    | _ => false) && (defScope d.st).names.all fun y => match y.2 with
    | .free => false
    | _ => true
theorem scopeB_ok {d : DI} (h : scopeB d = true) : FnScope d.N d.ps (defScope d.st) := by
  unfold scopeB at h
  simp only [Bool.and_eq_true, decide_eq_true_eq, beq_iff_eq, List.all_eq_true] at h
  obtain ⟨⟨⟨⟨⟨⟨h1, h2⟩, h3⟩, h4⟩, h5⟩, h6⟩, h7⟩ := h
  refine ⟨?_, h2, h3, h4, h5, fun x hx => ?_, fun y hy e => ?_⟩
  · split at h1
    · assumption
    · cases h1
  · have q := h6 x hx
    split at q
    · exact .inl (by assumption)
    · exact .inr (by assumption)
    · cases q
  · have q := h7 y hy
    rw [e] at q
    cases q
/-- class names: number, arguments, fields with slots -/
abbrev ClsT := List (Str × Nat × Nat × List (Str × Nat))
/-- the classes of a row: those that are raised, those asked for, the fields -/
structure ClsE where
  cl : ClsT := []
  ist : List (Str × List Nat × List Nat) := []
  flds : List Str := []
/-- a row's tables -/
structure Tbl where
  gl : List (Str × D)
  fns : List (Str × Nat)
  fnu : List (Str × Nat)
  ce : ClsE
def ctxOf (t : Tbl) (d : DI) : Ctx := { cls := t.ce.cl, ist := t.ce.ist, flds := t.ce.flds, hot := d.hot, fnu := t.fnu, N := d.N, names := (defScope d.st).names, fnb := fun _ => true, gl := t.gl, fns := t.fns, mutN := d.mutN, retM := d.retM, retF := d.retF, argM := d.argM }
def cDef (t : Tbl) (d : DI) : Option Def := if scopeB d then (blkOf (cS (recN 40) 20) (ctxOf t d) (defBody d.st)).map fun b => ⟨d.ps.length, d.N.length, b⟩ else none
/-- the names of a table's defs -/
def fnsOf : Nat → List DI → List (Str × Nat)
  | _, [] => []
  | n, d :: ds => (d.name, n) :: fnsOf (n + 1) ds
/-- .. of those that may be called where an exception is handled -/
def hotOf : Nat → List DI → List (Str × Nat)
  | _, [] => []
  | n, d :: ds => if d.hot then (d.name, n) :: hotOf (n + 1) ds else hotOf (n + 1) ds
/-- the tables of a row -/
def tblOf (gl : List (Str × D)) (ce : ClsE) (tab : List DI) : Tbl := ⟨gl, fnsOf 0 tab, hotOf 0 tab, ce⟩
theorem hotOf_at : ∀ {ds : List DI} {n : Nat} {x : Str} {f : Nat}, (hotOf n ds).lookup x = some f → ∃ (i : Nat) (d' : DI), ds[i]? = some d' ∧ d'.name = x ∧ f = n + i ∧ d'.hot = true
  | [], _, _, _, h => by cases h
  | d :: ds, n, x, f, h => by
    simp only [hotOf] at h
    split at h
    · rename_i hd
      rw [List.lookup_cons] at h
      split at h
      · rename_i e
        cases h
        exact ⟨0, d, rfl, by simpa using (beq_iff_eq.mp e).symm, rfl, hd⟩
      · obtain ⟨i, d', h1, h2, h3, h4⟩ := hotOf_at h
        exact ⟨i + 1, d', h1, h2, by omega, h4⟩
    · obtain ⟨i, d', h1, h2, h3, h4⟩ := hotOf_at h
      exact ⟨i + 1, d', h1, h2, by omega, h4⟩
def cTab (t : Tbl) : List DI → Option (List Def)
  | [] => some []
  | d :: ds => match cDef t d, cTab t ds with
    | some a, some as => some (a :: as)
    | _, _ => none
theorem fnsOf_at : ∀ {ds : List DI} {n : Nat} {x : Str} {f : Nat}, (fnsOf n ds).lookup x = some f → ∃ (i : Nat) (d' : DI), ds[i]? = some d' ∧ d'.name = x ∧ f = n + i
  | [], _, _, _, h => by cases h
  | d :: ds, n, x, f, h => by
    simp only [fnsOf, List.lookup_cons] at h
    split at h
    · rename_i e
      cases h
      exact ⟨0, d, rfl, by simpa using (beq_iff_eq.mp e).symm, rfl⟩
    · obtain ⟨i, d', h1, h2, h3⟩ := fnsOf_at h
      exact ⟨i + 1, d', h1, h2, by omega⟩
theorem cTab_at {t : Tbl} : ∀ {ds : List DI} {fs : List Def} {i : Nat} {d : DI}, cTab t ds = some fs → ds[i]? = some d → ∃ a, fs[i]? = some a ∧ cDef t d = some a
  | [], _, _, _, _, h => by simp at h
  | d :: ds, fs, i, d', h, e => by
    simp only [cTab] at h
    split at h
    · rename_i a as h1 h2
      cases h
      cases i with
      | zero => simp at e; subst e; exact ⟨a, rfl, h1⟩
      | succ i =>
        obtain ⟨b, q1, q2⟩ := cTab_at (i := i) h2 (by simpa using e)
        exact ⟨b, by simpa using q1, q2⟩
    · cases h
section
variable {P : Program} {w : World} {K : PySem.W.Frag} {mg : Str → Option Value} {base : Heap}
/-- what the written part must hold of the defs, constants, built-ins -/
structure Txts (K : PySem.W.Frag) (mg : Str → Option Value) (gl : List (Str × D)) (tab : List DI) : Prop where
  defs : ∀ (i : Nat) (d : DI), tab[i]? = some d → ∃ fa fd, Fun K d.name d.qual d.st fa fd ∧ mg d.name = some (.ref fa) ∧ Binds K fd d.ps []
  gl : ∀ x d, gl.lookup x = some d → ∃ v u, mg x = some u ∧ RelV v u ∧ ∀ g, Rep K g v d
  blt : ∀ x ∈ bltNames, mg x = none
theorem env0_ok {g : G} {vs : List V} {ds : List D} {N : List Str} {n : Nat} (rs : Reps K g vs ds) (hn : n = N.length) : RelE K g (ds.map some ++ List.replicate (n - ds.length) none) (L2.start N vs) := by
  subst hn
  refine ⟨by unfold L2.start; simp [rs.len], fun i d h => ?_⟩
  unfold L2.start
  by_cases hi : i < ds.length
  · rw [List.getElem?_append_left (by simpa using hi), List.getElem?_map] at h
    cases e : ds[i]? with
    | none => rw [e] at h; cases h
    | some d' =>
      rw [e] at h
      cases h
      obtain ⟨v, hv, r⟩ := rs.get e
      exact ⟨v, by rw [List.getElem?_append_left (by rw [List.length_map, rs.len]; exact hi), List.getElem?_map, hv]; rfl, r⟩
  · rw [List.getElem?_append_right (by simpa using hi), List.getElem?_replicate] at h
    split at h <;> cases h
/-- what must be known of the classes -/
structure ClsF (P : Program) (w : World) (K : PySem.W.Frag) (mg : Str → Option Value) (base : Heap) (ce : ClsE) : Prop where
  cls : ∀ x p, ce.cl.lookup x = some p → ∃ C, ClsK P w K mg base ClsMap.m x p.1 p.2.1 p.2.2 C
  ist : ∀ x p, ce.ist.lookup x = some p → ∃ cv, (mg x = some cv ∧ (∃ D, cv = .ref D) ∨ mg x = none ∧ bootBuiltins x = some cv ∧ x ≠ "__name__" ∧ ∃ t, cv = .type t) ∧ Ist K cv p.1 true ∧ Ist K cv p.2 false
  ecl : Ecl K ce.flds
theorem tab_ok {gl : List (Str × D)} {tab : List DI} {fs : List Def} {ce : ClsE} (T : Txts K mg gl tab) (hcl : ClsF P w K mg base ce) (hc : cTab (tblOf gl ce tab) tab = some fs) :
    ∀ (n i : Nat) (d : DI), tab[i]? = some d → ∃ fa fd, Fun K d.name d.qual d.st fa fd ∧ mg d.name = some (.ref fa) ∧ PySem.W.keepIn K (.ref fa) = true ∧ Binds K fd d.ps [] ∧ FnOk P w K mg base (L2.CX P w) (n + 2) fa fd d.ps (spOf ⟨K, run fs n⟩ i) ∧
      (d.hot = true → FnU P w K mg base (L2.CX P w) (n + 2) fa fd d.ps (spOf ⟨K, run fs n⟩ i)) := by
  intro n
  induction n with
  | zero =>
    intro i d hd
    obtain ⟨fa, fd, F, hm, hb⟩ := T.defs i d hd
    have no : ∀ vs H Q E, ¬ spOf ⟨K, run fs 0⟩ i vs H Q E := fun vs H Q E ⟨g, M, ds, R, rs, q⟩ => q
    exact ⟨fa, fd, F, hm, F.kp, hb, ⟨fun vs H Q E h => (no vs H Q E h).elim, fun A outer s H args us vs Q E hr e0 hb hv h => (no vs H Q E h).elim⟩, fun _ => ⟨fun vs H Q E h => (no vs H Q E h).elim, fun A outer s H args us vs Q E hr e0 hb hv h => (no vs H Q E h).elim⟩⟩
  | succ n ih =>
    intro i d hd
    obtain ⟨fa, fd, F, hm, hb⟩ := T.defs i d hd
    refine ⟨fa, fd, F, hm, F.kp, hb, ?_⟩
    obtain ⟨df, hdf, hcd⟩ := cTab_at hc hd
    unfold cDef at hcd
    split at hcd
    · rename_i hsc
      simp only [Option.map_eq_some_iff] at hcd
      obtain ⟨b, hb0, rfl⟩ := hcd
      have Sc := scopeB_ok hsc
      have run_eq : ∀ ds M, run fs (n + 1) i ds M = if ds.length = d.ps.length then (match execs (run fs n) b (ds.map some ++ List.replicate (d.N.length - ds.length) none) M with
        | .done (.rt r) _ M1 => .ok r (trim M r M1)
        | .done .nx _ M1 => .ok .non (trim M .non M1)
        | .done (.ex x) _ M1 => .exc x M1
        | _ => .bad)
        else .bad := fun ds M => by
        simp only [run, hdf]
        try rfl
      have len : ∀ vs H Q E, spOf ⟨K, run fs (n + 1)⟩ i vs H Q E → vs.length = d.ps.length := fun vs H Q E h => by
        obtain ⟨g, M, ds, R, rs, q⟩ := h
        have q : Post ⟨K, run fs (n + 1)⟩ _ g H [] (run fs (n + 1) i ds M) _ := q
        rw [run_eq] at q
        by_cases hl : ds.length = d.ps.length
        · rw [rs.len, hl]
        · rw [if_neg hl] at q
          exact False.elim q
      have fns : ∀ x f, (fnsOf 0 tab).lookup x = some f → ∃ fa fd ps, FnOk P w K mg base (L2.CX P w) (n + 2) fa fd ps (spOf ⟨K, run fs n⟩ f) ∧ mg x = some (.ref fa) ∧ PySem.W.keepIn K (.ref fa) = true ∧ Binds K fd ps [] := fun x f hx => by
        obtain ⟨j, d', h1, h2, h3⟩ := fnsOf_at hx
        rw [Nat.zero_add] at h3
        subst h3 h2
        obtain ⟨fa', fd', _, m', k', b', F', _⟩ := ih _ d' h1
        exact ⟨fa', fd', d'.ps, F', m', k', b'⟩
      have fnu : ∀ x f, (hotOf 0 tab).lookup x = some f → ∃ fa fd ps, FnU P w K mg base (L2.CX P w) (n + 2) fa fd ps (spOf ⟨K, run fs n⟩ f) ∧ mg x = some (.ref fa) ∧ PySem.W.keepIn K (.ref fa) = true ∧ Binds K fd ps [] := fun x f hx => by
        obtain ⟨j, d', h1, h2, h3, h4⟩ := hotOf_at hx
        rw [Nat.zero_add] at h3
        subst h3 h2
        obtain ⟨fa', fd', _, m', k', b', _, F'⟩ := ih _ d' h1
        exact ⟨fa', fd', d'.ps, F' h4, m', k', b'⟩
      have body : ∀ (X : Cx) (vs : List V) (H : Hp) (Q : VK) (E : XK), Stat ⟨K, run fs n⟩ (fun cls d _ H => E cls d H) (n + 2) X (ctxOf (tblOf gl ce tab) d) → Bdy X (ctxOf (tblOf gl ce tab) d) → spOf ⟨K, run fs (n + 1)⟩ i vs H Q E →
          ∃ t, PSs X (defBody d.st) t ∧ t { nx := fun _ H' => Q .non H', rt := Q } (L2.start d.N vs) H := by
        intro X vs H Q E S0 B0 h
        obtain ⟨g, M, ds, R, rs, q⟩ := h
        have q : Post ⟨K, run fs (n + 1)⟩ _ g H [] (run fs (n + 1) i ds M) _ := q
        rw [run_eq] at q
        by_cases hl : ds.length = d.ps.length
        · rw [if_pos hl] at q
          refine ⟨_, blkOf_ok (fun s s' hs => cS_ok (recN_ok 40) 20 _ X _ S0 B0 s s' hs) hb0, g, _, M, R, env0_ok rs rfl, ?_⟩
          cases he : execs (run fs n) b (ds.map some ++ List.replicate (d.N.length - ds.length) none) M with
          | bad => rw [he] at q; exact q
          | done f env' M1 =>
            rw [he] at q
            intro g' H' σ' st R' RE'
            cases f with
            | nx =>
              obtain ⟨g2, st2, R2, r2⟩ := trim_ok R st R' (d := .non) (v := .non) .non
              exact q g2 H' st2 R2 .non r2
            | rt r =>
              intro v rv
              obtain ⟨g2, st2, R2, r2⟩ := trim_ok R st R' rv
              exact q g2 H' st2 R2 v r2
            | ex x => exact fun c dx X => q g' H' c dx st R' X
            | bk => exact q
            | ct => exact q
        · rw [if_neg hl] at q
          exact False.elim q
      have hU : d.hot = true → FnU P w K mg base (L2.CX P w) (n + 1 + 2) fa fd d.ps (spOf ⟨K, run fs (n + 1)⟩ i) := fun hh => by
        have no : (ctxOf (tblOf gl ce tab) d).hot = false → False := fun z => by
          rw [show (ctxOf (tblOf gl ce tab) d).hot = d.hot from rfl, hh] at z
          cases z
        exact Fun.okU F Sc len fun cdv A outer s H vs Q E hr h => body _ vs H Q E
          ⟨rfl, Sc.nd, rfl, Sc.kind, fun _ _ => rfl, rfl, fun z => (no z).elim, fun z => (no z).elim, hr, takes_of rfl rfl rfl rfl, T.gl, fns, T.blt, hcl.cls, Nat.le_add_left 2 n, fnu, hcl.ist, hcl.ecl⟩
          ⟨fun z => (no z).elim, rfl, rfl, rfl⟩ h
      refine ⟨?_, hU⟩
      cases hh : d.hot with
      | true => exact (hU hh).ok
      | false =>
        refine F.okX Sc len (fun cdv A outer s H vs Q E hr h => body _ vs H Q E
          ⟨rfl, Sc.nd, rfl, Sc.kind, fun _ _ => rfl, rfl, fun _ => rfl, fun _ => hr, .of hr, takes_of rfl rfl rfl rfl, T.gl, fns, T.blt, hcl.cls, by omega, fnu, hcl.ist, hcl.ecl⟩ ⟨fun _ => passes_of rfl, rfl, rfl, rfl⟩ h)
    · cases hcd
/-- the law's promise at its own call -/
theorem law_sp {gl : List (Str × D)} {tab : List DI} {fs : List Def} {n i : Nat} (h : ∀ ns : List Int, ns.length ≤ 63 → ∃ M, run fs n i [.klist (ns.map .int)] [] = .ok (.bl true) M) (H : Hp) (a : Addr) (ns : List Int) (hl : ns.length ≤ 63) (hs : SqL K H a (ns.map V.int)) :
    spOf ⟨K, run fs n⟩ i [.ref a] H (fun v _ => v = .bl true) fun _ _ _ => False := by
  obtain ⟨M, e⟩ := h ns hl
  have allI : ∀ l : List Int, Reps K ⟨H, []⟩ (l.map V.int) (l.map D.int) := fun l => by
    induction l with
    | nil => exact .nil
    | cons x l ih => exact .cons (.int x) ih
  refine ⟨⟨H, []⟩, [], [.klist (ns.map .int)], ⟨Same.refl _, rfl, by simp, by simp, fun n a c e => by simp at e⟩, .cons (.klst hs (allI ns)) .nil, ?_⟩
  show Post ⟨K, run fs n⟩ _ _ H [] (run fs n i _ []) _
  rw [e]
  intro g' H' st R v r
  cases r
  rfl
end
end DP

/-! DP.End: what the head tells of the defs and constants. -/
namespace DP
open PySem PySem.Spec PyProof.Rows L2
variable [ClsMap]
/-- a def as it stands behind the top -/
structure At (K : PySem.W.Frag) (st : Stmt) (x q : Str) (f : Addr) : Prop where
  n : PySem.W.nsIn K mainGlobals x = some (some (.ref f))
  l : ∃ (oc : Value) (od an : Option Addr) (kV doc pm cdv ct : Value) (sl : Array (Option Value)), K.lookup f = some ⟨oc, od, .func (PySem.W.fnOf x q (defArgs st) (defBody st) (defScope st) .none kV doc pm an cdv ct), sl⟩ ∧ PySem.W.codeIn K cdv q = true
  k : PySem.W.keepIn K (.ref f) = true
theorem At.mk' {K : PySem.W.Frag} {st : Stmt} {x q : Str} {f : Addr} {oc : Value} {od an : Option Addr} {kV doc pm cdv ct : Value} {sl : Array (Option Value)} (n : PySem.W.nsIn K mainGlobals x = some (some (.ref f)))
    (l : K.lookup f = some ⟨oc, od, .func (PySem.W.fnOf x q (defArgs st) (defBody st) (defScope st) .none kV doc pm an cdv ct), sl⟩) (c : PySem.W.codeIn K cdv q = true) (k : PySem.W.keepIn K (.ref f) = true) : ∃ f, At K st x q f := ⟨f, n, ⟨_, _, _, _, _, _, _, _, _, l, c⟩, k⟩
/-- how its arguments bind -/
def BindOk (st : Stmt) (x q : Str) (ps : List Str) : Prop := ∀ (kV doc pm : Value) (an : Option Addr) (cdv ct : Value) (us : List Value), us.length = ps.length → bindArgs (PySem.W.fnOf x q (defArgs st) (defBody st) (defScope st) .none kV doc pm an cdv ct) ⟨us, []⟩ = pure (ps.zip us)
def DefOk (K : PySem.W.Frag) (mg : Str → Option Value) (d : DI) : Prop := ∃ fa fd, Fun K d.name d.qual d.st fa fd ∧ mg d.name = some (.ref fa) ∧ Binds K fd d.ps []
theorem At.ok {K : PySem.W.Frag} {h : Heap} {mg : Str → Option Value} (X : K.In h) (G : h.Ns mainGlobals mg) {d : DI} (a : ∃ f, At K d.st d.name d.qual f) (b : BindOk d.st d.name d.qual d.ps) : DefOk K mg d := by
  obtain ⟨f, n, ⟨oc, od, an, kV, doc, pm, cdv, ct, sl, l, c⟩, k⟩ := a
  have F : Fun K d.name d.qual d.st f _ := fun_mk l c k
  exact ⟨f, _, F, PySem.W.mg_of X G n, F.binds b⟩
/-- a constant -/
def GlOk (K : PySem.W.Frag) (mg : Str → Option Value) (x : Str) (d : D) : Prop := ∃ v u, mg x = some u ∧ RelV v u ∧ ∀ g, Rep K g v d
section
variable {K : PySem.W.Frag} {h : Heap} {mg : Str → Option Value} (X : K.In h) (G : h.Ns mainGlobals mg)
include X G
theorem gl_int {x : Str} {i : Int} {t : Tok} (n : PySem.W.nsIn K mainGlobals x = some (some (.int i t))) : GlOk K mg x (.int i) := ⟨.int i, _, PySem.W.mg_of X G n, ⟨t, rfl⟩, fun _ => .int _⟩
theorem gl_str {x : Str} {i : Str} {t : Tok} (n : PySem.W.nsIn K mainGlobals x = some (some (.str i t))) : GlOk K mg x (.str i) := ⟨.str i, _, PySem.W.mg_of X G n, ⟨t, rfl⟩, fun _ => .str _⟩
theorem gl_tup {x : Str} {a : Addr} {ds : List D} {od : Option Addr} {its : Array Value} {nn : Nat} {sl : Array (Option Value)} {vs : List V} (n : PySem.W.nsIn K mainGlobals x = some (some (.ref a))) (l : K.lookup a = some ⟨.type "tuple", od, .seq its nn, sl⟩) (hz : its.size ≤ sizeLine)
    (hv : Vals vs its.toList) (hr : ∀ g, Reps K g vs ds) : GlOk K mg x (.tup ds) := ⟨.ref a, _, PySem.W.mg_of X G n, rfl, fun g => .tup (.inr ⟨_, its, nn, l, rfl, rfl, hz, hv⟩) (hr g)⟩
end
theorem all_nil {α : Type} {P : α → Prop} : ∀ d ∈ ([] : List α), P d := fun _ h => by cases h
theorem all_cons {α : Type} {P : α → Prop} {a : α} {l : List α} (h : P a) (t : ∀ d ∈ l, P d) : ∀ d ∈ a :: l, P d := fun d m => by
  rcases List.mem_cons.mp m with e | m
  · exact e ▸ h
  · exact t d m
theorem lookup_mem {α : Type} : ∀ {l : List (Str × α)} {x : Str} {d : α}, l.lookup x = some d → (x, d) ∈ l
  | [], _, _, h => by cases h
  | (y, e) :: l, x, d, h => by
    rw [List.lookup_cons] at h
    split at h
    · rename_i q
      cases h
      rw [beq_iff_eq.mp q]
      exact List.mem_cons_self
    · exact List.mem_cons_of_mem _ (lookup_mem h)
theorem txts_mk {K : PySem.W.Frag} {mg : Str → Option Value} {gl : List (Str × D)} {tab : List DI} (h1 : ∀ d ∈ tab, DefOk K mg d) (h2 : ∀ p ∈ gl, GlOk K mg p.1 p.2) (h3 : ∀ x ∈ bltNames, mg x = none) : Txts K mg gl tab :=
  ⟨fun i d e => h1 d (List.mem_of_getElem? e), fun x d e => h2 (x, d) (lookup_mem e), h3⟩
/-- two looks at one def -/
theorem Fun.same {K : PySem.W.Frag} {x q : Str} {st : Stmt} {f : Addr} {fd fd' : FuncData} (a : Fun K x q st f fd) (b : Fun K x q st f fd') : fd = fd' := by
  obtain ⟨_, _, _, _, _, _, _, _, _, _, l, _⟩ := a.ex
  obtain ⟨_, _, _, _, _, _, _, _, _, _, l', _⟩ := b.ex
  rw [l] at l'
  injection l' with e
  injection e with _ _ e _
  injection e
theorem law_fn {P : Program} {w : World} {K : PySem.W.Frag} {mg : Str → Option Value} {fa : Addr} {gl : List (Str × D)} {tab : List DI} {fs : List Def} {n i : Nat} {d : DI} {ce : ClsE} (T : Txts K mg gl tab) (hcl : ∀ base : Heap, ClsF P w K mg base ce) (hc : cTab (tblOf gl ce tab) tab = some fs) (hd : tab[i]? = some d) (hp : d.ps = (["script"] : List Str)) (hfa : mg d.name = some (.ref fa)) (hb : BindOk d.st d.name d.qual d.ps) :
    ∃ fd : FuncData, (∀ (s : Shared) (v : Value), BindsTo s fd ⟨[v], []⟩ [("script", v)]) ∧ ∀ base : Heap, FnOk P w K mg base (L2.CX P w) (n + 2) fa fd ["script"] (spOf ⟨K, run fs n⟩ i) := by
  obtain ⟨fa', fd, F, hm, _⟩ := T.defs i d hd
  have e : fa' = fa := by
    have e := hm.symm.trans hfa
    cases e
    rfl
  subst e
  refine ⟨fd, fun s v => ?_, fun base => ?_⟩
  · obtain ⟨oc, od, kV, doc, pm, an, cdv, ct, osl, e, lk, hcd⟩ := F.ex
    subst e
    have := hb kV doc pm an cdv ct [v] (by rw [hp]; rfl)
    rw [hp] at this
    exact .of_eq this
  · obtain ⟨fb, fd', F2, m2, _, _, G, _⟩ := tab_ok (P := P) (w := w) (base := base) T (hcl base) hc n i d hd
    have e2 : fb = fa' := by
      have e := m2.symm.trans hm
      cases e
      rfl
    subst e2
    rw [DP.Fun.same F F2, ← hp]
    exact G
end DP

/-! DP.ClsEnd: what the head tells of a raised class. -/
namespace DP
open PySem PySem.Spec PyProof.Rows L2 NdefX
/-- the classes by the module's names -/
@[reducible] def clsMapOf (K : PySem.W.Frag) (names : List Str) : ClsMap where
  m := fun c => match names[c]? with
    | some x => match PySem.W.nsIn K mainGlobals x with
      | some (some (.ref C)) => some C
      | _ => none
    | none => none
theorem clsMapOf_at {K : PySem.W.Frag} {names : List Str} {c : Nat} {x : Str} {C : Addr} (h : names[c]? = some x) (n : PySem.W.nsIn K mainGlobals x = some (some (.ref C))) : (clsMapOf K names).m c = some C := by
  show (match names[c]? with
    | some x => match PySem.W.nsIn K mainGlobals x with
      | some (some (.ref C)) => some C
      | _ => none
    | none => none) = _
  rw [h]
  simp only [n]
/-- a store self.g = p: the three names -/
def asg1 : Stmt → Option (Str × Str × Str)
  | .Assign ts v _ => match ts with
    | [t] => match t with
      | .Attribute o g _ => match o with
        | .Name f _ => match v with
          | .Name x _ => some (f, g, x)
          | _ => none
        | _ => none
      | _ => none
    | _ => none
  | _ => none
theorem asg1_ok {st : Stmt} {f g x : Str} (h : asg1 st = some (f, g, x)) : ∃ q1 q2 q3 q4, st = .Assign [.Attribute (.Name f q1) g q2] (.Name x q3) q4 := by
  unfold asg1 at h
  split at h
  · split at h
    · split at h
      · split at h
        · split at h
          · cases h
            exact ⟨_, _, _, _, rfl⟩
          · cases h
        · cases h
      · cases h
    · cases h
  · cases h
/-- the stores of an __init__ -/
def restB (N : List Str) (first : Str) : List Stmt → List (Str × Nat) → Bool
  | [], r => r.isEmpty
  | s :: rest, r => match r with
    | [] => false
    | (g', j) :: r => match asg1 s with
      | some (f, g, x) => f == first && g == g' && decide (N[j]? = some x) && !(x == ("__debug__" : Str)) && !(x == ("__classdict__" : Str)) && restB N first rest r
      | none => false
theorem restB_ok [ClsMap] {X : Cx} {first : Str} : ∀ {body : List Stmt} {r : List (Str × Nat)}, (∀ p ∈ r, ∀ x, X.N[p.2]? = some x → Vis X.env.scope x) → restB X.N first body r = true → ARest X first body r
  | [], [], _, _ => .nil
  | [], _ :: _, _, h => by cases h
  | s :: rest, [], _, h => by cases h
  | s :: rest, (g', j) :: r, h1, h => by
    simp only [restB] at h
    split at h
    · rename_i f g x ha
      obtain ⟨q1, q2, q3, q4, rfl⟩ := asg1_ok ha
      simp only [Bool.and_eq_true, beq_iff_eq, decide_eq_true_eq, Bool.not_eq_true'] at h
      obtain ⟨⟨⟨⟨⟨rfl, rfl⟩, h3⟩, h4⟩, h5⟩, h6⟩ := h
      exact .cons h3 (h1 _ List.mem_cons_self x h3) h4 h5 (swaps_of rfl) (restB_ok (fun p m => h1 p (List.mem_cons_of_mem _ m)) h6)
    · cases h
/-- the def in a class's body -/
def initOf (st : Stmt) : Stmt := match st with
  | .ClassDef _ _ _ body _ _ _ _ _ _ _ => body.headD (.Pass ⟨0, 0, 0, 0⟩)
  | _ => .Pass ⟨0, 0, 0, 0⟩
/-- an own class's text: the def __init__, its parameters, the fields -/
structure InitText (P : Program) (st : Stmt) (qual first : Str) (ps N : List Str) (g : Str) (j : Nat) (r : List (Str × Nat)) : Prop where
  body : ∃ (lit : Str) (jj : Nat) (p0 p1 p2 p3 p4 p5 : Pos) (rest : List Stmt), defBody st = .Expr (.Call (.Attribute (.Call (.Name "super" p0) [] [] p1) "__init__" p2) [.Constant (.str lit) jj p3] [] p4) p5 :: rest ∧ restB N first rest ((g, j) :: r) = true ∧
    ∀ env : PySem.Env, eval (.Call (.Attribute (.Call (.Name "super" p0) [] [] p1) "__init__" p2) [.Constant (.str lit) jj p3] [] p4) env = (do
      let ov ← attributeBase (.Call (.Name "super" p0) [] [] p1) "__init__" env (eval (.Call (.Name "super" p0) [] [] p1) env)
      standAt p2.atName
      let (f, first) ← holding [ov] (getMethod ov "__init__" (pure false))
      callWith p4 f first (backTo p4 (starEach [.Constant (.str lit) jj p3] env)) [])
  sc : nscB N ps ["__class__"] (defScope st) = true
  N0 : N[0]? = some first
  par : ∃ ar, ((defArgs st).posonlyargs ++ (defArgs st).args).head? = some ar ∧ ar.arg = first
  sup : (defScope st).names.lookup ("super" : Str) = some .globalImplicit
  slf : (defScope st).names.lookup first = some .local
  top : (P.main.scope.names.lookup ("super" : Str)).isSome = false
  sl : ∀ p ∈ (g, j) :: r, ∀ x, N[p.2]? = some x → (defScope st).names.lookup x = some .local
  d0 : (first == ("__debug__" : Str)) = false ∧ (first == ("__classdict__" : Str)) = false
  few : r.length ≤ 800
  bd : ∀ (kV doc pm ctv : Value) (an : Option Addr) (cda cc : Addr) (us : List Value), us.length = ps.length → bindArgs (PySem.W.fnX "__init__" qual (defArgs st) (defBody st) (defScope st) [("__class__", cc)] .none kV doc pm an (.ref cda) ctv) ⟨us, []⟩ = pure (ps.zip us)
theorem clsK_of [ClsMap] {P : Program} {w : World} {K : PySem.W.Frag} {h : Heap} {mg : Str → Option Value} {base : Heap} {x qual first : Str} {ps N : List Str} {c m : Nat} {g : Str} {j : Nat} {r : List (Str × Nat)} {st : Stmt} {C fI cda cc : Addr}
    {oc kV doc pm ctv ccl cl : Value} {od an cdd cld : Option Addr} {osl ccs csl : Array (Option Value)} {fs : Array Value} {file : Str} {tf : Tok} {cd : ClassData} (X : K.In h) (G : h.Ns mainGlobals mg)
    (tx : InitText P st qual first ps N g j r) (hm : ps.length = m + 1) (few : m ≤ 1000) (num : ClsMap.m c = some C) (n : PySem.W.nsIn K mainGlobals x = some (some (.ref C))) (T : OexC K C)
    (i1 : PySem.W.findIn K (.ref C) "__init__" = some (some (.ref fI))) (i2 : PySem.W.typeIn K (.ref fI) = some (.type "function"))
    (l1 : K.lookup fI = some ⟨oc, od, .func (PySem.W.fnX "__init__" qual (defArgs st) (defBody st) (defScope st) [("__class__", cc)] .none kV doc pm an (.ref cda) ctv), osl⟩) (l2 : PySem.W.codeIn K (.ref cda) qual = true)
    (f1 : K.lookup cda = some ⟨ccl, cdd, .fields fs, ccs⟩) (f2 : fs[2]? = some (.str file tf)) (f3 : ((P.main.file : Str) == file) = true) (ce : K.lookup cc = some ⟨cl, cld, .cell (some (.ref C)), csl⟩)
    (any : PySem.W.nsIn K cStatics "thirdparty.any" = some none) (m1 : PySem.W.clsIn K C = some cd) (m2 : PySem.W.alongIn K "__init__" ((cd.mro.dropWhile (· != .ref C)).drop 1) = some (some (.builtin "ValueError.__init__")))
    (own : PySem.W.mroIn K C (.ref C) = some true) (ve : PySem.W.subIn K (.ref C) (.type "ValueError") = some true) (zs : PySem.W.nsIn K mainGlobals "super" = some none) (hn : ∀ p ∈ (g, j) :: r, PySem.W.findIn K (.ref C) p.1 = some none) :
    ClsK P w K mg base ClsMap.m x c m ((g, j) :: r) C := by
  obtain ⟨lit, jj, p0, p1, p2, p3, p4, p5, rest, hb, hrest, hev⟩ := tx.body
  have Sc := nscope_by tx.sc
  have hcls : (defScope st).names.lookup ("__class__" : Str) = some .free := Sc.frk _ List.mem_cons_self
  refine ⟨num, PySem.W.mg_of X G n, T, ⟨fI, PySem.W.fnX "__init__" qual (defArgs st) (defBody st) (defScope st) [("__class__", cc)] .none kV doc pm an (.ref cda) ctv, ps, N, i1, i2, ?_, ?_⟩, few⟩
  · refine fn_init (k := 0) (lit := lit) (F := ⟨"__init__", qual, defArgs st, defBody st, defScope st, [("__class__", cc)], cda⟩) (cc := cc) (first := first) rfl l1 l2 Sc (fun L => ?_) T tx.N0 (PySem.W.mg_none_of X G zs) hb (fun A E env Q s hq => ?_) hev (fun env => rfl) (fun L => ?_) (fun env => swaps_of rfl) hm tx.d0.1 tx.d0.2 hn tx.few fun A outer s H E => ?_
    · exact {
        fn := rfl
        code := rfl
        fd := let ⟨ar, a1, a2⟩ := tx.par; ⟨_, _, _, _, ar, l1, a1, a2⟩
        file := ⟨_, _, _, _, _, _, f1, f2, f3⟩
        cell := ⟨_, _, _, ce⟩
        cellE := rfl
        sup := tx.sup
        cls := hcls
        slf := tx.slf
        kind := Sc.kind
        glb := rfl
        blt := rfl
        top := tx.top
        any := any
        mro := ⟨cd, m1, m2⟩
        own := own
        ve := ve }
    · exact Calls.Constant_str (hq _ _)
    · show ((defScope st).kind == .module && _) = false
      rw [Sc.kind]
      rfl
    · exact restB_ok (fun p m x hx => .inl (tx.sl p m x hx)) hrest
  · exact Binds.all fun us hl => tx.bd _ _ _ _ _ _ _ us hl
end DP

/-! DP.ClsEnd2: the classes of a row that raises one class. -/
namespace DP
open PySem PySem.Spec PyProof.Rows L2 NdefX
/-- what the head tells of a class x, the raised class at C: isinstance answers b -/
def IsC (K : PySem.W.Frag) (x : Str) (C : Addr) (b : Bool) : Prop := ∃ D, PySem.W.nsIn K mainGlobals x = some (some (.ref D)) ∧ PySem.W.isClsIn K D = true ∧ PySem.W.typeIn K (.ref D) = some (.type "type") ∧ PySem.W.subIn K (.ref C) (.ref D) = some b ∧ PySem.W.subIn K (.ref D) (.type "BaseException") = some true ∧ (b = true ∨ C ≠ D)
theorem IsC.mk' {K : PySem.W.Frag} {x : Str} {C D : Addr} {b : Bool} (n : PySem.W.nsIn K mainGlobals x = some (some (.ref D))) (i : PySem.W.isClsIn K D = true) (t : PySem.W.typeIn K (.ref D) = some (.type "type")) (s : PySem.W.subIn K (.ref C) (.ref D) = some b) (e : PySem.W.subIn K (.ref D) (.type "BaseException") = some true) (d : b = true ∨ C ≠ D) : IsC K x C b := ⟨D, n, i, t, s, e, d⟩
theorem kit_of {K : PySem.W.Frag} {C D : Addr} {b : Bool} (i : PySem.W.isClsIn K D = true) (t : PySem.W.typeIn K (.ref D) = some (.type "type")) (s : PySem.W.subIn K (.ref C) (.ref D) = some b) (e : PySem.W.subIn K (.ref D) (.type "BaseException") = some true) (d : b = true ∨ C ≠ D) :
    PySem.W.kitOne K (.ref C) (.ref D) = some b ∧ PySem.W.exmOne K (.ref C) (.ref D) = some b := by
  have hi : (PySem.W.clsIn K D).isSome = true := i
  have hk : PySem.W.kitCls K (.ref C) (.ref D) = some b := by
    unfold PySem.W.kitCls
    simp only [hi, t, Bool.true_and]
    rw [if_pos (by rfl)]
    exact s
  refine ⟨?_, ?_⟩
  · unfold PySem.W.kitOne
    by_cases q : ((Value.ref C == Value.ref D) = true)
    · rw [if_pos q]
      rcases d with d | d
      · rw [d]
      · exfalso
        have : C = D := by
          have := beq_iff_eq.mp q
          injection this
        exact d this
    · rw [if_neg q, hk]
  · unfold PySem.W.exmOne
    rw [e, if_pos (by rfl), hk]
theorem kit_ty {K : PySem.W.Frag} {C : Addr} {T : String} {b : Bool} (i : PySem.W.kitMeta T = true) (s : PySem.W.subIn K (.ref C) (.type T) = some b) (e : PySem.W.subIn K (.type T) (.type "BaseException") = some true) :
    PySem.W.kitOne K (.ref C) (.type T) = some b ∧ PySem.W.exmOne K (.ref C) (.type T) = some b := by
  have hk : PySem.W.kitCls K (.ref C) (.type T) = some b := by
    unfold PySem.W.kitCls
    simp only [i, if_true]
    exact s
  refine ⟨?_, ?_⟩
  · unfold PySem.W.kitOne
    rw [if_neg (by
      intro q
      have := beq_iff_eq.mp q
      cases this), hk]
  · unfold PySem.W.exmOne
    rw [e, if_pos (by rfl), hk]
theorem m_one {K : PySem.W.Frag} {x : Str} {C0 : Addr} (n : PySem.W.nsIn K mainGlobals x = some (some (.ref C0))) {c : Nat} {C : Addr} (h : (clsMapOf K [x]).m c = some C) : c = 0 ∧ C = C0 := by
  cases c with
  | zero =>
    rw [clsMapOf_at (c := 0) rfl n] at h
    exact ⟨rfl, (Option.some.inj h).symm⟩
  | succ c =>
    have e : (clsMapOf K [x]).m (c + 1) = none := rfl
    rw [e] at h
    cases h
/-- one name that an except clause or isinstance may name -/
def IstOk (K : PySem.W.Frag) (mg : Str → Option Value) (names : List Str) (q : Str × List Nat × List Nat) : Prop := ∃ cv, (mg q.1 = some cv ∧ (∃ D, cv = .ref D) ∨ mg q.1 = none ∧ bootBuiltins q.1 = some cv ∧ q.1 ≠ "__name__" ∧ ∃ t, cv = .type t) ∧ @Ist (clsMapOf K names) K cv q.2.1 true ∧ @Ist (clsMapOf K names) K cv q.2.2 false
section
variable {K : PySem.W.Frag} {h : Heap} {mg : Str → Option Value} {x0 : Str} {C0 : Addr} (X : K.In h) (G : h.Ns mainGlobals mg) (n0 : PySem.W.nsIn K mainGlobals x0 = some (some (.ref C0)))
include X G n0
theorem ist_yes {x : Str} (a : IsC K x C0 true) : IstOk K mg [x0] (x, [0], []) := by
  obtain ⟨D, n, i, t, s, e, d⟩ := a
  refine ⟨.ref D, .inl ⟨PySem.W.mg_of X G n, D, rfl⟩, fun c hc C hC => ?_, fun c hc => by cases hc⟩
  obtain ⟨_, rfl⟩ := m_one n0 hC
  exact kit_of i t s e d
theorem ist_no {x : Str} (a : IsC K x C0 false) : IstOk K mg [x0] (x, [], [0]) := by
  obtain ⟨D, n, i, t, s, e, d⟩ := a
  refine ⟨.ref D, .inl ⟨PySem.W.mg_of X G n, D, rfl⟩, fun c hc => (by cases hc), fun c hc C hC => ?_⟩
  obtain ⟨_, rfl⟩ := m_one n0 hC
  exact kit_of i t s e d
theorem ist_ty {x : Str} {T : String} (z : PySem.W.nsIn K mainGlobals x = some none) (bt : bootBuiltins x = some (.type T)) (hx : x ≠ "__name__") (i : PySem.W.kitMeta T = true) (s : PySem.W.subIn K (.ref C0) (.type T) = some true) (e : PySem.W.subIn K (.type T) (.type "BaseException") = some true) : IstOk K mg [x0] (x, [0], []) := by
  refine ⟨.type T, .inr ⟨PySem.W.mg_none_of X G z, bt, hx, T, rfl⟩, fun c hc C hC => ?_, fun c hc => by cases hc⟩
  obtain ⟨_, rfl⟩ := m_one n0 hC
  exact kit_ty i s e
theorem clsF_one {P : Program} {w : World} {base : Heap} {m : Nat} {r : List (Str × Nat)} {ce : ClsE} (hcl : ce.cl = [(x0, 0, m, r)]) (k : ClsK P w K mg base (clsMapOf K [x0]).m x0 0 m r C0) (is : ∀ q ∈ ce.ist, IstOk K mg [x0] q) (ex : ExcC K C0) (fl : ∀ f ∈ ce.flds, PySem.W.findIn K (.ref C0) f = some none) :
    @ClsF (clsMapOf K [x0]) P w K mg base ce := by
  letI := clsMapOf K [x0]
  refine ⟨fun x p hp => ?_, fun x p hp => is (x, p) (lookup_mem hp), fun c C hC => ?_⟩
  · have hm := lookup_mem hp
    rw [hcl] at hm
    cases List.mem_singleton.mp hm
    exact ⟨C0, k⟩
  · obtain ⟨_, rfl⟩ := m_one n0 hC
    exact ⟨ex, fl⟩
end
/-- the base's base behind super() -/
theorem along_of {K : PySem.W.Frag} {C L : Addr} {cd cdL : ClassData} {name : Str} {v : Value} (hL : PySem.W.clsIn K L = some cdL) (f : PySem.W.findIn K (.ref L) name = some (some v)) (e : (cd.mro.dropWhile (· != .ref C)).drop 1 = cdL.mro) :
    PySem.W.alongIn K name ((cd.mro.dropWhile (· != .ref C)).drop 1) = some (some v) := by
  obtain ⟨cd2, h2, ha⟩ := PySem.W.kw_along f
  rw [hL] at h2
  cases h2
  rw [e]
  exact ha
/-! the same facts where the class map is named -/
theorem At.mk2 {K : PySem.W.Frag} {st : Stmt} {x q : Str} {f : Addr} {oc : Value} {od an : Option Addr} {kV doc pm cdv ct : Value} {sl : Array (Option Value)} (n : PySem.W.nsIn K mainGlobals x = some (some (.ref f)))
    (l : K.lookup f = some ⟨oc, od, .func (PySem.W.fnOf x q (defArgs st) (defBody st) (defScope st) .none kV doc pm an cdv ct), sl⟩) (c : PySem.W.codeIn K cdv q = true) (k : PySem.W.keepIn K (.ref f) = true) : ∃ f, At K st x q f := ⟨f, n, ⟨_, _, _, _, _, _, _, _, _, l, c⟩, k⟩
section
variable {cm : ClsMap} {K : PySem.W.Frag} {h : Heap} {mg : Str → Option Value} (X : K.In h) (G : h.Ns mainGlobals mg)
include X G
theorem gl_int2 {x : Str} {i : Int} {t : Tok} (n : PySem.W.nsIn K mainGlobals x = some (some (.int i t))) : @GlOk cm K mg x (.int i) := @gl_int cm _ _ _ X G _ _ _ n
theorem gl_str2 {x : Str} {i : Str} {t : Tok} (n : PySem.W.nsIn K mainGlobals x = some (some (.str i t))) : @GlOk cm K mg x (.str i) := @gl_str cm _ _ _ X G _ _ _ n
theorem gl_tup2 {x : Str} {a : Addr} {ds : List D} {od : Option Addr} {its : Array Value} {nn : Nat} {sl : Array (Option Value)} {vs : List V} (n : PySem.W.nsIn K mainGlobals x = some (some (.ref a))) (l : K.lookup a = some ⟨.type "tuple", od, .seq its nn, sl⟩) (hz : its.size ≤ sizeLine)
    (hv : Vals vs its.toList) (hr : ∀ g, @Reps cm K g vs ds) : @GlOk cm K mg x (.tup ds) := @gl_tup cm _ _ _ X G _ _ _ _ _ _ _ _ n l hz hv hr
end
theorem reps_strs {cm : ClsMap} {K : PySem.W.Frag} {g : G} : ∀ ss : List Str, @Reps cm K g (ss.map V.str) (ss.map D.str)
  | [] => @Reps.nil cm K g
  | s :: ss => @Reps.cons cm K g _ _ _ _ (@Rep.str cm K g s) (reps_strs ss)
end DP

namespace K01
open PySem L2 DP
def top (i : Nat) : Stmt := PySem.Challenge.pw_everylater_k01_each_bad_text.main.body.getD i (.Pass ⟨0, 0, 0, 0⟩)
def tab : List DI := [
  { st := top 20, name := "text_lines", qual := "text_lines", ps := ["text", "lines", "signs"], N := ["text", "lines", "signs", "found", "line"] },
  { st := top 26, name := "word_like", qual := "word_like", ps := ["text"], N := ["text", "sign"] },
  { st := top 27, name := "number_like", qual := "number_like", ps := ["text"], N := ["text", "figures", "sign"] },
  { st := top 31, name := "parted", qual := "parted", ps := ["words", "sign"], N := ["words", "sign", "found", "word"], mutN := ["found"], retF := true, argM := true },
  { st := top 32, name := "read_condition", qual := "read_condition", ps := ["words"], N := ["words", "sign", "behind", "word", "numbers", "at"] },
  { st := top 33, name := "read_conditions", qual := "read_conditions", ps := ["words", "sign", "least", "most"], N := ["words", "sign", "least", "most", "found", "part"] },
  { st := top 34, name := "read_plain", qual := "read_plain", ps := ["words"], N := ["words", "told"] },
  { st := top 35, name := "read_form", qual := "read_form", ps := ["words"], N := ["words", "first", "found", "parts", "behind"] },
  { st := top 39, name := "read_lines", qual := "read_lines", ps := ["text"], N := ["text", "found", "at", "line"], mutN := ["found"], retF := true },
  { st := top 40, name := "read_line", qual := "read_line", ps := ["line", "number"], N := ["line", "number", "sign", "words", "found"] },
  { st := top 41, name := "words_like", qual := "words_like", ps := ["words"], N := ["words", "word"] },
  { st := top 42, name := "line_of", qual := "line_of", ps := ["words"], N := ["words", "kind", "form"] },
  { st := top 44, name := "_law_keywords", qual := "_law_keywords", ps := [], N := [] },
  { st := top 45, name := "_law_signs", qual := "_law_signs", ps := ["source", "many"], N := ["source", "many", "letters", "found", "at"] },
  { st := top 46, name := "_law_word", qual := "_law_word", ps := ["source"], N := ["source"] },
  { st := top 47, name := "_law_figure", qual := "_law_figure", ps := ["source"], N := ["source", "found", "at"] },
  { st := top 48, name := "_law_numbers", qual := "_law_numbers", ps := ["source", "many"], N := ["source", "many", "found", "at"], mutN := ["found"] },
  { st := top 49, name := "_law_any_cond", qual := "_law_any_cond", ps := ["source"], N := ["source", "sign", "many"] },
  { st := top 50, name := "_law_any_conds", qual := "_law_any_conds", ps := ["source", "least", "most"], N := ["source", "least", "most", "many", "at"] },
  { st := top 51, name := "_law_any_form", qual := "_law_any_form", ps := ["source"], N := ["source", "kind", "behind"] },
  { st := top 52, name := "_law_any_words", qual := "_law_any_words", ps := ["source"], N := ["source", "at"] },
  { st := top 53, name := "_law_any_line", qual := "_law_any_line", ps := ["source"], N := ["source", "kind", "line"] },
  { st := top 54, name := "_law_any_lines", qual := "_law_any_lines", ps := ["source", "many"], N := ["source", "many", "at"] },
  { st := top 55, name := "_law_source", qual := "_law_source", ps := ["script", "at"], N := ["script", "at", "cell", "one", "size", "small"], retM := true },
  { st := top 56, name := "_law_pick", qual := "_law_pick", ps := ["source", "many"], N := ["source", "many", "found"] },
  { st := top 57, name := "_law_same", qual := "_law_same", ps := ["answer", "due"], N := ["answer", "due", "key", "at"] },
  { st := top 58, name := "_law_fault", qual := "_law_fault", ps := ["error"], N := ["error", "found"], mutN := ["found"], hot := true },
  { st := top 59, name := "_law_cond_text", qual := "_law_cond_text", ps := ["cond"], N := ["cond", "number"] },
  { st := top 60, name := "_law_form_text", qual := "_law_form_text", ps := ["form"], N := ["form", "one"] },
  { st := top 61, name := "_law_line", qual := "_law_line", ps := ["line"], N := ["line"] },
  { st := top 62, name := "_law_word_pairs", qual := "_law_word_pairs", ps := ["source", "a", "b", "n"], N := ["source", "a", "b", "n", "long", "big", "key"] },
  { st := top 63, name := "_law_form_pairs", qual := "_law_form_pairs", ps := ["source", "a", "b", "n"], N := ["source", "a", "b", "n", "one", "word", "told", "at", "eight"] },
  { st := top 64, name := "_law_wrong_sign", qual := "_law_wrong_sign", ps := ["source", "text"], N := ["source", "text", "kind", "at"] },
  { st := top 65, name := "_law_faulty", qual := "_law_faulty", ps := ["source"], N := ["source", "a", "b", "n", "kind", "line", "first", "pairs", "text", "form", "head"] },
  { st := top 66, name := "_law_read", qual := "_law_read", ps := ["text"], N := ["text", "told", "e"] },
  { st := top 67, name := "law", qual := "law", ps := ["script"], N := ["script", "source", "lines", "rows", "line", "wrong", "turn", "at", "text", "what", "due", "bad", "later", "both", "near"] }]
def gl : List (Str × D) := [("LINES", (.int (600))), ("SIGNS", (.int (800))), ("LETTERS", (.str "abcdefghijklmnopqrstuvwxyz")), ("FIGURES", (.str "0123456789")), ("LINE_SIGNS", (.str "abcdefghijklmnopqrstuvwxyz0123456789 :+<>=,-")), ("KEYWORDS", (.tup [(.str "name"), (.str "row"), (.str "must"), (.str "block"), (.str "end"), (.str "use"), (.str "mustuse"), (.str "close"), (.str "either"), (.str "or"), (.str "if"), (.str "and"), (.str "then"), (.str "at"), (.str "most"), (.str "least"), (.str "of"), (.str "in"), (.str "not")])), ("CONDITIONS", (.int (8))), ("CHOICES", (.int (13))), ("LINE_WORDS", (.tup [(.str "name"), (.str "row"), (.str "must"), (.str "use"), (.str "mustuse"), (.str "block"), (.str "end"), (.str "close")])), ("PARAMETERS", (.int (4)))]
def ce : ClsE := { cl := [("BadText", 0, 2, [("line", 1), ("what", 2)])], ist := [("TooMany", [], [0]), ("BadText", [0], []), ("BadQuestion", [], [0]), ("BadPlan", [], [0]), ("BadLabels", [], [0]), ("BadBounds", [], [0]), ("BadReach", [], [0]), ("BadSheet", [], [0]), ("BadLines", [], [0]), ("BadLater", [], [0]), ("BadMove", [], [0]), ("BadTable", [], [0]), ("BadDeed", [], [0]), ("BadBook", [], [0]), ("BadCommand", [], [0]), ("LaterError", [0], []), ("ValueError", [0], [])], flds := ["line", "what"] }
end K01

namespace K01
open PySem L2 DP
abbrev i_text_lines : Nat := 0
abbrev i_word_like : Nat := 1
abbrev i_number_like : Nat := 2
abbrev i_parted : Nat := 3
abbrev i_read_condition : Nat := 4
abbrev i_read_conditions : Nat := 5
abbrev i_read_plain : Nat := 6
abbrev i_read_form : Nat := 7
abbrev i_read_lines : Nat := 8
abbrev i_read_line : Nat := 9
abbrev i_words_like : Nat := 10
abbrev i_line_of : Nat := 11
abbrev i__law_keywords : Nat := 12
abbrev i__law_signs : Nat := 13
abbrev i__law_word : Nat := 14
abbrev i__law_figure : Nat := 15
abbrev i__law_numbers : Nat := 16
abbrev i__law_any_cond : Nat := 17
abbrev i__law_any_conds : Nat := 18
abbrev i__law_any_form : Nat := 19
abbrev i__law_any_words : Nat := 20
abbrev i__law_any_line : Nat := 21
abbrev i__law_any_lines : Nat := 22
abbrev i__law_source : Nat := 23
abbrev i__law_pick : Nat := 24
abbrev i__law_same : Nat := 25
abbrev i__law_fault : Nat := 26
abbrev i__law_cond_text : Nat := 27
abbrev i__law_form_text : Nat := 28
abbrev i__law_line : Nat := 29
abbrev i__law_word_pairs : Nat := 30
abbrev i__law_form_pairs : Nat := 31
abbrev i__law_wrong_sign : Nat := 32
abbrev i__law_faulty : Nat := 33
abbrev i__law_read : Nat := 34
abbrev i_law : Nat := 35
/-- text_lines: ["text", "lines", "signs", "found", "line"] -/
def b_text_lines : List S := [
    .ife (.pr .eq [(.v 0), (.c (.str ""))]) [.ret (.pr .list [])] [],
    .asg (.nm 3) (.meth .split "str" (.meth .rmsuf "str" (.v 0) [(.c (.str "\n"))]) [(.c (.str "\n"))]),
    .ife (.pr .gt [(.pr .len [(.v 3)]), (.v 1)]) [.never] [],
    .for_ (.nm 4) .seq [(.v 3)] [.ife (.pr .gt [(.pr .len [(.v 4)]), (.v 2)]) [.never] []],
    .ret (.v 3)]
/-- word_like: ["text", "sign"] -/
def b_word_like : List S := [
    .ife (.or_ (.pr .eq [(.v 0), (.c (.str ""))]) (.or_ (.pr .gt [(.pr .len [(.v 0)]), (.c (.int (12)))]) (.or_ (.pr .in_ [(.v 0), (.c (.tup [(.str "name"), (.str "row"), (.str "must"), (.str "block"), (.str "end"), (.str "use"), (.str "mustuse"), (.str "close"), (.str "either"), (.str "or"), (.str "if"), (.str "and"), (.str "then"), (.str "at"), (.str "most"), (.str "least"), (.str "of"), (.str "in"), (.str "not")]))]) (.pr .notIn [(.pr .idx [(.v 0), (.c (.int (0)))]), (.c (.str "abcdefghijklmnopqrstuvwxyz"))])))) [.ret (.c (.bl false))] [],
    .for_ (.nm 1) .seq [(.v 0)] [.ife (.and_ (.pr .notIn [(.v 1), (.c (.str "abcdefghijklmnopqrstuvwxyz"))]) (.pr .notIn [(.v 1), (.c (.str "0123456789"))])) [.ret (.c (.bl false))] []],
    .ret (.c (.bl true))]
/-- number_like: ["text", "figures", "sign"] -/
def b_number_like : List S := [
    .asg (.nm 1) (.meth .rmpre "str" (.v 0) [(.c (.str "-"))]),
    .ife (.or_ (.pr .eq [(.v 1), (.c (.str ""))]) (.pr .gt [(.pr .len [(.v 1)]), (.c (.int (31)))])) [.ret (.c (.bl false))] [],
    .for_ (.nm 2) .seq [(.v 1)] [.ife (.pr .notIn [(.v 2), (.c (.str "0123456789"))]) [.ret (.c (.bl false))] []],
    .ret (.or_ (.pr .ne [(.pr .idx [(.v 1), (.c (.int (0)))]), (.c (.str "0"))]) (.pr .eq [(.v 0), (.c (.str "0"))]))]
/-- parted: ["words", "sign", "found", "word"] -/
def b_parted : List S := [
    .asg (.nm 2) (.pr .listM [(.pr .listM [])]),
    .for_ (.nm 3) .seq [(.v 0)] [.ife (.pr .eq [(.v 3), (.v 1)]) [.ex (.meth .append "list" (.v 2) [(.pr .listM [])])] [.ex (.meth .append "list" (.pr .idx [(.v 2), (.pr .neg [(.c (.int (1)))])]) [(.v 3)])]],
    .ret (.pr .freeze [(.v 2)])]
/-- read_condition: ["words", "sign", "behind", "word", "numbers", "at"] -/
def b_read_condition : List S := [
    .ife (.or_ (.pr .lt [(.pr .len [(.v 0)]), (.c (.int (3)))]) (.pr .not_ [(.call i_word_like [(.pr .idx [(.v 0), (.c (.int (0)))])])])) [.ret (.c .non)] [],
    .ife (.pr .in_ [(.pr .idx [(.v 0), (.c (.int (1)))]), (.pr .tup [(.c (.str ">=")), (.c (.str "<=")), (.c (.str "="))])]) [.ife (.or_ (.pr .ne [(.pr .len [(.v 0)]), (.c (.int (3)))]) (.pr .not_ [(.call i_number_like [(.pr .idx [(.v 0), (.c (.int (2)))])])])) [.ret (.c .non)] [], .ret (.pr .tup [(.pr .idx [(.v 0), (.c (.int (0)))]), (.pr .idx [(.v 0), (.c (.int (1)))]), (.pr .tup [(.pr .int_ [(.pr .idx [(.v 0), (.c (.int (2)))])])])])] [],
    .asg (.nm 1) (.c (.str "in")),
    .asg (.nm 2) (.pr (.slice true false) [(.v 0), (.c (.int (2)))]),
    .ife (.and_ (.pr .eq [(.pr .idx [(.v 0), (.c (.int (1)))]), (.c (.str "not"))]) (.pr .eq [(.pr .idx [(.v 0), (.c (.int (2)))]), (.c (.str "in"))])) [.asg (.nm 1) (.c (.str "not in")), .asg (.nm 2) (.pr (.slice true false) [(.v 0), (.c (.int (3)))])] [.ife (.pr .ne [(.pr .idx [(.v 0), (.c (.int (1)))]), (.c (.str "in"))]) [.ret (.c .non)] []],
    .ife (.or_ (.pr .eq [(.v 2), (.pr .list [])]) (.pr .gt [(.pr .len [(.v 2)]), (.c (.int (8)))])) [.ret (.c .non)] [],
    .ife (.pr .not_ [(.pr .all [(.comp false [3] (.nm 3) .seq [(.v 2)] none (.call i_number_like [(.v 3)]))])]) [.ret (.c .non)] [],
    .asg (.nm 4) (.comp false [3] (.nm 3) .seq [(.v 2)] none (.pr .int_ [(.v 3)])),
    .for_ (.nm 5) .rng2 [(.c (.int (1))), (.pr .len [(.v 4)])] [.ife (.pr .ge [(.pr .idx [(.v 4), (.pr .sub [(.v 5), (.c (.int (1)))])]), (.pr .idx [(.v 4), (.v 5)])]) [.ret (.c .non)] []],
    .ret (.pr .tup [(.pr .idx [(.v 0), (.c (.int (0)))]), (.v 1), (.pr .tuple_ [(.v 4)])])]
/-- read_conditions: ["words", "sign", "least", "most", "found", "part"] -/
def b_read_conditions : List S := [
    .asg (.nm 4) (.comp false [5] (.nm 5) .seq [(.call i_parted [(.v 0), (.v 1)])] none (.call i_read_condition [(.v 5)])),
    .ife (.or_ (.pr .lt [(.pr .len [(.v 4)]), (.v 2)]) (.or_ (.pr .gt [(.pr .len [(.v 4)]), (.v 3)]) (.pr .in_ [(.c .non), (.v 4)]))) [.ret (.c .non)] [],
    .ret (.pr .tuple_ [(.v 4)])]
/-- read_plain: ["words", "told"] -/
def b_read_plain : List S := [
    .ife (.and_ (.pr .eq [(.pr .len [(.v 0)]), (.c (.int (5)))]) (.and_ (.pr .eq [(.pr .idx [(.v 0), (.c (.int (1)))]), (.c (.str "+"))]) (.pr .eq [(.pr .idx [(.v 0), (.c (.int (3)))]), (.c (.str "<="))]))) [.ife (.and_ (.call i_word_like [(.pr .idx [(.v 0), (.c (.int (0)))])]) (.and_ (.call i_number_like [(.pr .idx [(.v 0), (.c (.int (2)))])]) (.call i_word_like [(.pr .idx [(.v 0), (.c (.int (4)))])]))) [.ret (.pr .tup [(.c (.str "order")), (.pr .idx [(.v 0), (.c (.int (0)))]), (.pr .int_ [(.pr .idx [(.v 0), (.c (.int (2)))])]), (.pr .idx [(.v 0), (.c (.int (4)))])])] [], .ret (.c .non)] [],
    .asg (.nm 1) (.call i_read_condition [(.v 0)]),
    .ret (.ite (.pr .isN [(.v 1)]) (.c .non) (.pr .tup [(.c (.str "is")), (.v 1)]))]
/-- read_form: ["words", "first", "found", "parts", "behind"] -/
def b_read_form : List S := [
    .asg (.nm 1) (.ite (.pr .ne [(.v 0), (.pr .list [])]) (.pr .idx [(.v 0), (.c (.int (0)))]) (.c (.str ""))),
    .ife (.pr .eq [(.v 1), (.c (.str "either"))]) [.asg (.nm 2) (.call i_read_conditions [(.pr (.slice true false) [(.v 0), (.c (.int (1)))]), (.c (.str "or")), (.c (.int (2))), (.c (.int (13)))]), .ret (.ite (.pr .isN [(.v 2)]) (.c .non) (.pr .tup [(.c (.str "either")), (.v 2)]))] [],
    .ife (.pr .eq [(.v 1), (.c (.str "if"))]) [.asg (.nm 3) (.call i_parted [(.pr (.slice true false) [(.v 0), (.c (.int (1)))]), (.c (.str "then"))]), .ife (.pr .ne [(.pr .len [(.v 3)]), (.c (.int (2)))]) [.ret (.c .non)] [], .asg (.nm 2) (.call i_read_conditions [(.pr .idx [(.v 3), (.c (.int (0)))]), (.c (.str "and")), (.c (.int (1))), (.c (.int (8)))]), .asg (.nm 4) (.call i_read_plain [(.pr .idx [(.v 3), (.c (.int (1)))])]), .ret (.ite (.or_ (.pr .isN [(.v 2)]) (.pr .isN [(.v 4)])) (.c .non) (.pr .tup [(.c (.str "if")), (.v 2), (.v 4)]))] [],
    .ife (.pr .eq [(.v 1), (.c (.str "at"))]) [.ife (.or_ (.pr .lt [(.pr .len [(.v 0)]), (.c (.int (5)))]) (.or_ (.pr .notIn [(.pr .idx [(.v 0), (.c (.int (1)))]), (.pr .tup [(.c (.str "most")), (.c (.str "least"))])]) (.pr .ne [(.pr .idx [(.v 0), (.c (.int (3)))]), (.c (.str "of"))]))) [.ret (.c .non)] [], .asg (.nm 2) (.call i_read_conditions [(.pr (.slice true false) [(.v 0), (.c (.int (4)))]), (.c (.str ",")), (.c (.int (1))), (.c (.int (8)))]), .ret (.ite (.or_ (.pr .isN [(.v 2)]) (.pr .not_ [(.call i_number_like [(.pr .idx [(.v 0), (.c (.int (2)))])])])) (.c .non) (.pr .tup [(.pr .idx [(.v 0), (.c (.int (1)))]), (.pr .int_ [(.pr .idx [(.v 0), (.c (.int (2)))])]), (.v 2)]))] [],
    .ret (.call i_read_plain [(.v 0)])]
/-- read_lines: ["text", "found", "at", "line"] -/
def b_read_lines : List S := [
    .asg (.nm 1) (.pr .listM []),
    .for_ (.tp [2, 3]) .enum [(.call i_text_lines [(.v 0), (.c (.int (600))), (.c (.int (800)))])] [.ex (.meth .append "list" (.v 1) [(.call i_read_line [(.v 3), (.pr .add [(.v 2), (.c (.int (1)))])])])],
    .ret (.pr .freeze [(.v 1)])]
/-- read_line: ["line", "number", "sign", "words", "found"] -/
def b_read_line : List S := [
    .ife (.pr .eq [(.meth .strip "str" (.v 0) [(.c (.str " "))]), (.c (.str ""))]) [.raise 0 2 [("line", 1), ("what", 2)] [(.v 1), (.c (.str "empty"))]] [],
    .ife (.or_ (.pr .not_ [(.pr .all [(.comp false [2] (.nm 2) .seq [(.v 0)] none (.pr .in_ [(.v 2), (.c (.str "abcdefghijklmnopqrstuvwxyz0123456789 :+<>=,-"))]))])]) (.pr .in_ [(.c (.str "  ")), (.v 0)])) [.raise 0 2 [("line", 1), ("what", 2)] [(.v 1), (.c (.str "sign"))]] [],
    .ife (.or_ (.pr .eq [(.pr .idx [(.v 0), (.c (.int (0)))]), (.c (.str " "))]) (.pr .eq [(.pr .idx [(.v 0), (.pr .neg [(.c (.int (1)))])]), (.c (.str " "))])) [.raise 0 2 [("line", 1), ("what", 2)] [(.v 1), (.c (.str "sign"))]] [],
    .asg (.nm 3) (.meth .split "str" (.v 0) [(.c (.str " "))]),
    .ife (.pr .notIn [(.pr .idx [(.v 3), (.c (.int (0)))]), (.c (.tup [(.str "name"), (.str "row"), (.str "must"), (.str "use"), (.str "mustuse"), (.str "block"), (.str "end"), (.str "close")]))]) [.raise 0 2 [("line", 1), ("what", 2)] [(.v 1), (.c (.str "word"))]] [],
    .asg (.nm 4) (.call i_line_of [(.v 3)]),
    .ife (.pr .isN [(.v 4)]) [.raise 0 2 [("line", 1), ("what", 2)] [(.v 1), (.c (.str "form"))]] [],
    .ret (.v 4)]
/-- words_like: ["words", "word"] -/
def b_words_like : List S := [
    .ife (.or_ (.pr .eq [(.v 0), (.pr .list [])]) (.pr .gt [(.pr .len [(.v 0)]), (.c (.int (4)))])) [.ret (.c (.bl false))] [],
    .ret (.pr .all [(.comp false [1] (.nm 1) .seq [(.v 0)] none (.call i_word_like [(.v 1)]))])]
/-- line_of: ["words", "kind", "form"] -/
def b_line_of : List S := [
    .asg (.nm 1) (.pr .idx [(.v 0), (.c (.int (0)))]),
    .ife (.pr .eq [(.v 1), (.c (.str "end"))]) [.ret (.ite (.pr .eq [(.pr .len [(.v 0)]), (.c (.int (1)))]) (.pr .tup [(.c (.str "end"))]) (.c .non))] [],
    .ife (.or_ (.pr .lt [(.pr .len [(.v 0)]), (.c (.int (2)))]) (.pr .not_ [(.call i_word_like [(.pr .idx [(.v 0), (.c (.int (1)))])])])) [.ret (.c .non)] [],
    .ife (.pr .eq [(.v 1), (.c (.str "close"))]) [.ret (.ite (.pr .eq [(.pr .len [(.v 0)]), (.c (.int (2)))]) (.pr .tup [(.c (.str "close")), (.pr .idx [(.v 0), (.c (.int (1)))])]) (.c .non))] [],
    .ife (.pr .eq [(.v 1), (.c (.str "name"))]) [.ife (.or_ (.pr .ne [(.pr .len [(.v 0)]), (.c (.int (4)))]) (.or_ (.pr .not_ [(.call i_number_like [(.pr .idx [(.v 0), (.c (.int (2)))])])]) (.pr .not_ [(.call i_number_like [(.pr .idx [(.v 0), (.c (.int (3)))])])]))) [.ret (.c .non)] [], .ret (.pr .tup [(.c (.str "name")), (.pr .idx [(.v 0), (.c (.int (1)))]), (.pr .int_ [(.pr .idx [(.v 0), (.c (.int (2)))])]), (.pr .int_ [(.pr .idx [(.v 0), (.c (.int (3)))])])])] [],
    .ife (.or_ (.pr .lt [(.pr .len [(.v 0)]), (.c (.int (4)))]) (.pr .ne [(.pr .idx [(.v 0), (.c (.int (2)))]), (.c (.str ":"))])) [.ret (.c .non)] [],
    .ife (.pr .eq [(.v 1), (.c (.str "block"))]) [.ret (.ite (.call i_words_like [(.pr (.slice true false) [(.v 0), (.c (.int (3)))])]) (.pr .tup [(.c (.str "block")), (.pr .idx [(.v 0), (.c (.int (1)))]), (.pr .tuple_ [(.pr (.slice true false) [(.v 0), (.c (.int (3)))])])]) (.c .non))] [],
    .ife (.pr .in_ [(.v 1), (.pr .tup [(.c (.str "row")), (.c (.str "must"))])]) [.asg (.nm 2) (.call i_read_form [(.pr (.slice true false) [(.v 0), (.c (.int (3)))])]), .ret (.ite (.pr .isN [(.v 2)]) (.c .non) (.pr .tup [(.v 1), (.pr .idx [(.v 0), (.c (.int (1)))]), (.v 2)]))] [],
    .ife (.or_ (.pr .not_ [(.call i_word_like [(.pr .idx [(.v 0), (.c (.int (3)))])])]) (.pr .not_ [(.call i_words_like [(.pr (.slice true false) [(.v 0), (.c (.int (4)))])])])) [.ret (.c .non)] [],
    .ret (.pr .tup [(.v 1), (.pr .idx [(.v 0), (.c (.int (1)))]), (.pr .idx [(.v 0), (.c (.int (3)))]), (.pr .tuple_ [(.pr (.slice true false) [(.v 0), (.c (.int (4)))])])])]
/-- _law_keywords: [] -/
def b__law_keywords : List S := [
    .ret (.pr .list [(.c (.str "name")), (.c (.str "row")), (.c (.str "must")), (.c (.str "block")), (.c (.str "end")), (.c (.str "use")), (.c (.str "mustuse")), (.c (.str "close")), (.c (.str "either")), (.c (.str "or")), (.c (.str "if")), (.c (.str "and")), (.c (.str "then")), (.c (.str "at")), (.c (.str "most")), (.c (.str "least")), (.c (.str "of")), (.c (.str "in")), (.c (.str "not"))])]
/-- _law_signs: ["source", "many", "letters", "found", "at"] -/
def b__law_signs : List S := [
    .asg (.nm 2) (.c (.str "abcdefghijklmnopqrstuvwxyz0123456789")),
    .asg (.nm 3) (.pr .idx [(.v 2), (.call i__law_pick [(.v 0), (.c (.int (26)))])]),
    .for_ (.nm 4) .rng1 [(.pr .sub [(.v 1), (.c (.int (1)))])] [.asg (.nm 3) (.pr .add [(.v 3), (.pr .idx [(.v 2), (.call i__law_pick [(.v 0), (.c (.int (36)))])])])],
    .ret (.ite (.pr .in_ [(.v 3), (.call i__law_keywords [])]) (.pr .add [(.v 3), (.c (.str "0"))]) (.v 3))]
/-- _law_word: ["source"] -/
def b__law_word : List S := [
    .ret (.call i__law_signs [(.v 0), (.pr .add [(.c (.int (1))), (.call i__law_pick [(.v 0), (.ite (.pr .eq [(.call i__law_pick [(.v 0), (.c (.int (4)))]), (.c (.int (0)))]) (.c (.int (12))) (.c (.int (3))))])])])]
/-- _law_figure: ["source", "found", "at"] -/
def b__law_figure : List S := [
    .ife (.pr .gt [(.call i__law_pick [(.v 0), (.c (.int (4)))]), (.c (.int (0)))]) [.ret (.pr .sub [(.call i__law_pick [(.v 0), (.c (.int (12)))]), (.c (.int (4)))])] [],
    .asg (.nm 1) (.c (.int (0))),
    .for_ (.nm 2) .rng1 [(.pr .add [(.c (.int (1))), (.call i__law_pick [(.v 0), (.c (.int (31)))])])] [.asg (.nm 1) (.pr .add [(.pr .mul [(.v 1), (.c (.int (10)))]), (.call i__law_pick [(.v 0), (.c (.int (10)))])])],
    .ret (.pr .mul [(.v 1), (.pr .sub [(.c (.int (1))), (.pr .mul [(.c (.int (2))), (.call i__law_pick [(.v 0), (.c (.int (2)))])])])])]
/-- _law_numbers: ["source", "many", "found", "at"] -/
def b__law_numbers : List S := [
    .asg (.nm 2) (.pr .listM [(.call i__law_figure [(.v 0)])]),
    .ife (.pr .ge [(.pr .abs [(.pr .idx [(.v 2), (.c (.int (0)))])]), (.pr .pow [(.c (.int (10))), (.c (.int (30)))])]) [.asg (.nm 2) (.pr .listM [(.pr .fdiv [(.pr .idx [(.v 2), (.c (.int (0)))]), (.c (.int (1000)))])])] [],
    .for_ (.nm 3) .rng1 [(.pr .sub [(.v 1), (.c (.int (1)))])] [.ex (.meth .append "list" (.v 2) [(.pr .add [(.pr .add [(.pr .idx [(.v 2), (.v 3)]), (.c (.int (1)))]), (.call i__law_pick [(.v 0), (.c (.int (9)))])])])],
    .ret (.pr .tuple_ [(.v 2)])]
/-- _law_any_cond: ["source", "sign", "many"] -/
def b__law_any_cond : List S := [
    .asg (.nm 1) (.pr .idx [(.pr .list [(.c (.str ">=")), (.c (.str "<=")), (.c (.str "=")), (.c (.str "in")), (.c (.str "not in"))]), (.call i__law_pick [(.v 0), (.c (.int (5)))])]),
    .asg (.nm 2) (.ite (.pr .in_ [(.v 1), (.pr .tup [(.c (.str "in")), (.c (.str "not in"))])]) (.pr .add [(.c (.int (1))), (.call i__law_pick [(.v 0), (.ite (.pr .eq [(.call i__law_pick [(.v 0), (.c (.int (4)))]), (.c (.int (0)))]) (.c (.int (8))) (.c (.int (3))))])]) (.c (.int (1)))),
    .ret (.pr .tup [(.call i__law_word [(.v 0)]), (.v 1), (.call i__law_numbers [(.v 0), (.v 2)])])]
/-- _law_any_conds: ["source", "least", "most", "many", "at"] -/
def b__law_any_conds : List S := [
    .asg (.nm 3) (.ite (.pr .eq [(.call i__law_pick [(.v 0), (.c (.int (4)))]), (.c (.int (0)))]) (.pr .add [(.v 1), (.call i__law_pick [(.v 0), (.pr .add [(.pr .sub [(.v 2), (.v 1)]), (.c (.int (1)))])])]) (.pr .add [(.v 1), (.call i__law_pick [(.v 0), (.c (.int (2)))])])),
    .ret (.pr .tuple_ [(.comp false [4] (.nm 4) .rng1 [(.v 3)] none (.call i__law_any_cond [(.v 0)]))])]
/-- _law_any_form: ["source", "kind", "behind"] -/
def b__law_any_form : List S := [
    .asg (.nm 1) (.call i__law_pick [(.v 0), (.c (.int (7)))]),
    .ife (.pr .eq [(.v 1), (.c (.int (0)))]) [.ret (.pr .tup [(.c (.str "is")), (.call i__law_any_cond [(.v 0)])])] [],
    .ife (.pr .eq [(.v 1), (.c (.int (1)))]) [.ret (.pr .tup [(.c (.str "order")), (.call i__law_word [(.v 0)]), (.call i__law_figure [(.v 0)]), (.call i__law_word [(.v 0)])])] [],
    .ife (.pr .eq [(.v 1), (.c (.int (2)))]) [.ret (.pr .tup [(.c (.str "either")), (.call i__law_any_conds [(.v 0), (.c (.int (2))), (.c (.int (13)))])])] [],
    .ife (.pr .eq [(.v 1), (.c (.int (3)))]) [.ret (.pr .tup [(.c (.str "if")), (.call i__law_any_conds [(.v 0), (.c (.int (1))), (.c (.int (8)))]), (.pr .tup [(.c (.str "is")), (.call i__law_any_cond [(.v 0)])])])] [],
    .ife (.pr .eq [(.v 1), (.c (.int (4)))]) [.asg (.nm 2) (.pr .tup [(.c (.str "order")), (.call i__law_word [(.v 0)]), (.call i__law_figure [(.v 0)]), (.call i__law_word [(.v 0)])]), .ret (.pr .tup [(.c (.str "if")), (.call i__law_any_conds [(.v 0), (.c (.int (1))), (.c (.int (8)))]), (.v 2)])] [],
    .ret (.pr .tup [(.pr .idx [(.pr .list [(.c (.str "most")), (.c (.str "least"))]), (.pr .sub [(.v 1), (.c (.int (5)))])]), (.call i__law_figure [(.v 0)]), (.call i__law_any_conds [(.v 0), (.c (.int (1))), (.c (.int (8)))])])]
/-- _law_any_words: ["source", "at"] -/
def b__law_any_words : List S := [
    .ret (.pr .tuple_ [(.comp false [1] (.nm 1) .rng1 [(.pr .add [(.c (.int (1))), (.call i__law_pick [(.v 0), (.c (.int (4)))])])] none (.call i__law_word [(.v 0)]))])]
/-- _law_any_line: ["source", "kind", "line"] -/
def b__law_any_line : List S := [
    .asg (.nm 1) (.call i__law_pick [(.v 0), (.c (.int (9)))]),
    .asg (.nm 2) (.pr .tup [(.c (.str "end"))]),
    .ife (.pr .eq [(.v 1), (.c (.int (0)))]) [.asg (.nm 2) (.pr .tup [(.c (.str "name")), (.call i__law_word [(.v 0)]), (.call i__law_figure [(.v 0)]), (.call i__law_figure [(.v 0)])])] [.ife (.pr .le [(.v 1), (.c (.int (3)))]) [.asg (.nm 2) (.pr .tup [(.c (.str "row")), (.call i__law_word [(.v 0)]), (.call i__law_any_form [(.v 0)])])] [.ife (.pr .eq [(.v 1), (.c (.int (4)))]) [.asg (.nm 2) (.pr .tup [(.c (.str "must")), (.call i__law_word [(.v 0)]), (.call i__law_any_form [(.v 0)])])] [.ife (.pr .le [(.v 1), (.c (.int (6)))]) [.asg (.nm 2) (.pr .tup [(.pr .idx [(.pr .list [(.c (.str "use")), (.c (.str "mustuse"))]), (.pr .sub [(.v 1), (.c (.int (5)))])]), (.call i__law_word [(.v 0)]), (.call i__law_word [(.v 0)]), (.call i__law_any_words [(.v 0)])])] [.ife (.pr .eq [(.v 1), (.c (.int (7)))]) [.asg (.nm 2) (.pr .tup [(.c (.str "block")), (.call i__law_word [(.v 0)]), (.call i__law_any_words [(.v 0)])])] [.ife (.pr .eq [(.call i__law_pick [(.v 0), (.c (.int (2)))]), (.c (.int (0)))]) [.asg (.nm 2) (.pr .tup [(.c (.str "close")), (.call i__law_word [(.v 0)])])] []]]]]],
    .ret (.ite (.pr .le [(.pr .len [(.call i__law_line [(.v 2)])]), (.c (.int (800)))]) (.v 2) (.pr .tup [(.c (.str "end"))]))]
/-- _law_any_lines: ["source", "many", "at"] -/
def b__law_any_lines : List S := [
    .ret (.comp false [2] (.nm 2) .rng1 [(.v 1)] none (.call i__law_any_line [(.v 0)]))]
/-- _law_source: ["script", "at", "cell", "one", "size", "small"] -/
def b__law_source : List S := [
    .asg (.nm 2) (.ite (.pr .lt [(.v 1), (.pr .len [(.v 0)])]) (.pr .int_ [(.pr .idx [(.v 0), (.v 1)])]) (.pr .add [(.pr .mul [(.c (.int (31))), (.pr .sum [(.comp false [3] (.nm 3) .seq [(.pr (.slice false true) [(.v 0), (.c (.int (6)))])] none (.pr .mod [(.pr .int_ [(.v 3)]), (.c (.int (999979)))]))])]), (.c (.int (19)))])),
    .asg (.nm 4) (.pr .mod [(.pr .abs [(.v 2)]), (.pr .mul [(.pr .pow [(.c (.int (10))), (.c (.int (60)))]), (.pr .pow [(.c (.int (10))), (.c (.int (60)))])])]),
    .asg (.nm 5) (.pr .mod [(.pr .int_ [(.pr .add [(.pr .add [(.pr .add [(.pr .mul [(.c (.int (2))), (.v 4)]), (.ite (.pr .lt [(.v 2), (.c (.int (0)))]) (.c (.int (1))) (.c (.int (0))))]), (.pr .mul [(.v 1), (.c (.int (130003)))])]), (.c (.int (70001)))])]), (.c (.int (2147483629)))]),
    .ret (.pr .listM [(.ite (.pr .ge [(.v 4), (.pr .pow [(.c (.int (10))), (.c (.int (18)))])]) (.v 4) (.c (.int (0)))), (.pr .mod [(.pr .int_ [(.pr .mul [(.pr .add [(.v 5), (.c (.int (5113)))]), (.pr .add [(.v 5), (.c (.int (91193)))])])]), (.c (.int (2147483629)))]), (.v 1)])]
/-- _law_pick: ["source", "many", "found"] -/
def b__law_pick : List S := [
    .ife (.pr .gt [(.pr .idx [(.v 0), (.c (.int (0)))]), (.c (.int (0)))]) [.asg (.nm 2) (.pr .mod [(.pr .int_ [(.pr .idx [(.v 0), (.c (.int (0)))])]), (.v 1)]), .setIx (.v 0) (.c (.int (0))) (.pr .fdiv [(.pr .idx [(.v 0), (.c (.int (0)))]), (.v 1)]), .ret (.v 2)] [],
    .augIx (.v 0) (.c (.int (2))) .iadd (.c (.int (1))),
    .setIx (.v 0) (.c (.int (1))) (.pr .mod [(.pr .int_ [(.pr .add [(.pr .mul [(.pr .idx [(.v 0), (.c (.int (1)))]), (.c (.int (48271)))]), (.pr .mul [(.pr .idx [(.v 0), (.c (.int (2)))]), (.c (.int (60013)))])])]), (.c (.int (2147483647)))]),
    .ret (.pr .mod [(.pr .fdiv [(.pr .mod [(.pr .int_ [(.pr .add [(.pr .mul [(.pr .idx [(.v 0), (.c (.int (1)))]), (.c (.int (16807)))]), (.pr .mul [(.pr .idx [(.v 0), (.c (.int (2)))]), (.c (.int (7411)))])])]), (.c (.int (2147483629)))]), (.c (.int (8)))]), (.v 1)])]
/-- _law_same: ["answer", "due", "key", "at"] -/
def b__law_same : List S := [
    .ife (.or_ (.pr .isN [(.v 1)]) (.pr .isN [(.v 0)])) [.ret (.and_ (.pr .isN [(.v 1)]) (.pr .isN [(.v 0)]))] [],
    .ife (.or_ (.pr (.isinst "bool") [(.v 1)]) (.pr (.isinst "bool") [(.v 0)])) [.ret (.and_ (.pr (.isinst "bool") [(.v 1)]) (.and_ (.pr (.isinst "bool") [(.v 0)]) (.pr .eq [(.v 0), (.v 1)])))] [],
    .ife (.pr (.isinst "int") [(.v 1)]) [.ret (.and_ (.pr (.isinst "int") [(.v 0)]) (.pr .eq [(.v 0), (.v 1)]))] [],
    .ife (.pr (.isinst "str") [(.v 1)]) [.ret (.and_ (.pr (.isinst "str") [(.v 0)]) (.pr .eq [(.v 0), (.v 1)]))] [],
    .ife (.pr (.isinst "dict") [(.v 1)]) [.ife (.or_ (.pr .not_ [(.pr (.isinst "dict") [(.v 0)])]) (.pr .not_ [(.call i__law_same [.never, .never])])) [.ret (.c (.bl false))] [], .ret (.pr .all [(.comp false [2] (.nm 2) .seq [(.v 1)] none (.call i__law_same [(.pr .idx [(.v 0), (.v 2)]), (.pr .idx [(.v 1), (.v 2)])]))])] [],
    .ife (.and_ (.pr (.isinst "tuple") [(.v 1)]) (.pr .not_ [(.pr (.isinst "tuple") [(.v 0)])])) [.ret (.c (.bl false))] [],
    .ife (.and_ (.pr (.isinst "list") [(.v 1)]) (.pr .not_ [(.pr (.isinst "list") [(.v 0)])])) [.ret (.c (.bl false))] [],
    .ife (.pr .ne [(.pr .len [(.v 0)]), (.pr .len [(.v 1)])]) [.ret (.c (.bl false))] [],
    .ret (.pr .all [(.comp false [3] (.nm 3) .rng1 [(.pr .len [(.v 1)])] none (.call i__law_same [(.pr .idx [(.v 0), (.v 3)]), (.pr .idx [(.v 1), (.v 3)])]))])]
/-- _law_fault: ["error", "found"] -/
def b__law_fault : List S := [
    .asg (.nm 1) (.pr .listM []),
    .ife (.pr (.isC [] [0]) [(.v 0)]) [.ex (.meth .append "list" (.v 1) [(.pr .tup [(.c (.str "TooMany")), (.pr (.fld "what") [(.v 0)])])])] [],
    .ife (.pr (.isC [0] []) [(.v 0)]) [.ex (.meth .append "list" (.v 1) [(.pr .tup [(.c (.str "BadText")), (.pr (.fld "line") [(.v 0)]), (.pr (.fld "what") [(.v 0)])])])] [],
    .ife (.pr (.isC [] [0]) [(.v 0)]) [.ex (.meth .append "list" (.v 1) [(.pr .tup [(.c (.str "BadQuestion")), (.pr (.fld "line") [(.v 0)]), (.pr (.fld "what") [(.v 0)])])])] [],
    .ife (.pr (.isC [] [0]) [(.v 0)]) [.ex (.meth .append "list" (.v 1) [(.pr .tup [(.c (.str "BadPlan")), .never, (.pr (.fld "what") [(.v 0)])])])] [],
    .ife (.pr (.isC [] [0]) [(.v 0)]) [.ex (.meth .append "list" (.v 1) [(.pr .tup [(.c (.str "BadLabels")), .never, (.pr (.fld "what") [(.v 0)])])])] [],
    .ife (.pr (.isC [] [0]) [(.v 0)]) [.ex (.meth .append "list" (.v 1) [(.pr .tup [(.c (.str "BadBounds")), .never, (.pr (.fld "what") [(.v 0)])])])] [],
    .ife (.pr (.isC [] [0]) [(.v 0)]) [.ex (.meth .append "list" (.v 1) [(.pr .tup [(.c (.str "BadReach")), (.pr (.fld "what") [(.v 0)])])])] [],
    .ife (.pr (.isC [] [0]) [(.v 0)]) [.ex (.meth .append "list" (.v 1) [(.pr .tup [(.c (.str "BadSheet")), .never, (.pr (.fld "what") [(.v 0)])])])] [],
    .ife (.pr (.isC [] [0]) [(.v 0)]) [.ex (.meth .append "list" (.v 1) [(.pr .tup [(.c (.str "BadLines")), (.pr (.fld "line") [(.v 0)]), (.pr (.fld "what") [(.v 0)])])])] [],
    .ife (.pr (.isC [] [0]) [(.v 0)]) [.ex (.meth .append "list" (.v 1) [(.pr .tup [(.c (.str "BadLater")), (.pr (.fld "what") [(.v 0)]), .never])])] [],
    .ife (.pr (.isC [] [0]) [(.v 0)]) [.ex (.meth .append "list" (.v 1) [(.pr .tup [(.c (.str "BadMove")), (.pr (.fld "what") [(.v 0)]), .never])])] [],
    .ife (.pr (.isC [] [0]) [(.v 0)]) [.ex (.meth .append "list" (.v 1) [(.pr .tup [(.c (.str "BadTable")), (.pr (.fld "what") [(.v 0)]), .never])])] [],
    .ife (.pr (.isC [] [0]) [(.v 0)]) [.ex (.meth .append "list" (.v 1) [(.pr .tup [(.c (.str "BadDeed")), (.pr (.fld "what") [(.v 0)]), .never])])] [],
    .ife (.pr (.isC [] [0]) [(.v 0)]) [.ex (.meth .append "list" (.v 1) [(.pr .tup [(.c (.str "BadBook")), (.pr (.fld "what") [(.v 0)])])])] [],
    .ife (.pr (.isC [] [0]) [(.v 0)]) [.ex (.meth .append "list" (.v 1) [(.pr .tup [(.c (.str "BadCommand")), (.pr (.fld "line") [(.v 0)]), (.pr (.fld "what") [(.v 0)])])])] [],
    .ife (.or_ (.pr .not_ [(.pr (.isC [0] []) [(.v 0)])]) (.or_ (.pr .not_ [(.pr (.isC [0] []) [(.v 0)])]) (.pr .ne [(.pr .len [(.v 1)]), (.c (.int (1)))]))) [.ret (.pr .tup [(.c (.str "several"))])] [],
    .ret (.pr .idx [(.v 1), (.c (.int (0)))])]
/-- _law_cond_text: ["cond", "number"] -/
def b__law_cond_text : List S := [
    .ret (.meth .join "str" (.c (.str " ")) [(.pr .add [(.pr .list [(.pr .idx [(.v 0), (.c (.int (0)))]), (.pr .idx [(.v 0), (.c (.int (1)))])]), (.comp false [1] (.nm 1) .seq [(.pr .idx [(.v 0), (.c (.int (2)))])] none (.pr .str_ [(.v 1)]))])])]
/-- _law_form_text: ["form", "one"] -/
def b__law_form_text : List S := [
    .ife (.pr .eq [(.pr .idx [(.v 0), (.c (.int (0)))]), (.c (.str "is"))]) [.ret (.call i__law_cond_text [(.pr .idx [(.v 0), (.c (.int (1)))])])] [],
    .ife (.pr .eq [(.pr .idx [(.v 0), (.c (.int (0)))]), (.c (.str "order"))]) [.ret (.pr .add [(.pr .add [(.pr .add [(.pr .add [(.pr .idx [(.v 0), (.c (.int (1)))]), (.c (.str " + "))]), (.pr .str_ [(.pr .idx [(.v 0), (.c (.int (2)))])])]), (.c (.str " <= "))]), (.pr .idx [(.v 0), (.c (.int (3)))])])] [],
    .ife (.pr .eq [(.pr .idx [(.v 0), (.c (.int (0)))]), (.c (.str "either"))]) [.ret (.pr .add [(.c (.str "either ")), (.meth .join "str" (.c (.str " or ")) [(.comp false [1] (.nm 1) .seq [(.pr .idx [(.v 0), (.c (.int (1)))])] none (.call i__law_cond_text [(.v 1)]))])])] [],
    .ife (.pr .eq [(.pr .idx [(.v 0), (.c (.int (0)))]), (.c (.str "if"))]) [.ret (.pr .add [(.pr .add [(.pr .add [(.c (.str "if ")), (.meth .join "str" (.c (.str " and ")) [(.comp false [1] (.nm 1) .seq [(.pr .idx [(.v 0), (.c (.int (1)))])] none (.call i__law_cond_text [(.v 1)]))])]), (.c (.str " then "))]), (.call i__law_form_text [(.pr .idx [(.v 0), (.c (.int (2)))])])])] [],
    .ret (.pr .add [(.pr .add [(.pr .add [(.pr .add [(.pr .add [(.c (.str "at ")), (.pr .idx [(.v 0), (.c (.int (0)))])]), (.c (.str " "))]), (.pr .str_ [(.pr .idx [(.v 0), (.c (.int (1)))])])]), (.c (.str " of "))]), (.meth .join "str" (.c (.str " , ")) [(.comp false [1] (.nm 1) .seq [(.pr .idx [(.v 0), (.c (.int (2)))])] none (.call i__law_cond_text [(.v 1)]))])])]
/-- _law_line: ["line"] -/
def b__law_line : List S := [
    .ife (.pr .eq [(.pr .idx [(.v 0), (.c (.int (0)))]), (.c (.str "end"))]) [.ret (.c (.str "end"))] [],
    .ife (.pr .eq [(.pr .idx [(.v 0), (.c (.int (0)))]), (.c (.str "name"))]) [.ret (.pr .add [(.pr .add [(.pr .add [(.pr .add [(.pr .add [(.c (.str "name ")), (.pr .idx [(.v 0), (.c (.int (1)))])]), (.c (.str " "))]), (.pr .str_ [(.pr .idx [(.v 0), (.c (.int (2)))])])]), (.c (.str " "))]), (.pr .str_ [(.pr .idx [(.v 0), (.c (.int (3)))])])])] [],
    .ife (.pr .eq [(.pr .idx [(.v 0), (.c (.int (0)))]), (.c (.str "close"))]) [.ret (.pr .add [(.c (.str "close ")), (.pr .idx [(.v 0), (.c (.int (1)))])])] [],
    .ife (.pr .in_ [(.pr .idx [(.v 0), (.c (.int (0)))]), (.pr .tup [(.c (.str "row")), (.c (.str "must"))])]) [.ret (.pr .add [(.pr .add [(.pr .add [(.pr .add [(.pr .idx [(.v 0), (.c (.int (0)))]), (.c (.str " "))]), (.pr .idx [(.v 0), (.c (.int (1)))])]), (.c (.str " : "))]), (.call i__law_form_text [(.pr .idx [(.v 0), (.c (.int (2)))])])])] [],
    .ife (.pr .eq [(.pr .idx [(.v 0), (.c (.int (0)))]), (.c (.str "block"))]) [.ret (.pr .add [(.pr .add [(.pr .add [(.c (.str "block ")), (.pr .idx [(.v 0), (.c (.int (1)))])]), (.c (.str " : "))]), (.meth .join "str" (.c (.str " ")) [(.pr .list_ [(.pr .idx [(.v 0), (.c (.int (2)))])])])])] [],
    .ret (.pr .add [(.pr .add [(.pr .add [(.pr .add [(.pr .add [(.pr .add [(.pr .idx [(.v 0), (.c (.int (0)))]), (.c (.str " "))]), (.pr .idx [(.v 0), (.c (.int (1)))])]), (.c (.str " : "))]), (.pr .idx [(.v 0), (.c (.int (2)))])]), (.c (.str " "))]), (.meth .join "str" (.c (.str " ")) [(.pr .list_ [(.pr .idx [(.v 0), (.c (.int (3)))])])])])]
/-- _law_word_pairs: ["source", "a", "b", "n", "long", "big", "key"] -/
def b__law_word_pairs : List S := [
    .asg (.nm 4) (.call i__law_signs [(.v 0), (.c (.int (12)))]),
    .asg (.nm 5) (.pr .mul [(.c (.str "9")), (.c (.int (31)))]),
    .asg (.nm 6) (.pr .idx [(.call i__law_keywords []), (.call i__law_pick [(.v 0), (.c (.int (19)))])]),
    .ret (.pr .list [(.pr .tup [(.pr .add [(.pr .add [(.pr .add [(.c (.str "close ")), (.v 1)]), (.c (.str " "))]), (.v 2)]), (.pr .tup [(.c (.str "close")), (.v 1)])]), (.pr .tup [(.pr .add [(.c (.str "end ")), (.v 1)]), (.pr .tup [(.c (.str "end"))])]), (.pr .tup [(.c (.str "close")), (.pr .tup [(.c (.str "close")), (.v 1)])]), (.pr .tup [(.pr .add [(.pr .add [(.pr .add [(.pr .add [(.pr .add [(.c (.str "name ")), (.v 1)]), (.c (.str " "))]), (.v 3)]), (.c (.str " 0"))]), (.pr .str_ [(.pr .add [(.c (.int (1))), (.call i__law_pick [(.v 0), (.c (.int (9)))])])])]), (.pr .tup [(.c (.str "name")), (.v 1), (.pr .int_ [(.v 3)]), (.c (.int (1)))])]), (.pr .tup [(.pr .add [(.pr .add [(.pr .add [(.c (.str "name ")), (.v 1)]), (.c (.str " -0 "))]), (.v 3)]), (.pr .tup [(.c (.str "name")), (.v 1), (.c (.int (0))), (.pr .int_ [(.v 3)])])]), (.pr .tup [(.pr .add [(.pr .add [(.pr .add [(.c (.str "name ")), (.v 1)]), (.c (.str " - "))]), (.v 3)]), (.pr .tup [(.c (.str "name")), (.v 1), (.c (.int (0))), (.pr .int_ [(.v 3)])])]), (.pr .tup [(.pr .add [(.pr .add [(.pr .add [(.pr .add [(.pr .add [(.c (.str "name ")), (.v 1)]), (.c (.str " 1"))]), (.v 5)]), (.c (.str " "))]), (.v 3)]), (.pr .tup [(.c (.str "name")), (.v 1), (.pr .int_ [(.v 5)]), (.pr .int_ [(.v 3)])])]), (.pr .tup [(.pr .add [(.pr .add [(.pr .add [(.pr .add [(.pr .add [(.c (.str "name ")), (.v 1)]), (.c (.str " -1"))]), (.v 5)]), (.c (.str " "))]), (.v 3)]), (.pr .tup [(.c (.str "name")), (.v 1), (.pr .sub [(.c (.int (0))), (.pr .int_ [(.v 5)])]), (.pr .int_ [(.v 3)])])]), (.pr .tup [(.pr .add [(.pr .add [(.pr .add [(.pr .add [(.c (.str "name ")), (.v 4)]), (.c (.str "a "))]), (.v 3)]), (.c (.str " 7"))]), (.pr .tup [(.c (.str "name")), (.v 4), (.pr .int_ [(.v 3)]), (.c (.int (7)))])]), (.pr .tup [(.pr .add [(.pr .add [(.pr .add [(.pr .add [(.c (.str "name 3")), (.v 1)]), (.c (.str " "))]), (.v 3)]), (.c (.str " 7"))]), (.pr .tup [(.c (.str "name")), (.v 1), (.pr .int_ [(.v 3)]), (.c (.int (7)))])]), (.pr .tup [(.pr .add [(.pr .add [(.pr .add [(.pr .add [(.c (.str "name ")), (.v 6)]), (.c (.str " "))]), (.v 3)]), (.c (.str " 7"))]), (.pr .tup [(.c (.str "name")), (.pr .add [(.v 6), (.c (.str "9"))]), (.pr .int_ [(.v 3)]), (.c (.int (7)))])]), (.pr .tup [(.pr .add [(.pr .add [(.pr .add [(.c (.str "name ")), (.v 1)]), (.c (.str " "))]), (.v 3)]), (.pr .tup [(.c (.str "name")), (.v 1), (.pr .int_ [(.v 3)]), (.pr .int_ [(.v 3)])])]), (.pr .tup [(.pr .add [(.pr .add [(.pr .add [(.pr .add [(.c (.str "name ")), (.v 1)]), (.c (.str " "))]), (.v 3)]), (.c (.str " 3 4"))]), (.pr .tup [(.c (.str "name")), (.v 1), (.pr .int_ [(.v 3)]), (.c (.int (3)))])]), (.pr .tup [(.pr .add [(.pr .add [(.c (.str "block ")), (.v 1)]), (.c (.str " :"))]), (.pr .tup [(.c (.str "block")), (.v 1), (.pr .tup [(.v 2)])])]), (.pr .tup [(.pr .add [(.pr .add [(.pr .add [(.c (.str "block ")), (.v 1)]), (.c (.str " "))]), (.v 2)]), (.pr .tup [(.c (.str "block")), (.v 1), (.pr .tup [(.v 2)])])]), (.pr .tup [(.pr .add [(.pr .add [(.pr .add [(.c (.str "block ")), (.v 1)]), (.c (.str " : "))]), (.meth .join "str" (.c (.str " ")) [(.pr .mul [(.pr .list [(.v 2)]), (.c (.int (5)))])])]), (.pr .tup [(.c (.str "block")), (.v 1), (.pr .tup [(.v 2), (.v 2), (.v 2), (.v 2)])])]), (.pr .tup [(.pr .add [(.pr .add [(.pr .add [(.c (.str "use ")), (.v 1)]), (.c (.str " : "))]), (.v 2)]), (.pr .tup [(.c (.str "use")), (.v 1), (.v 2), (.pr .tup [(.v 1)])])]), (.pr .tup [(.pr .add [(.pr .add [(.pr .add [(.pr .add [(.pr .add [(.c (.str "mustuse ")), (.v 1)]), (.c (.str " : "))]), (.v 2)]), (.c (.str " "))]), (.meth .join "str" (.c (.str " ")) [(.pr .mul [(.pr .list [(.v 1)]), (.c (.int (5)))])])]), (.pr .tup [(.c (.str "mustuse")), (.v 1), (.v 2), (.pr .tup [(.v 1), (.v 1), (.v 1), (.v 1)])])]), (.pr .tup [(.pr .add [(.pr .add [(.pr .add [(.pr .add [(.c (.str "row ")), (.v 6)]), (.c (.str " : "))]), (.v 1)]), (.c (.str " = 1"))]), (.pr .tup [(.c (.str "row")), (.v 1), (.pr .tup [(.c (.str "is")), (.pr .tup [(.v 1), (.c (.str "=")), (.pr .tup [(.c (.int (1)))])])])])])])]
/-- _law_form_pairs: ["source", "a", "b", "n", "one", "word", "told", "at", "eight"] -/
def b__law_form_pairs : List S := [
    .asg (.nm 4) (.pr .tup [(.v 1), (.c (.str "=")), (.pr .tup [(.pr .int_ [(.v 3)])])]),
    .asg (.nm 5) (.pr .add [(.pr .add [(.v 1), (.c (.str " = "))]), (.v 3)]),
    .asg (.nm 6) (.comp false [7] (.nm 7) .rng2 [(.c (.int (1))), (.c (.int (10)))] none (.pr .str_ [(.v 7)])),
    .asg (.nm 8) (.pr .tuple_ [(.comp false [7] (.nm 7) .rng2 [(.c (.int (1))), (.c (.int (9)))] none (.v 7))]),
    .ret (.pr .list [(.pr .tup [(.pr .add [(.pr .add [(.v 1), (.c (.str " == "))]), (.v 3)]), (.pr .tup [(.c (.str "is")), (.v 4)])]), (.pr .tup [(.pr .add [(.pr .add [(.v 1), (.c (.str " < "))]), (.v 3)]), (.pr .tup [(.c (.str "is")), (.pr .tup [(.v 1), (.c (.str "<=")), (.pr .tup [(.pr .int_ [(.v 3)])])])])]), (.pr .tup [(.pr .add [(.pr .add [(.v 1), (.c (.str " => "))]), (.v 3)]), (.pr .tup [(.c (.str "is")), (.pr .tup [(.v 1), (.c (.str ">=")), (.pr .tup [(.pr .int_ [(.v 3)])])])])]), (.pr .tup [(.pr .add [(.pr .add [(.pr .add [(.pr .add [(.v 1), (.c (.str " = "))]), (.v 3)]), (.c (.str " "))]), (.v 3)]), (.pr .tup [(.c (.str "is")), (.v 4)])]), (.pr .tup [(.pr .add [(.v 1), (.c (.str " in"))]), (.pr .tup [(.c (.str "is")), (.pr .tup [(.v 1), (.c (.str "in")), (.pr .tup [(.pr .int_ [(.v 3)])])])])]), (.pr .tup [(.pr .add [(.v 1), (.c (.str " in 2 1"))]), (.pr .tup [(.c (.str "is")), (.pr .tup [(.v 1), (.c (.str "in")), (.pr .tup [(.c (.int (1))), (.c (.int (2)))])])])]), (.pr .tup [(.pr .add [(.pr .add [(.pr .add [(.pr .add [(.v 1), (.c (.str " not in "))]), (.v 3)]), (.c (.str " "))]), (.v 3)]), (.pr .tup [(.c (.str "is")), (.pr .tup [(.v 1), (.c (.str "not in")), (.pr .tup [(.pr .int_ [(.v 3)])])])])]), (.pr .tup [(.pr .add [(.pr .add [(.v 1), (.c (.str " not "))]), (.v 3)]), (.pr .tup [(.c (.str "is")), (.pr .tup [(.v 1), (.c (.str "not in")), (.pr .tup [(.pr .int_ [(.v 3)])])])])]), (.pr .tup [(.pr .add [(.pr .add [(.v 1), (.c (.str " in "))]), (.meth .join "str" (.c (.str " ")) [(.v 6)])]), (.pr .tup [(.c (.str "is")), (.pr .tup [(.v 1), (.c (.str "in")), (.v 8)])])]), (.pr .tup [(.pr .add [(.pr .add [(.pr .add [(.v 1), (.c (.str " + "))]), (.v 3)]), (.c (.str " <= 3"))]), (.pr .tup [(.c (.str "order")), (.v 1), (.pr .int_ [(.v 3)]), (.v 2)])]), (.pr .tup [(.pr .add [(.pr .add [(.pr .add [(.pr .add [(.v 1), (.c (.str " + "))]), (.v 2)]), (.c (.str " <= "))]), (.v 3)]), (.pr .tup [(.c (.str "order")), (.v 1), (.pr .int_ [(.v 3)]), (.v 2)])]), (.pr .tup [(.pr .add [(.pr .add [(.pr .add [(.pr .add [(.v 1), (.c (.str " + "))]), (.v 3)]), (.c (.str " >= "))]), (.v 2)]), (.pr .tup [(.c (.str "order")), (.v 1), (.pr .int_ [(.v 3)]), (.v 2)])]), (.pr .tup [(.pr .add [(.c (.str "either ")), (.v 5)]), (.pr .tup [(.c (.str "either")), (.pr .tup [(.v 4), (.v 4)])])]), (.pr .tup [(.pr .add [(.c (.str "either ")), (.meth .join "str" (.c (.str " or ")) [(.pr .mul [(.pr .list [(.v 5)]), (.c (.int (14)))])])]), (.pr .tup [(.c (.str "either")), (.pr .tuple_ [(.pr .mul [(.pr .list [(.v 4)]), (.c (.int (13)))])])])]), (.pr .tup [(.pr .add [(.pr .add [(.pr .add [(.c (.str "either ")), (.v 5)]), (.c (.str " and "))]), (.v 5)]), (.pr .tup [(.c (.str "either")), (.pr .tup [(.v 4), (.v 4)])])]), (.pr .tup [(.pr .add [(.pr .add [(.pr .add [(.c (.str "if ")), (.meth .join "str" (.c (.str " and ")) [(.pr .mul [(.pr .list [(.v 5)]), (.c (.int (9)))])])]), (.c (.str " then "))]), (.v 5)]), (.pr .tup [(.c (.str "if")), (.pr .tuple_ [(.pr .mul [(.pr .list [(.v 4)]), (.c (.int (8)))])]), (.pr .tup [(.c (.str "is")), (.v 4)])])]), (.pr .tup [(.pr .add [(.pr .add [(.pr .add [(.pr .add [(.pr .add [(.c (.str "if ")), (.v 5)]), (.c (.str " then "))]), (.v 5)]), (.c (.str " then "))]), (.v 5)]), (.pr .tup [(.c (.str "if")), (.pr .tup [(.v 4)]), (.pr .tup [(.c (.str "is")), (.v 4)])])]), (.pr .tup [(.pr .add [(.c (.str "if ")), (.v 5)]), (.pr .tup [(.c (.str "if")), (.pr .tup [(.v 4)]), (.pr .tup [(.c (.str "is")), (.v 4)])])]), (.pr .tup [(.pr .add [(.pr .add [(.pr .add [(.pr .add [(.pr .add [(.c (.str "if ")), (.v 5)]), (.c (.str " then either "))]), (.v 5)]), (.c (.str " or "))]), (.v 5)]), (.pr .tup [(.c (.str "if")), (.pr .tup [(.v 4)]), (.pr .tup [(.c (.str "is")), (.v 4)])])]), (.pr .tup [(.pr .add [(.pr .add [(.c (.str "at most ")), (.v 3)]), (.c (.str " of"))]), (.pr .tup [(.c (.str "most")), (.pr .int_ [(.v 3)]), (.pr .tup [(.v 4)])])]), (.pr .tup [(.pr .add [(.pr .add [(.pr .add [(.c (.str "at most ")), (.v 3)]), (.c (.str " of "))]), (.meth .join "str" (.c (.str " , ")) [(.pr .mul [(.pr .list [(.v 5)]), (.c (.int (9)))])])]), (.pr .tup [(.c (.str "most")), (.pr .int_ [(.v 3)]), (.pr .tuple_ [(.pr .mul [(.pr .list [(.v 4)]), (.c (.int (8)))])])])]), (.pr .tup [(.pr .add [(.pr .add [(.pr .add [(.pr .add [(.pr .add [(.c (.str "at least ")), (.v 3)]), (.c (.str " of "))]), (.v 5)]), (.c (.str " "))]), (.v 5)]), (.pr .tup [(.c (.str "least")), (.pr .int_ [(.v 3)]), (.pr .tup [(.v 4), (.v 4)])])]), (.pr .tup [(.pr .add [(.pr .add [(.pr .add [(.c (.str "at least ")), (.v 1)]), (.c (.str " of "))]), (.v 5)]), (.pr .tup [(.c (.str "least")), (.pr .int_ [(.v 3)]), (.pr .tup [(.v 4)])])]), (.pr .tup [(.pr .add [(.pr .add [(.pr .add [(.c (.str "at ")), (.v 3)]), (.c (.str " of "))]), (.v 5)]), (.pr .tup [(.c (.str "most")), (.pr .int_ [(.v 3)]), (.pr .tup [(.v 4)])])]), (.pr .tup [(.pr .add [(.pr .add [(.pr .add [(.c (.str "most ")), (.v 3)]), (.c (.str " of "))]), (.v 5)]), (.pr .tup [(.c (.str "most")), (.pr .int_ [(.v 3)]), (.pr .tup [(.v 4)])])])])]
/-- _law_wrong_sign: ["source", "text", "kind", "at"] -/
def b__law_wrong_sign : List S := [
    .asg (.nm 2) (.call i__law_pick [(.v 0), (.c (.int (4)))]),
    .asg (.nm 3) (.call i__law_pick [(.v 0), (.pr .len [(.v 1)])]),
    .ife (.pr .eq [(.v 2), (.c (.int (0)))]) [.ret (.pr .add [(.pr .add [(.pr (.slice false true) [(.v 1), (.v 3)]), (.pr .idx [(.c (.str "ABZ_.*;~!(\t")), (.call i__law_pick [(.v 0), (.c (.int (11)))])])]), (.pr (.slice true false) [(.v 1), (.v 3)])])] [],
    .ife (.pr .eq [(.v 2), (.c (.int (1)))]) [.ret (.ite (.pr .ne [(.v 1), (.c (.str ""))]) (.pr .add [(.v 1), (.c (.str " "))]) (.c (.str "A")))] [],
    .ife (.pr .eq [(.v 2), (.c (.int (2)))]) [.ret (.pr .add [(.c (.str " ")), (.v 1)])] [],
    .ret (.ite (.pr .in_ [(.c (.str " ")), (.v 1)]) (.pr .repl1 [(.v 1), (.c (.str " ")), (.c (.str "  "))]) (.pr .add [(.v 1), (.c (.str "Q"))]))]
/-- _law_faulty: ["source", "a", "b", "n", "kind", "line", "first", "pairs", "text", "form", "head"] -/
def b__law_faulty : List S := [
    .asg (.nm 1) (.call i__law_word [(.v 0)]),
    .asg (.nm 2) (.call i__law_word [(.v 0)]),
    .asg (.nm 3) (.pr .str_ [(.pr .sub [(.call i__law_pick [(.v 0), (.c (.int (30)))]), (.c (.int (9)))])]),
    .asg (.nm 4) (.call i__law_pick [(.v 0), (.c (.int (8)))]),
    .ife (.pr .eq [(.v 4), (.c (.int (0)))]) [.ret (.pr .tup [(.pr (.slice false true) [(.c (.str "   ")), (.call i__law_pick [(.v 0), (.c (.int (4)))])]), (.c (.str "empty")), (.pr .tup [(.c (.str "close")), (.v 1)])])] [],
    .ife (.pr .eq [(.v 4), (.c (.int (1)))]) [.asg (.nm 5) (.pr .tup [(.c (.str "name")), (.v 1), (.pr .int_ [(.v 3)]), (.c (.int (40)))]), .ret (.pr .tup [(.call i__law_wrong_sign [(.v 0), (.call i__law_line [(.v 5)])]), (.c (.str "sign")), (.v 5)])] [],
    .ife (.pr .eq [(.v 4), (.c (.int (2)))]) [.asg (.nm 5) (.pr .tup [(.c (.str "close")), (.v 1)]), .asg (.nm 6) (.pr .idx [(.pr .list [(.c (.str "closes")), (.c (.str "clos")), (.c (.str "names")), (.c (.str "rows")), (.c (.str "either")), (.c (.str "at")), (.c (.str "7")), (.c (.str ":")), (.c (.str "nd")), (.pr .add [(.v 1), (.c (.str "x"))])]), (.call i__law_pick [(.v 0), (.c (.int (10)))])]), .ret (.pr .tup [(.pr .add [(.pr .add [(.v 6), (.c (.str " "))]), (.v 1)]), (.c (.str "word")), (.v 5)])] [],
    .ife (.pr .le [(.v 4), (.c (.int (4)))]) [.asg (.nm 7) (.call i__law_word_pairs [(.v 0), (.v 1), (.v 2), (.v 3)]), .asg (.tp [8, 5]) (.pr .idx [(.v 7), (.call i__law_pick [(.v 0), (.pr .len [(.v 7)])])]), .ret (.pr .tup [(.v 8), (.c (.str "form")), (.v 5)])] [],
    .asg (.nm 7) (.call i__law_form_pairs [(.v 0), (.v 1), (.v 2), (.v 3)]),
    .asg (.tp [8, 9]) (.pr .idx [(.v 7), (.call i__law_pick [(.v 0), (.pr .len [(.v 7)])])]),
    .asg (.nm 10) (.pr .idx [(.pr .list [(.c (.str "row")), (.c (.str "must"))]), (.call i__law_pick [(.v 0), (.c (.int (2)))])]),
    .ret (.pr .tup [(.pr .add [(.pr .add [(.pr .add [(.pr .add [(.v 10), (.c (.str " "))]), (.v 2)]), (.c (.str " : "))]), (.v 8)]), (.c (.str "form")), (.pr .tup [(.v 10), (.v 2), (.v 9)])])]
/-- _law_read: ["text", "told", "e"] -/
def b__law_read : List S := [
    .try_ [.asg (.nm 1) (.call i_read_lines [(.v 0)])] [0] 2 [.ret (.pr .tup [(.c (.str "raised")), (.call i__law_fault [(.v 2)])])],
    .ret (.pr .tup [(.c (.str "lines")), (.v 1)])]
/-- law: ["script", "source", "lines", "rows", "line", "wrong", "turn", "at", "text", "what", "due", "bad", "later", "both", "near"] -/
def b_law : List S := [
    .asg (.nm 1) (.call i__law_source [(.v 0), (.c (.int (0)))]),
    .asg (.nm 2) (.call i__law_any_lines [(.v 1), (.pr .add [(.c (.int (2))), (.call i__law_pick [(.v 1), (.c (.int (6)))])])]),
    .asg (.nm 3) (.comp false [4] (.nm 4) .seq [(.v 2)] none (.call i__law_line [(.v 4)])),
    .asg (.nm 5) (.call i__law_source [(.v 0), (.c (.int (1)))]),
    .for_ (.nm 6) .rng1 [(.c (.int (3)))] [.asg (.nm 7) (.ite (.pr .eq [(.call i__law_pick [(.v 5), (.c (.int (3)))]), (.c (.int (0)))]) (.pr .sub [(.pr .len [(.v 3)]), (.c (.int (1)))]) (.call i__law_pick [(.v 5), (.pr .len [(.v 3)])])), .asg (.tp [8, 9, 4]) (.call i__law_faulty [(.v 5)]), .asg (.nm 10) (.pr .tup [(.c (.str "raised")), (.pr .tup [(.c (.str "BadText")), (.pr .add [(.v 7), (.c (.int (1)))]), (.v 9)])]), .asg (.nm 11) (.pr .add [(.pr .add [(.pr (.slice false true) [(.v 3), (.v 7)]), (.pr .list [(.v 8)])]), (.pr (.slice true false) [(.v 3), (.pr .add [(.v 7), (.c (.int (1)))])])]), .ife (.pr .not_ [(.call i__law_same [(.call i__law_read [(.pr .add [(.meth .join "str" (.c (.str "\n")) [(.v 11)]), (.c (.str "\n"))])]), (.v 10)])]) [.ret (.c (.bl false))] [], .asg (.nm 12) (.pr .add [(.v 11), (.pr .list [(.pr .idx [(.call i__law_faulty [(.v 5)]), (.c (.int (0)))])])]), .ife (.pr .not_ [(.call i__law_same [(.call i__law_read [(.pr .add [(.meth .join "str" (.c (.str "\n")) [(.v 12)]), (.c (.str "\n"))])]), (.v 10)])]) [.ret (.c (.bl false))] [], .ife (.and_ (.pr .ne [(.v 8), (.c (.str ""))]) (.pr .in_ [(.v 9), (.pr .tup [(.c (.str "word")), (.c (.str "form"))])])) [.asg (.nm 13) (.pr .add [(.pr .add [(.pr (.slice false true) [(.v 3), (.v 7)]), (.pr .list [(.call i__law_wrong_sign [(.v 5), (.v 8)])])]), (.pr (.slice true false) [(.v 3), (.pr .add [(.v 7), (.c (.int (1)))])])]), .ife (.pr .not_ [(.call i__law_same [(.call i__law_read [(.meth .join "str" (.c (.str "\n")) [(.v 13)])]), (.pr .tup [(.c (.str "raised")), (.pr .tup [(.c (.str "BadText")), (.pr .add [(.v 7), (.c (.int (1)))]), (.c (.str "sign"))])])])]) [.ret (.c (.bl false))] []] [], .asg (.nm 14) (.meth .join "str" (.c (.str "\n")) [(.pr .add [(.pr .add [(.pr (.slice false true) [(.v 3), (.v 7)]), (.pr .list [(.call i__law_line [(.v 4)])])]), (.pr (.slice true false) [(.v 3), (.pr .add [(.v 7), (.c (.int (1)))])])])]), .ife (.pr .not_ [(.call i__law_same [(.call i__law_read [(.v 14)]), (.pr .tup [(.c (.str "lines")), (.pr .add [(.pr .add [(.pr (.slice false true) [(.v 2), (.v 7)]), (.pr .list [(.v 4)])]), (.pr (.slice true false) [(.v 2), (.pr .add [(.v 7), (.c (.int (1)))])])])])])]) [.ret (.c (.bl false))] []],
    .ret (.c (.bl true))]



def fs : List Def := [⟨3, 5, b_text_lines⟩, ⟨1, 2, b_word_like⟩, ⟨1, 3, b_number_like⟩, ⟨2, 4, b_parted⟩, ⟨1, 6, b_read_condition⟩, ⟨4, 6, b_read_conditions⟩, ⟨1, 2, b_read_plain⟩, ⟨1, 5, b_read_form⟩, ⟨1, 4, b_read_lines⟩, ⟨2, 5, b_read_line⟩, ⟨1, 2, b_words_like⟩, ⟨1, 3, b_line_of⟩, ⟨0, 0, b__law_keywords⟩, ⟨2, 5, b__law_signs⟩, ⟨1, 1, b__law_word⟩, ⟨1, 3, b__law_figure⟩, ⟨2, 4, b__law_numbers⟩, ⟨1, 3, b__law_any_cond⟩, ⟨3, 5, b__law_any_conds⟩, ⟨1, 3, b__law_any_form⟩, ⟨1, 2, b__law_any_words⟩, ⟨1, 3, b__law_any_line⟩, ⟨2, 3, b__law_any_lines⟩, ⟨2, 6, b__law_source⟩, ⟨2, 3, b__law_pick⟩, ⟨2, 4, b__law_same⟩, ⟨1, 2, b__law_fault⟩, ⟨1, 2, b__law_cond_text⟩, ⟨1, 2, b__law_form_text⟩, ⟨1, 1, b__law_line⟩, ⟨4, 7, b__law_word_pairs⟩, ⟨4, 9, b__law_form_pairs⟩, ⟨2, 4, b__law_wrong_sign⟩, ⟨1, 11, b__law_faulty⟩, ⟨1, 3, b__law_read⟩, ⟨1, 15, b_law⟩]
theorem fs_ok : cTab (tblOf gl ce tab) tab = some fs := by kernel_rfl
end K01

namespace K01
open PySem PySem.Spec PyProof.Rows L2 DP
/-- a call's end -/
noncomputable def fin (M : Mem) : SRes → Res D
  | .done (.rt r) _ M1 => .ok r (trim M r M1)
  | .done .nx _ M1 => .ok .non (trim M .non M1)
  | .done (.ex x) _ M1 => .exc x M1
  | _ => .bad
theorem run_at {fs : List Def} {n f : Nat} {ds : List D} {M : Mem} {d : Def} (h : fs[f]? = some d) (hl : ds.length = d.par) :
    DP.run fs (n + 1) f ds M = fin M (execs (DP.run fs n) d.body (ds.map some ++ List.replicate (d.names - ds.length) none) M) := by
  unfold DP.run
  rw [h]
  simp only [hl, if_true]
  unfold fin
  rfl
theorem trim_len {M M' : Mem} {d : D} (h : M'.length = M.length) : trim M d M' = M' := by
  unfold trim
  split
  · rw [← h, List.take_length]
  · rfl
@[simp] theorem trim_self (M : Mem) (d : D) : trim M d M = M := trim_len rfl
theorem trim_app {M M1 X : Mem} {d : D} (h : M1.length = M.length) (hb : below M.length d = true) (hk : ∀ k, k < M.length → M1[k]? = M[k]? ∨ ∃ c, M1[k]? = some c ∧ belowC M.length c = true) : trim M d (M1 ++ X) = M1 := by
  unfold trim
  rw [if_pos]
  · rw [← h, List.take_left']; rfl
  · refine ⟨hb, by simp [h], fun k hk' => ?_⟩
    have e : (M1 ++ X)[k]? = M1[k]? := List.getElem?_append_left (by omega)
    rw [e]
    exact hk k hk'
theorem trim_new {M X : Mem} {d : D} (hb : below M.length d = true) : trim M d (M ++ X) = M := trim_app rfl hb fun _ _ => .inl rfl
@[simp] theorem fin_exc {M M1 : Mem} {x : Exn} {env : DP.Env} : fin M (.done (.ex x) env M1) = .exc x M1 := rfl
@[simp] theorem fin_ret {M M1 : Mem} {r : D} {env : DP.Env} : fin M (.done (.rt r) env M1) = .ok r (trim M r M1) := rfl
/-! ### strings -/
theorem shaped_str {x : Str} (h : PyData.strOk x = true) : SeqAt.shaped (.str x) = true := by
  unfold SeqAt.shaped
  rw [Bool.and_eq_true]
  refine ⟨?_, ?_⟩
  · show PyData.canLay0 (.str x) = true
    rw [PyData.canLay0]; exact h
  · exact decide_eq_true (by rw [PyData.depth]; omega)
theorem shaped_int {x : Int} : SeqAt.shaped (.int x) = true := by
  unfold SeqAt.shaped
  rw [Bool.and_eq_true]
  refine ⟨?_, ?_⟩
  · show PyData.canLay0 (.int x) = true
    rw [PyData.canLay0]
  · exact decide_eq_true (by rw [PyData.depth]; omega)
theorem pr_eq_str {M : Mem} {a b : Str} (ha : PyData.strOk a = true) (hb : PyData.strOk b = true) : pr .eq M [.str a, .str b] = some (.bl (decide (a = b)), M) := by
  show prEq M [.str a, .str b] = _
  unfold prEq pyM py
  simp only [shaped_str ha, shaped_str hb, and_self, if_true, okB, PyData.eqv]
  rfl
theorem pr_ne_str {M : Mem} {a b : Str} (ha : PyData.strOk a = true) (hb : PyData.strOk b = true) : pr .ne M [.str a, .str b] = some (.bl (!decide (a = b)), M) := by
  show prNe M [.str a, .str b] = _
  unfold prNe pyM py
  simp only [shaped_str ha, shaped_str hb, and_self, if_true, okB, PyData.eqv]
  rfl
@[simp] theorem pr_eq_int {M : Mem} {a b : Int} : pr .eq M [.int a, .int b] = some (.bl (decide (a = b)), M) := by
  show prEq M [.int a, .int b] = _
  unfold prEq pyM py
  simp only [shaped_int, and_self, if_true, okB, PyData.eqv]
  rfl
@[simp] theorem pr_ne_int {M : Mem} {a b : Int} : pr .ne M [.int a, .int b] = some (.bl (!decide (a = b)), M) := by
  show prNe M [.int a, .int b] = _
  unfold prNe pyM py
  simp only [shaped_int, and_self, if_true, okB, PyData.eqv]
  rfl
section
variable {M : Mem} {xs : List D} {i j : Int} {a b : Str} {d e : D}
@[simp] theorem pr_lt : pr .lt M [.int i, .int j] = some (.bl (decide (i < j)), M) := rfl
@[simp] theorem pr_le : pr .le M [.int i, .int j] = some (.bl (decide (i ≤ j)), M) := rfl
@[simp] theorem pr_gt : pr .gt M [.int i, .int j] = some (.bl (decide (j < i)), M) := rfl
@[simp] theorem pr_ge : pr .ge M [.int i, .int j] = some (.bl (decide (j ≤ i)), M) := rfl
@[simp] theorem pr_add : pr .add M [.int i, .int j] = some (.int (i + j), M) := rfl
@[simp] theorem pr_sub : pr .sub M [.int i, .int j] = some (.int (i - j), M) := rfl
@[simp] theorem pr_neg : pr .neg M [.int i] = some (.int (-i), M) := rfl
@[simp] theorem pr_isN : pr .isN M [d] = some (.bl d.isN, M) := rfl
@[simp] theorem pr_not {b : Bool} : pr .not_ M [.bl b] = some (.bl (!b), M) := rfl
@[simp] theorem pr_len_list : pr .len M [.list xs] = some (.int xs.length, M) := rfl
@[simp] theorem pr_len_tup : pr .len M [.tup xs] = some (.int xs.length, M) := rfl
theorem pr_len_str (h : a.length ≤ sizeLine) : pr .len M [.str a] = some (.int a.length, M) := by
  exact if_pos h
theorem pr_adds (h : a.length + b.length ≤ sizeLine) : pr .add M [.str a, .str b] = some (.str (a ++ b), M) := by
  exact if_pos h
theorem pr_addl {ys : List D} (h : xs.length + ys.length ≤ sizeLine) : pr .add M [.list xs, .list ys] = some (.list (xs ++ ys), M) := by
  show prAdd M [.list xs, .list ys] = _
  simp [prAdd, asLL, asL, h]
theorem atI_nat {α : Type} {xs : List α} (k : Nat) : atI xs (k : Int) = xs[k]? := by
  unfold atI ixN
  rw [if_pos (by omega)]
  by_cases h : k < xs.length
  · rw [if_pos (by omega)]; rfl
  · rw [if_neg (by omega)]
    simp only [Option.bind_none]
    exact (List.getElem?_eq_none (by omega)).symm
theorem pr_idx_list (h : atI xs i = some d) : pr .idx M [.list xs, .int i] = some (d, M) := by
  show prIdx M [.list xs, .int i] = _
  simp [prIdx, asSeq, asL, h]
theorem pr_idx_tup (h : atI xs i = some d) : pr .idx M [.tup xs, .int i] = some (d, M) := by
  show prIdx M [.tup xs, .int i] = _
  simp [prIdx, asSeq, asL, h]
theorem pr_idx_loc {n : Nat} (hm : M[n]? = some (.lst xs)) (h : atI xs i = some d) : pr .idx M [.loc n, .int i] = some (d, M) := by
  show prIdx M [.loc n, .int i] = _
  simp [prIdx, asSeq, asL, h, hm]
theorem pr_idx_str {c : Nat} (hz : a.length ≤ sizeLine) (h : atI a.cps.toList i = some c) : pr .idx M [.str a, .int i] = some (.str ⟨#[c]⟩, M) := by
  show prIdx M [.str a, .int i] = _
  simp [prIdx, h, hz]
theorem pr_tup (h : xs.length ≤ sizeLine) : pr .tup M xs = some (.tup xs, M) := by
  exact if_pos h
theorem pr_list (h : xs.length ≤ sizeLine) : pr .list M xs = some (.list xs, M) := by
  exact if_pos h
theorem pr_listM (h : xs.length ≤ sizeLine) : pr .listM M xs = some (.loc M.length, M ++ [.lst xs]) := by
  exact if_pos h
@[simp] theorem pr_tuple_list : pr .tuple_ M [.list xs] = some (.tup xs, M) := rfl
theorem pr_tuple_loc {n : Nat} (hm : M[n]? = some (.lst xs)) : pr .tuple_ M [.loc n] = some (.tup xs, M) := by
  show prTuple M [.loc n] = _
  simp [prTuple, asL, hm]
@[simp] theorem pr_list_tup : pr .list_ M [.tup xs] = some (.list xs, M) := rfl
@[simp] theorem pr_int_int : pr .int_ M [.int i] = some (.int i, M) := rfl
theorem pr_str_int (h : i.natAbs.log2 < 1920) : pr .str_ M [.int i] = some (.str (toString i), M) := by
  exact if_pos h
theorem pr_slice_lo {k : Nat} : pr (.slice true false) M [.list xs, .int k] = some (.list (xs.drop k), M) := by
  show slc M (some (k : Int)) none (.list xs) = _
  simp only [slc, asL, DP.cutD, HT.sIx_nat, HT.sIx_none]
  congr 3
  rw [List.take_of_length_le (by rw [List.length_drop]; omega)]
  by_cases h : k ≤ xs.length
  · rw [Nat.min_eq_left h]
  · rw [Nat.min_eq_right (by omega), List.drop_eq_nil_of_le (Nat.le_refl _), List.drop_eq_nil_of_le (by omega)]
theorem boolsOf_map (f : D → Bool) (xs : List D) : boolsOf (xs.map fun x => .bl (f x)) = some (xs.map f) := by
  induction xs with
  | nil => rfl
  | cons x xs ih => simp [boolsOf, ih]
theorem boolsOf_true : ∀ xs : List D, (∀ x ∈ xs, x = .bl true) → ∃ bs, boolsOf xs = some bs ∧ bs.all id = true
  | [], _ => ⟨[], rfl, rfl⟩
  | x :: xs, h => by
    obtain ⟨bs, e, t⟩ := boolsOf_true xs fun y m => h y (List.mem_cons_of_mem _ m)
    rw [h x List.mem_cons_self]
    exact ⟨true :: bs, by simp [boolsOf, e], by simpa using t⟩
theorem pr_all (h : ∀ x ∈ xs, x = .bl true) : pr .all M [.list xs] = some (.bl true, M) := by
  obtain ⟨bs, e, t⟩ := boolsOf_true xs h
  show prAll M [.list xs] = _
  simp only [prAll, asL, e, t, okB]
theorem strsOf_map : ∀ ss : List Str, strsOf (ss.map .str) = some ss
  | [] => rfl
  | s :: ss => by simp [strsOf, strsOf_map ss]
theorem pr_join {s : Str} {ss : List Str} (h : joinSize s ss ≤ 16777216) : pr .join M [.str s, .list (ss.map .str)] = some (.str (Txt.join s ss), M) := by
  show prJoin M [.str s, .list (ss.map .str)] = _
  simp only [prJoin, asSeq, asL, strsOf_map, if_pos h]
theorem pr_join_tup {s : Str} {ss : List Str} (h : joinSize s ss ≤ 16777216) : pr .join M [.str s, .tup (ss.map .str)] = some (.str (Txt.join s ss), M) := by
  show prJoin M [.str s, .tup (ss.map .str)] = _
  simp only [prJoin, asSeq, asL, strsOf_map, if_pos h]
@[simp] theorem pr_in_sign {c : Nat} {t : Str} : pr .in_ M [.str ⟨#[c]⟩, .str t] = some (.bl (decide (c ∈ t.cps.toList)), M) := by
  show prIn M [.str ⟨#[c]⟩, .str t] = _
  simp only [prIn, inB, okB]
@[simp] theorem pr_notIn_sign {c : Nat} {t : Str} : pr .notIn M [.str ⟨#[c]⟩, .str t] = some (.bl (!decide (c ∈ t.cps.toList)), M) := by
  show prNotIn M [.str ⟨#[c]⟩, .str t] = _
  simp only [prNotIn, inB, okB]
theorem pys_strs : ∀ ss : List Str, pys M 0 (ss.map .str) = some (ss.map .str)
  | [] => rfl
  | s :: ss => by simp [pys, py, pys_strs ss]
theorem canLayAll_strs : ∀ ss : List Str, (∀ s ∈ ss, PyData.strOk s = true) → PyData.canLayAll0 (ss.map .str) = true
  | [], _ => by simp [PyData.canLayAll0]
  | s :: ss, h => by
    simp only [List.map_cons, PyData.canLayAll0, Bool.and_eq_true]
    exact ⟨by simpa [PyData.canLay0] using h s List.mem_cons_self, canLayAll_strs ss fun y m => h y (List.mem_cons_of_mem _ m)⟩
end
end K01

namespace K01
open PySem PySem.Spec PyProof.Rows L2 DP
section
variable {call : Nat → List D → Mem → Res D} {env : DP.Env} {M : Mem} {a b c e : E} {es : List E} {d : D} {p : Pr} {s : S} {ss : List S}
@[simp] theorem ev_c : ev call (.c d) env M = .ok d M := by rw [ev]; try rfl
@[simp] theorem ev_v {i : Nat} : ev call (.v i) env M = (match env[i]? with | some (some d) => .ok d M | _ => .bad) := by rw [ev]; try rfl
@[simp] theorem ev_pr : ev call (.pr p es) env M = (evs call es env M).bind fun ds M1 => ofP (pr p M1 ds) := by rw [ev]; try rfl
@[simp] theorem ev_and : ev call (.and_ a b) env M = (ev call a env M).bind fun d M1 => match truth M1 d with
    | some true => ev call b env M1
    | some false => .ok d M1
    | none => .bad := by rw [ev]; try rfl
@[simp] theorem ev_or : ev call (.or_ a b) env M = (ev call a env M).bind fun d M1 => match truth M1 d with
    | some false => ev call b env M1
    | some true => .ok d M1
    | none => .bad := by rw [ev]; try rfl
@[simp] theorem ev_ite : ev call (.ite c a b) env M = (ev call c env M).bind fun d M1 => match truth M1 d with
    | some true => ev call a env M1
    | some false => ev call b env M1
    | none => .bad := by rw [ev]; try rfl
@[simp] theorem ev_call {f : Nat} : ev call (.call f es) env M = (evs call es env M).bind fun ds M1 => call f ds M1 := by rw [ev]; try rfl
@[simp] theorem ev_meth {t : String} : ev call (.meth p t e es) env M = (ev call e env M).bind fun d M1 => if d.ty M1 = some t then (evs call es env M1).bind fun ds M2 => ofP (pr p M2 (d :: ds)) else .bad := by rw [ev]; try rfl
@[simp] theorem ev_fstr : ev call (.fstr es) env M = match evs call es env M with
    | .ok ds M1 => ofP (prFmt M1 ds)
    | _ => .bad := by rw [ev]; try rfl
@[simp] theorem evs_nil : evs call [] env M = .ok [] M := by rw [evs]
@[simp] theorem evs_cons : evs call (e :: es) env M = (ev call e env M).bind fun d M1 => (evs call es env M1).bind fun ds M2 => .ok (d :: ds) M2 := by rw [evs]
/-- a comprehension without a condition whose list does not change later -/
noncomputable def compF (call : Nat → List D → Mem → Res D) (own : List Nat) (t : T) (elt : E) (env : DP.Env) (x : D) (M2 : Mem) : Res (Option D) := match store (wipeE env own) x t with
        | none => .bad
        | some env2 => (match ev call elt env2 M2 with
            | .ok d M4 => .ok (some d) M4
            | _ => .bad)
@[simp] theorem ev_comp {own : List Nat} {t : T} {k : SrcK} {src : List E} {elt : E} : ev call (.comp false own t k src none elt) env M = (evs call src env M).bind fun ds M1 => match walk M1 k ds with
    | none => .bad
    | some w => match compLoop w (compF call own t elt env) w.xs M1 with
      | .ok ys M5 => if ys.length ≤ sizeLine then .ok (.list ys) M5 else .bad
      | _ => .bad := by
  rw [ev]
  try rfl
@[simp] theorem ex_asg {t : T} : DP.exec call (.asg t e) env M = (ev call e env M).sb env fun d M1 => match store env d t with
    | some env1 => .done .nx env1 M1
    | none => .bad := by rw [DP.exec]; try rfl
@[simp] theorem ex_ret : DP.exec call (.ret e) env M = (ev call e env M).sb env fun d M1 => .done (.rt d) env M1 := by rw [DP.exec]; try rfl
@[simp] theorem ex_ex : DP.exec call (.ex e) env M = (ev call e env M).sb env fun _ M1 => .done .nx env M1 := by rw [DP.exec]; try rfl
@[simp] theorem ex_ife {a b : List S} : DP.exec call (.ife c a b) env M = (ev call c env M).sb env fun d M1 => match truth M1 d with
    | some true => execs call a env M1
    | some false => execs call b env M1
    | none => .bad := by rw [DP.exec]; try rfl
theorem ex_for {t : T} {k : SrcK} {src : List E} {body : List S} : DP.exec call (.for_ t k src body) env M = (evs call src env M).sb env fun ds M1 => match walk M1 k ds with
    | none => .bad
    | some w => forLoop w (fun x env2 M2 => match store env2 x t with
        | none => .bad
        | some env3 => execs call body env3 M2) w.xs env M1 := by rw [DP.exec]; try rfl
@[simp] theorem ex_setIx {o i e : E} : DP.exec call (.setIx o i e) env M = (ev call e env M).sb env fun d M1 => (ev call o env M1).sb env fun od M2 => (ev call i env M2).sb env fun id M3 => match prSetIdx M3 [od, id, d] with
    | some (_, M4) => .done .nx env M4
    | none => .bad := by rw [DP.exec]; try rfl
@[simp] theorem ex_augIx {o i e : E} : DP.exec call (.augIx o i p e) env M = (ev call o env M).sb env fun od M1 => (ev call i env M1).sb env fun id M2 => match prIdxL M2 [od, id] with
    | none => .bad
    | some (old, M3) => (ev call e env M3).sb env fun d2 M4 => match pr p M4 [old, d2] with
      | none => .bad
      | some (nw, M5) => match prSetIdx M5 [od, id, nw] with
        | some (_, M6) => .done .nx env M6
        | none => .bad := by rw [DP.exec]; try rfl
@[simp] theorem ex_raise {c n : Nat} {fs : List (Str × Nat)} : DP.exec call (.raise c n fs es) env M = (evs call es env M).sb env fun ds M1 => match (if ds.length = n then exnOf fs ds [] else none) with
    | some xs => .done (.ex ⟨c, xs⟩) env M1
    | none => .bad := by rw [DP.exec]; try rfl
@[simp] theorem ex_try {body suite : List S} {yes : List Nat} {i : Nat} : DP.exec call (.try_ body yes i suite) env M = match DP.execs call body env M with
    | .done (.ex x) env1 M1 => if x.cls ∈ yes then (match DP.execs call suite (env1.set i (some (.err x.cls (x.fs.map (·.1)) (x.fs.map (·.2))))) M1 with
        | .done (.ex _) _ _ => .bad
        | .done f env2 M2 => .done f (env2.set i none) M2
        | .bad => .bad)
      else .bad
    | r => r := by rw [DP.exec]; try rfl
@[simp] theorem exs_nil : execs call [] env M = .done .nx env M := by rw [DP.execs]
@[simp] theorem exs_cons : execs call (s :: ss) env M = match DP.exec call s env M with
    | .done .nx env1 M1 => execs call ss env1 M1
    | r => r := by rw [DP.execs]; try rfl
@[simp] theorem store_nm {i : Nat} : store env d (.nm i) = some (env.set i (some d)) := rfl
@[simp] theorem store_tp {is : List Nat} {xs : List D} : store env (.tup xs) (.tp is) = setAll env is xs := rfl
@[simp] theorem setAll_nil : setAll env [] [] = some env := rfl
@[simp] theorem setAll_cons {i : Nat} {is : List Nat} {xs : List D} : setAll env (i :: is) (d :: xs) = setAll (env.set i (some d)) is xs := rfl
@[simp] theorem wipe_nil : wipeE env [] = env := rfl
@[simp] theorem wipe_cons {i : Nat} {is : List Nat} : wipeE env (i :: is) = (wipeE env is).set i none := rfl
@[simp] theorem truth_bl {b : Bool} : truth M (.bl b) = some b := rfl
@[simp] theorem ty_str {x : Str} : (D.str x).ty M = some "str" := rfl
@[simp] theorem ty_list {x : List D} : (D.list x).ty M = some "list" := rfl
@[simp] theorem ty_loc {n : Nat} {xs : List D} (h : M[n]? = some (.lst xs)) : (D.loc n).ty M = some "list" := by simp [D.ty, h]
@[simp] theorem walk_str {x : Str} : walk M .seq [.str x] = some (.items (x.cps.toList.map fun c => .str ⟨#[c]⟩)) := by rw [walk]
@[simp] theorem walk_list {xs : List D} : walk M .seq [.list xs] = some (.items xs) := rfl
@[simp] theorem walk_tup {xs : List D} : walk M .seq [.tup xs] = some (.items xs) := rfl
@[simp] theorem walk_enum {xs : List D} : walk M .enum [.list xs] = some (.items (enumD 0 xs)) := rfl
theorem walk_rng1 {j : Int} (h : -(2 ^ 62) ≤ j ∧ j < 2 ^ 62) : walk M .rng1 [.int j] = some (.items (rngD 0 j.toNat)) := if_pos h
theorem walk_rng2 {i j : Int} (h : -(2 ^ 62) ≤ i ∧ i < 2 ^ 62 ∧ -(2 ^ 62) ≤ j ∧ j < 2 ^ 62) : walk M .rng2 [.int i, .int j] = some (.items (rngD i (j - i).toNat)) := if_pos h
@[simp] theorem walk_xs {xs : List D} : (Walk.items xs).xs = xs := rfl
theorem compLoop_map {ys : List D} {f : D → Mem → Res (Option D)} {g : D → D} : ∀ (xs : List D), (∀ x ∈ xs, f x M = .ok (some (g x)) M) → compLoop (.items ys) f xs M = .ok (xs.map g) M
  | [], _ => by simp [compLoop, Walk.Ok]
  | x :: xs, h => by
    rw [compLoop, if_pos (by trivial), h x List.mem_cons_self]
    simp only [compLoop_map xs fun y m => h y (List.mem_cons_of_mem _ m), List.map_cons]
/-- .. over things read in another form -/
theorem compLoop_on {α : Type} {ys : List D} {f : D → Mem → Res (Option D)} (i : α → D) (g : α → D) : ∀ (xs : List α), (∀ x ∈ xs, f (i x) M = .ok (some (g x)) M) → compLoop (.items ys) f (xs.map i) M = .ok (xs.map g) M
  | [], _ => by simp [compLoop, Walk.Ok]
  | x :: xs, h => by
    rw [List.map_cons, compLoop, if_pos (by trivial), h x List.mem_cons_self]
    simp only [compLoop_on i g xs fun y m => h y (List.mem_cons_of_mem _ m), List.map_cons]
theorem forLoop_nx {ys : List D} {f : D → DP.Env → Mem → SRes} (P : DP.Env → Prop) : ∀ (xs : List D) (env : DP.Env), P env → (∀ x ∈ xs, ∀ env, P env → ∃ env', f x env M = .done .nx env' M ∧ P env') → ∃ env', forLoop (.items ys) f xs env M = .done .nx env' M ∧ P env'
  | [], env, h, _ => ⟨env, by simp [forLoop, Walk.Ok], h⟩
  | x :: xs, env, h, k => by
    obtain ⟨env1, e1, h1⟩ := k x List.mem_cons_self env h
    obtain ⟨env2, e2, h2⟩ := forLoop_nx P xs env1 h1 fun y m => k y (List.mem_cons_of_mem _ m)
    refine ⟨env2, ?_, h2⟩
    rw [forLoop, if_pos (by trivial), e1]
    exact e2
theorem for_nx {t : T} {k : SrcK} {src : List E} {body : List S} {xs : List D} (P : DP.Env → Prop) (he : P env) (hs : ((evs call src env M).bind fun ds M1 => match walk M1 k ds with | some (.items ys) => .ok ys M1 | _ => .bad) = .ok xs M)
    (hk : ∀ x ∈ xs, ∀ env, P env → ∃ env1 env2, store env x t = some env1 ∧ DP.execs call body env1 M = .done .nx env2 M ∧ P env2) : ∃ env', DP.exec call (.for_ t k src body) env M = .done .nx env' M ∧ P env' := by
  rw [ex_for]
  cases hq : evs call src env M with
  | bad => rw [hq] at hs; cases hs
  | exc => rw [hq] at hs; cases hs
  | ok ds M1 =>
    rw [hq] at hs
    simp only [Res.bind] at hs
    cases hw : walk M1 k ds with
    | none => rw [hw] at hs; cases hs
    | some w =>
      rw [hw] at hs
      cases w with
      | cell => cases hs
      | items ys =>
        cases hs
        simp only [Res.sb, hw]
        refine forLoop_nx P xs env he fun x hx env h => ?_
        obtain ⟨e1, e2, h1, h2, h3⟩ := hk x hx env h
        exact ⟨e2, by rw [h1]; exact h2, h3⟩
theorem for_nx2 {t : T} {k : SrcK} {src : List E} {body : List S} {xs ds : List D} (P : DP.Env → Prop) (he : P env) (h1 : evs call src env M = .ok ds M) (h2 : walk M k ds = some (.items xs))
    (hk : ∀ x ∈ xs, ∀ env, P env → ∃ env1 env2, store env x t = some env1 ∧ DP.execs call body env1 M = .done .nx env2 M ∧ P env2) : ∃ env', DP.exec call (.for_ t k src body) env M = .done .nx env' M ∧ P env' :=
  for_nx P he (by rw [h1]; show (match walk M k ds with | some (.items ys) => Res.ok ys M | _ => .bad) = _; rw [h2]) hk
@[simp] theorem pr_idxl {xs : List D} {i : Int} : pr .idx M [.list xs, .int i] = (match atI xs i with | some d => some (d, M) | none => none) := rfl
@[simp] theorem pr_idxt {xs : List D} {i : Int} : pr .idx M [.tup xs, .int i] = (match atI xs i with | some d => some (d, M) | none => none) := rfl
@[simp] theorem atI_0 {α : Type} {xs : List α} : atI xs 0 = xs[0]? := atI_nat 0
@[simp] theorem atI_1 {α : Type} {xs : List α} : atI xs 1 = xs[1]? := atI_nat 1
@[simp] theorem atI_2 {α : Type} {xs : List α} : atI xs 2 = xs[2]? := atI_nat 2
@[simp] theorem atI_3 {α : Type} {xs : List α} : atI xs 3 = xs[3]? := atI_nat 3
@[simp] theorem atI_4 {α : Type} {xs : List α} : atI xs 4 = xs[4]? := atI_nat 4
@[simp] theorem slice_1 {xs : List D} : pr (.slice true false) M [.list xs, .int 1] = some (.list (xs.drop 1), M) := pr_slice_lo (k := 1)
@[simp] theorem slice_2 {xs : List D} : pr (.slice true false) M [.list xs, .int 2] = some (.list (xs.drop 2), M) := pr_slice_lo (k := 2)
@[simp] theorem slice_3 {xs : List D} : pr (.slice true false) M [.list xs, .int 3] = some (.list (xs.drop 3), M) := pr_slice_lo (k := 3)
@[simp] theorem slice_4 {xs : List D} : pr (.slice true false) M [.list xs, .int 4] = some (.list (xs.drop 4), M) := pr_slice_lo (k := 4)
end
/-! ### words -/
def kws : List Str := ["name", "row", "must", "block", "end", "use", "mustuse", "close", "either", "or", "if", "and", "then", "at", "most", "least", "of", "in", "not"]
def letters : List Nat := (List.range 26).map (· + 97)
def figures : List Nat := (List.range 10).map (· + 48)
structure IsW (w : Str) : Prop where
  hd : ∃ c cs, TL.tl w = c :: cs ∧ 97 ≤ c ∧ c ≤ 122
  al : ∀ c ∈ TL.tl w, (97 ≤ c ∧ c ≤ 122) ∨ (48 ≤ c ∧ c ≤ 57)
  ln : w.length ≤ 12
  kw : w ∉ kws
theorem letters_in {c : Nat} : c ∈ ("abcdefghijklmnopqrstuvwxyz" : Str).cps.toList ↔ 97 ≤ c ∧ c ≤ 122 := by
  have e : ("abcdefghijklmnopqrstuvwxyz" : Str).cps.toList = (List.range 26).map (· + 97) := by decide
  rw [e]
  simp only [List.mem_map, List.mem_range]
  constructor
  · rintro ⟨k, h, rfl⟩; omega
  · intro h; exact ⟨c - 97, by omega, by omega⟩
theorem figures_in {c : Nat} : c ∈ ("0123456789" : Str).cps.toList ↔ 48 ≤ c ∧ c ≤ 57 := by
  have e : ("0123456789" : Str).cps.toList = (List.range 10).map (· + 48) := by decide
  rw [e]
  simp only [List.mem_map, List.mem_range]
  constructor
  · rintro ⟨k, h, rfl⟩; omega
  · intro h; exact ⟨c - 48, by omega, by omega⟩
theorem strOk_of {x : Str} (h : ∀ c ∈ TL.tl x, c < 1000) : PyData.strOk x = true := by
  unfold PyData.strOk
  rw [← Array.all_toList, List.all_eq_true]
  intro c hc
  have := h c hc
  exact decide_eq_true (by omega)
theorem ofString_eq {a b : String} : (Str.ofString a = Str.ofString b) ↔ a = b := by
  constructor
  · intro h
    have := congrArg TL.tl h
    rw [TL.tl_ofString, TL.tl_ofString] at this
    have inj : ∀ {l m : List Char}, l.map Char.toNat = m.map Char.toNat → l = m := by
      intro l
      induction l with
      | nil => intro m h; cases m with
        | nil => rfl
        | cons => cases h
      | cons x xs ih => intro m h; cases m with
        | nil => cases h
        | cons y ys =>
          simp only [List.map_cons, List.cons.injEq] at h
          rw [ih h.2, Char.toNat_inj.mp h.1]
    exact String.toList_inj.mp (inj this)
  · intro h; rw [h]
theorem strOk_lit {a : String} (h : (a.toList.all fun c => decide (c.toNat < 1000)) = true) : PyData.strOk (Str.ofString a) = true := strOk_of fun c hc => by
  rw [TL.tl_ofString] at hc
  obtain ⟨x, hx, rfl⟩ := List.mem_map.mp hc
  exact of_decide_eq_true (List.all_eq_true.mp h x hx)
theorem eq_lit {M : Mem} {a b : String} (ha : (a.toList.all fun c => decide (c.toNat < 1000)) = true) (hb : (b.toList.all fun c => decide (c.toNat < 1000)) = true) : pr .eq M [.str (Str.ofString a), .str (Str.ofString b)] = some (.bl (decide (a = b)), M) := by
  rw [pr_eq_str (strOk_lit ha) (strOk_lit hb)]
  simp only [ofString_eq]
theorem eq_empty {M : Mem} {w : Str} (h : PyData.strOk w = true) : pr .eq M [.str w, .str ""] = some (.bl (decide (TL.tl w = [])), M) := by
  rw [pr_eq_str h (strOk_lit (a := "") rfl)]
  have : (w = Str.ofString "") ↔ TL.tl w = [] := ⟨fun e => by rw [e]; rfl, fun e => TL.ext_tl (by rw [e]; rfl)⟩
  simp only [this]
theorem IsW.ok {w : Str} (h : IsW w) : PyData.strOk w = true := strOk_of fun c hc => by
  rcases h.al c hc with h | h <;> omega
theorem depth_strs (ss : List Str) : (PyData.list (ss.map .str)).depth ≤ 64 := by
  have h : ∀ ss : List Str, PyData.depthAll (ss.map .str) ≤ 1 := by
    intro ss
    induction ss with
    | nil => simp [PyData.depthAll]
    | cons s ss ih => simp [PyData.depthAll, PyData.depth]; omega
  have := h ss
  simp [PyData.depth]; omega
theorem shaped_strs {ss : List Str} (h : ∀ s ∈ ss, PyData.strOk s = true) : SeqAt.shaped (.list (ss.map .str)) = true := by
  unfold SeqAt.shaped
  rw [Bool.and_eq_true]
  exact ⟨by show PyData.canLay0 (.list _) = true; rw [PyData.canLay0]; exact canLayAll_strs ss h, decide_eq_true (depth_strs ss)⟩
theorem inB_strs {M : Mem} {w : Str} {ss : List Str} (hw : PyData.strOk w = true) (h : ∀ s ∈ ss, PyData.strOk s = true) : inB M [.str w, .tup (ss.map .str)] = some (decide (w ∈ ss)) := by
  have e : inB M [.str w, .tup (ss.map .str)] = (match pys M 0 (ss.map .str) with
      | some zs => if SeqAt.shaped (.str w) = true ∧ SeqAt.shaped (.list zs) = true then some (zs.any fun z => PyData.eqv z (.str w)) else none
      | none => none) := rfl
  rw [e, pys_strs]
  simp only [shaped_str hw, shaped_strs h, and_self, if_true, Option.some.injEq]
  rw [Bool.eq_iff_iff, List.any_eq_true, decide_eq_true_iff]
  constructor
  · rintro ⟨x, hx, e⟩
    obtain ⟨s, hs, rfl⟩ := List.mem_map.mp hx
    simp only [PyData.eqv, beq_iff_eq] at e
    exact e ▸ hs
  · intro hs
    exact ⟨.str w, List.mem_map.mpr ⟨w, hs, rfl⟩, by simp [PyData.eqv]⟩
theorem in_strs {M : Mem} {w : Str} {ss : List Str} (hw : PyData.strOk w = true) (h : ∀ s ∈ ss, PyData.strOk s = true) : pr .in_ M [.str w, .tup (ss.map .str)] = some (.bl (decide (w ∈ ss)), M) := by
  show prIn M [.str w, .tup (ss.map .str)] = _
  unfold prIn
  rw [inB_strs hw h]; rfl
theorem notIn_strs {M : Mem} {w : Str} {ss : List Str} (hw : PyData.strOk w = true) (h : ∀ s ∈ ss, PyData.strOk s = true) : pr .notIn M [.str w, .tup (ss.map .str)] = some (.bl (!decide (w ∈ ss)), M) := by
  show prNotIn M [.str w, .tup (ss.map .str)] = _
  unfold prNotIn
  rw [inB_strs hw h]; rfl
theorem kws_ok : ∀ s ∈ kws, PyData.strOk s = true := by
  intro s hs
  simp only [kws, List.mem_cons, List.not_mem_nil, or_false] at hs
  rcases hs with h | h | h | h | h | h | h | h | h | h | h | h | h | h | h | h | h | h | h <;> (rw [h]; exact strOk_lit rfl)
theorem run_word {n : Nat} {w : Str} {M : Mem} (h : IsW w) : DP.run fs (n + 1) i_word_like [.str w] M = .ok (.bl true) M := by
  obtain ⟨c, cs, e, hc⟩ := h.hd
  have hl : w.length ≤ sizeLine := by have := h.ln; simp [sizeLine]; omega
  have h12 : ¬ (12 : Int) < w.length := by have := h.ln; omega
  have hidx : pr .idx M [.str w, .int 0] = some (.str ⟨#[c]⟩, M) := pr_idx_str hl (by
    rw [atI_0]; show (TL.tl w)[0]? = _; rw [e]; rfl)
  have hin : pr .in_ M [.str w, .tup [(.str "name"), (.str "row"), (.str "must"), (.str "block"), (.str "end"), (.str "use"), (.str "mustuse"), (.str "close"), (.str "either"), (.str "or"), (.str "if"), (.str "and"), (.str "then"), (.str "at"), (.str "most"), (.str "least"), (.str "of"), (.str "in"), (.str "not")]] = some (.bl false, M) := by
    rw [show [D.str "name", .str "row", .str "must", .str "block", .str "end", .str "use", .str "mustuse", .str "close", .str "either", .str "or", .str "if", .str "and", .str "then", .str "at", .str "most", .str "least", .str "of", .str "in", .str "not"] = kws.map .str from rfl, in_strs h.ok kws_ok]
    simp only [h.kw, decide_false]
  rw [run_at (d := ⟨1, 2, b_word_like⟩) rfl rfl]
  have hL := @letters_in c
  obtain ⟨env', hf, _⟩ := for_nx (call := DP.run fs n) (M := M) (t := .nm 1) (k := .seq) (src := [.v 0]) (env := [some (.str w), none]) (xs := w.cps.toList.map fun c => .str ⟨#[c]⟩)
    (body := [.ife (.and_ (.pr .notIn [(.v 1), (.c (.str "abcdefghijklmnopqrstuvwxyz"))]) (.pr .notIn [(.v 1), (.c (.str "0123456789"))])) [.ret (.c (.bl false))] []]) (fun env => env.length = 2) rfl (by simp) (by
      intro x hx env he
      obtain ⟨a, b, rfl⟩ : ∃ a b, env = [a, b] := by
        match env, he with
        | [a, b], _ => exact ⟨a, b, rfl⟩
      obtain ⟨c, hc, rfl⟩ := List.mem_map.mp hx
      refine ⟨_, [a, some (.str ⟨#[c]⟩)], rfl, ?_, rfl⟩
      have hL := @letters_in c
      have hF := @figures_in c
      rcases h.al c hc with q | q
      · simp [hL, q]
      · by_cases q2 : 97 ≤ c ∧ c ≤ 122
        · simp [hL, q2]
        · simp [hL, hF, q2, q])
  simp [b_word_like, eq_empty h.ok, e, pr_len_str hl, h12, hin, hidx, hL, hc, hf]
end K01

namespace K01
open PySem PySem.Spec PyProof.Rows L2 DP
/-- the signs of a whole number -/
def intL (i : Int) : List Nat := if i < 0 then 45 :: TL.numL i.natAbs else TL.numL i.natAbs
theorem tl_int (i : Int) : TL.tl (Str.ofString (toString i)) = intL i := by
  cases i with
  | ofNat n =>
    have := TL.tl_num n
    rw [show intL (Int.ofNat n) = TL.numL n from if_neg (Int.not_lt.mpr (Int.natCast_nonneg n))]
    exact this
  | negSucc m =>
    have e : toString (Int.negSucc m) = "-" ++ toString (((m + 1 : Nat)) : Int) := rfl
    have q := TL.tl_num (m + 1)
    rw [TL.tl_ofString] at q
    rw [e, TL.tl_ofString, String.toList_append, List.map_append, q]
    rw [show intL (Int.negSucc m) = 45 :: TL.numL (m + 1) from if_pos (Int.negSucc_lt_zero m)]
    rfl
structure NumOk (i : Int) : Prop where
  h : i.natAbs < 10 ^ 31
theorem NumOk.len {i : Int} (h : NumOk i) : (TL.numL i.natAbs).length ≤ 31 := TL.numL_len (by decide) h.h
theorem intL_len {i : Int} (h : NumOk i) : (intL i).length ≤ 32 := by
  have := h.len
  unfold intL
  split <;> simp <;> omega
theorem intL_in {i : Int} {c : Nat} (h : c ∈ intL i) : c = 45 ∨ (48 ≤ c ∧ c ≤ 57) := by
  have q : ∀ n, c ∈ TL.numL n → 48 ≤ c ∧ c ≤ 57 := fun n h => TL.numL_digits n c h
  unfold intL at h
  split at h
  · rcases List.mem_cons.mp h with h | h
    · exact .inl h
    · exact .inr (q _ h)
  · exact .inr (q _ h)
theorem intL_ne (i : Int) : intL i ≠ [] := by
  unfold intL
  split
  · simp
  · exact TL.numL_ne _
theorem numS_ok (i : Int) : PyData.strOk (Str.ofString (toString i)) = true := strOk_of fun c h => by
  rw [tl_int] at h
  rcases intL_in h with h | h <;> omega
theorem NumOk.log {i : Int} (h : NumOk i) : i.natAbs.log2 < 1920 := by
  have h2 : i.natAbs < 2 ^ 1920 := Nat.lt_of_lt_of_le h.h (Nat.le_trans (show 10 ^ 31 ≤ 2 ^ 256 by decide) (Nat.pow_le_pow_right (by decide) (by decide)))
  by_cases h0 : i.natAbs = 0
  · rw [h0]; decide
  · exact (Nat.log2_lt h0).mpr h2
theorem NumOk.int {i : Int} (h : NumOk i) : PySem.intText? (Str.ofString (toString i)) = some i := by
  have hl : (Str.ofString (toString i)).length ≤ 4300 := by
    rw [TL.len_tl, tl_int]; have := intL_len h; omega
  have e : (Str.ofString (toString i)).cps.toList = intL i := tl_int i
  by_cases hi : i < 0
  · have e2 : intL i = 45 :: TL.numL i.natAbs := if_pos hi
    rw [intText_neg (e.trans e2) (TL.numL_digits _) (TL.numL_ne _) hl, TL.numL_val]
    congr 1; omega
  · have e2 : intL i = TL.numL i.natAbs := if_neg hi
    rw [intText_digits (by rw [e, e2]; exact TL.numL_digits _) (by rw [e, e2]; exact TL.numL_ne _) hl, e, e2, TL.numL_val]
    congr 1; omega
theorem pr_int_num {M : Mem} {i : Int} (h : NumOk i) : pr .int_ M [.str (Str.ofString (toString i))] = some (.int i, M) := by
  have hl : (Str.ofString (toString i)).length ≤ 640 := by
    rw [TL.len_tl, tl_int]; have := intL_len h; omega
  show prInt M [.str (Str.ofString (toString i))] = _
  simp only [prInt, if_pos hl, h.int]
theorem numL_head {n : Nat} : ∃ c cs, TL.numL n = c :: cs ∧ (c = 48 → n = 0) := by
  have : ∀ k n, n < k → ∃ c cs, TL.numL n = c :: cs ∧ (c = 48 → n = 0) := by
    intro k
    induction k with
    | zero => intro n h; omega
    | succ k ih =>
      intro n h
      by_cases h10 : n < 10
      · exact ⟨48 + n, [], TL.numL_lt h10, by omega⟩
      · obtain ⟨c, cs, e, hc⟩ := ih (n / 10) (by omega)
        exact ⟨c, cs ++ [48 + n % 10], by rw [TL.numL_step (by omega), e]; rfl, fun h => by have := hc h; omega⟩
  exact this (n + 1) n (by omega)
/-- removeprefix "-" -/
theorem rmpre_num (i : Int) : TL.tl (Txt.removeprefix (Str.ofString (toString i)) "-") = TL.numL i.natAbs := by
  have e : (Str.ofString (toString i)).cps.toList = intL i := tl_int i
  have el : (Str.ofString (toString i)).length = (intL i).length := by rw [TL.len_tl, tl_int]
  rw [StrLaws.removeprefix_eq, StrLaws.subAt_eq, e, el]
  have e1 : ("-" : Str).length = 1 := rfl
  have e2 : ("-" : Str).cps.toList = [45] := rfl
  rw [e1, e2]
  by_cases hi : i < 0
  · rw [show intL i = 45 :: TL.numL i.natAbs from if_pos hi]
    rw [if_pos (by simp)]
    rw [TL.tl_mk]
    simp
  · have q : intL i = TL.numL i.natAbs := if_neg hi
    rw [if_neg]
    · rw [tl_int, q]
    · rw [q]
      obtain ⟨c, cs, h, _⟩ := numL_head (n := i.natAbs)
      have := TL.numL_digits i.natAbs c (by rw [h]; exact List.mem_cons_self)
      rw [h]
      simp
      omega
theorem run_num {n : Nat} {i : Int} {M : Mem} (h : NumOk i) : DP.run fs (n + 1) i_number_like [.str (Str.ofString (toString i))] M = .ok (.bl true) M := by
  have e := rmpre_num i
  have hok := numS_ok i
  have htl := tl_int i
  have hlen := intL_len h
  have hll : (Str.ofString (toString i)).length ≤ sizeLine := by
    rw [TL.len_tl, htl]; simp [sizeLine]; omega
  generalize hw : Txt.removeprefix (Str.ofString (toString i)) "-" = w at e
  have hrm : pr .rmpre M [.str (Str.ofString (toString i)), .str "-"] = some (.str w, M) := by
    rw [← hw]; exact if_pos hll
  generalize Str.ofString (toString i) = u at *
  have hwl : w.length ≤ 31 := by rw [TL.len_tl, e]; exact h.len
  have hwl2 : w.length ≤ sizeLine := by simp [sizeLine]; omega
  have h12 : ¬ (31 : Int) < w.length := by omega
  have hd : ∀ c ∈ TL.tl w, 48 ≤ c ∧ c ≤ 57 := by rw [e]; exact TL.numL_digits _
  have wok : PyData.strOk w = true := strOk_of fun c hc => by have := hd c hc; omega
  obtain ⟨c, cs, hc, h0⟩ := numL_head (n := i.natAbs)
  have ec : TL.tl w = c :: cs := e.trans hc
  have hidx : pr .idx M [.str w, .int 0] = some (.str ⟨#[c]⟩, M) := pr_idx_str hwl2 (by
    rw [atI_0]; show (TL.tl w)[0]? = _; rw [ec]; rfl)
  rw [run_at (d := ⟨1, 3, b_number_like⟩) rfl rfl]
  obtain ⟨env', hf, p0, p1⟩ := for_nx (call := DP.run fs n) (M := M) (t := .nm 2) (k := .seq) (src := [.v 1]) (env := [some (.str u), some (.str w), none]) (xs := w.cps.toList.map fun c => .str ⟨#[c]⟩)
    (body := [.ife (.pr .notIn [(.v 2), (.c (.str "0123456789"))]) [.ret (.c (.bl false))] []]) (fun env => ∃ b, env = [some (.str u), some (.str w), b]) ⟨_, rfl⟩ (by simp) (by
      rintro x hx env ⟨b, rfl⟩
      obtain ⟨c, hc, rfl⟩ := List.mem_map.mp hx
      refine ⟨_, [some (.str u), some (.str w), some (.str ⟨#[c]⟩)], rfl, ?_, _, rfl⟩
      have hF := @figures_in c
      simp [hF, hd c hc])
  subst p1
  have hz : PyData.strOk ⟨#[c]⟩ = true := strOk_of fun x hx => by
    have := hd c (by rw [ec]; exact List.mem_cons_self)
    rw [show TL.tl ⟨#[c]⟩ = [c] from rfl] at hx
    rw [List.mem_singleton.mp hx]; omega
  have hne := @pr_ne_str M ⟨#[c]⟩ "0" hz (strOk_lit rfl)
  have heq := @pr_eq_str M u "0" hok (strOk_lit rfl)
  have key : decide ((⟨#[c]⟩ : Str) = "0") = true → decide (u = "0") = true := by
    intro q
    have q := of_decide_eq_true q
    have : c = 48 := by
      have := congrArg TL.tl q
      rw [TL.tl_ofString] at this
      injection this
    have hi : i.natAbs = 0 := h0 this
    have hi : i = 0 := by omega
    subst hi
    exact decide_eq_true (TL.ext_tl (htl.trans rfl))
  simp [b_number_like, hrm, eq_empty wok, ec, pr_len_str hwl2, h12, hf, hidx, hne, heq]
  by_cases q : (⟨#[c]⟩ : Str) = Str.ofString "0"
  · have := key (decide_eq_true q)
    have := of_decide_eq_true this
    simp [q, this]
  · simp [q]
end K01

namespace K01
open PySem PySem.Spec PyProof.Rows L2 DP
/-- one word more -/
def pstep (sg : Str) (G : List (List Str)) (w : Str) : List (List Str) := if w = sg then G ++ [[]] else G.dropLast ++ [(G.getLast?.getD []) ++ [w]]
def groups (sg : Str) (ws : List Str) : List (List Str) := ws.foldl (pstep sg) [[]]
def weave (sg : Str) : List (List Str) → List Str
  | [] => []
  | [g] => g
  | g :: gs => g ++ sg :: weave sg gs
theorem pstep_free {sg : Str} : ∀ (g : List Str) (A : List (List Str)) (c : List Str), sg ∉ g → g.foldl (pstep sg) (A ++ [c]) = A ++ [c ++ g]
  | [], A, c, _ => by simp
  | w :: g, A, c, h => by
    have h1 : w ≠ sg := fun e => h (by rw [e]; exact List.mem_cons_self)
    have h2 : sg ∉ g := fun e => h (List.mem_cons_of_mem _ e)
    have e : pstep sg (A ++ [c]) w = A ++ [c ++ [w]] := by
      unfold pstep
      rw [if_neg h1]
      simp
    rw [List.foldl_cons, e, pstep_free g A (c ++ [w]) h2]
    simp
theorem groups_weave {sg : Str} : ∀ (gs : List (List Str)) (A : List (List Str)), gs ≠ [] → (∀ g ∈ gs, sg ∉ g) → (weave sg gs).foldl (pstep sg) (A ++ [[]]) = A ++ gs
  | [], _, h, _ => absurd rfl h
  | [g], A, _, h => by
    rw [weave, pstep_free g A [] (h g List.mem_cons_self)]
    simp
  | g :: g2 :: gs, A, _, h => by
    rw [weave]
    · rw [List.foldl_append, pstep_free g A [] (h g List.mem_cons_self), List.foldl_cons]
      rw [show pstep sg (A ++ [[] ++ g]) sg = (A ++ [g]) ++ [[]] by unfold pstep; rw [if_pos rfl]; simp]
      rw [groups_weave (g2 :: gs) (A ++ [g]) (by simp) fun g m => h g (List.mem_cons_of_mem _ m)]
      simp
    · simp
theorem groups_of {sg : Str} {gs : List (List Str)} (h : gs ≠ []) (hf : ∀ g ∈ gs, sg ∉ g) : groups sg (weave sg gs) = gs := groups_weave gs [] h hf

inductive Held (M : Mem) : List Nat → List (List Str) → Prop where
  | nil : Held M [] []
  | cons {a : Nat} {g : List Str} {as : List Nat} {gs : List (List Str)} (h : M[a]? = some (.lst (g.map .str))) (t : Held M as gs) : Held M (a :: as) (g :: gs)
theorem Held.mono {M M' : Mem} {as : List Nat} {gs : List (List Str)} (h : Held M as gs) (hm : ∀ a ∈ as, M'[a]? = M[a]?) : Held M' as gs := by
  induction h with
  | nil => exact .nil
  | cons h t ih => exact .cons ((hm _ List.mem_cons_self).trans h) (ih fun a m => hm a (List.mem_cons_of_mem _ m))
theorem Held.snoc {M : Mem} {as : List Nat} {gs : List (List Str)} (h : Held M as gs) {a : Nat} {g : List Str} (ha : M[a]? = some (.lst (g.map .str))) : Held M (as ++ [a]) (gs ++ [g]) := by
  induction h with
  | nil => exact .cons ha .nil
  | cons h t ih => exact .cons h ih
theorem Held.unsnoc {M : Mem} {as : List Nat} {a : Nat} {gs : List (List Str)} (h : Held M (as ++ [a]) gs) : ∃ gs' g, gs = gs' ++ [g] ∧ Held M as gs' ∧ M[a]? = some (.lst (g.map .str)) := by
  induction as generalizing gs with
  | nil =>
    cases h with
    | cons h t => cases t; exact ⟨[], _, rfl, .nil, h⟩
  | cons b as ih =>
    cases h with
    | cons h t =>
      obtain ⟨gs', g, e, h1, h2⟩ := ih t
      subst e
      exact ⟨_ :: gs', g, rfl, .cons h h1, h2⟩
structure PInv (M : Mem) (k : Nat) (M' : Mem) (as : List Nat) (G : List (List Str)) : Prop where
  pre : ∀ j, j < M.length → M'[j]? = M[j]?
  ln : M.length + 2 ≤ M'.length
  fnd : M'[M.length + 1]? = some (.lst (as.map .loc))
  held : Held M' as G
  nd : as.Nodup
  rng : ∀ a ∈ as, M.length ≤ a ∧ a < M'.length ∧ a ≠ M.length + 1
  ne : as ≠ []
  cnt : as.length ≤ k + 1
  each : ∀ g ∈ G, g.length ≤ k
theorem append_loc {M : Mem} {n : Nat} {xs : List D} {d : D} (h : M[n]? = some (.lst xs)) (hl : xs.length < sizeLine) : pr .append M [.loc n, d] = some (.non, M.set n (.lst (xs ++ [d]))) := by
  show prAppend M [.loc n, d] = _
  simp only [prAppend, h, if_pos hl]
theorem atI_last {α : Type} {xs : List α} {a : α} : atI (xs ++ [a]) (-1) = some a := by
  unfold atI ixN
  rw [if_neg (by omega), if_pos (by simp; omega)]
  have e : ((-1 : Int) + ((xs ++ [a]).length : Int)).toNat = xs.length := by simp; omega
  rw [Option.bind_some, e]
  simp
abbrev pbody (n : Nat) : List S := [.ife (.pr .eq [(.v 3), (.v 1)]) [.ex (.meth .append "list" (.v 2) [(.pr .listM [])])] [.ex (.meth .append "list" (.pr .idx [(.v 2), (.pr .neg [(.c (.int (1)))])]) [(.v 3)])]]
theorem pstep_inv {M M' : Mem} {k : Nat} {as : List Nat} {G : List (List Str)} {sg w : Str} {call : Nat → List D → Mem → Res D} {x : D} (I : PInv M k M' as G) (hk : k < 10000) (hw : PyData.strOk w = true) (hs : PyData.strOk sg = true) :
    ∃ M'' as', DP.execs call (pbody 0) [some x, some (.str sg), some (.loc (M.length + 1)), some (.str w)] M' = .done .nx [some x, some (.str sg), some (.loc (M.length + 1)), some (.str w)] M'' ∧ PInv M (k + 1) M'' as' (pstep sg G w) := by
  have hkk : k + 1 < sizeLine := by simp [sizeLine]; omega
  have hcnt := I.cnt
  have h2 := I.ln
  by_cases e : w = sg
  · have hf2 : (M' ++ [Cell.lst []])[M.length + 1]? = some (.lst (as.map .loc)) := by
      rw [List.getElem?_append_left (by omega)]; exact I.fnd
    refine ⟨(M' ++ [Cell.lst []]).set (M.length + 1) (.lst (as.map .loc ++ [.loc M'.length])), as ++ [M'.length], ?_, ?_⟩
    · have hq : pr .eq M' [.str w, .str sg] = some (.bl true, M') := by rw [pr_eq_str hw hs]; simp [e]
      have hty : (D.loc (M.length + 1)).ty M' = some "list" := ty_loc I.fnd
      have hap := append_loc (d := .loc M'.length) hf2 (show (as.map D.loc).length < sizeLine by simp; omega)
      simp [hq, hty, pr_listM, hap]
    · have hp : pstep sg G w = G ++ [[]] := if_pos e
      rw [hp]
      have hl : ∀ a, a ≠ M.length + 1 → ((M' ++ [Cell.lst []]).set (M.length + 1) (.lst (as.map .loc ++ [.loc M'.length])))[a]? = (M' ++ [Cell.lst []])[a]? := fun a h => List.getElem?_set_ne (Ne.symm h)
      refine ⟨fun j hj => ?_, by simp; omega, ?_, ?_, ?_, ?_, by simp, by simp; omega, ?_⟩
      · rw [hl j (by omega), List.getElem?_append_left (by omega)]; exact I.pre j hj
      · rw [List.getElem?_set_self (by simp; omega)]; simp
      · refine Held.snoc (I.held.mono fun a m => ?_) ?_
        · obtain ⟨_, r2, r3⟩ := I.rng a m
          rw [hl a r3, List.getElem?_append_left r2]
        · rw [hl _ (by omega), List.getElem?_append_right (Nat.le_refl _)]; simp
      · rw [List.nodup_append]
        refine ⟨I.nd, by simp, fun a ha b hb => ?_⟩
        have := (I.rng a ha).2.1
        rw [List.mem_singleton.mp hb]; omega
      · intro a ha
        rcases List.mem_append.mp ha with ha | ha
        · obtain ⟨r1, r2, r3⟩ := I.rng a ha
          exact ⟨r1, by simp; omega, r3⟩
        · rw [List.mem_singleton.mp ha]; exact ⟨by omega, by simp, by omega⟩
      · intro g hg
        rcases List.mem_append.mp hg with hg | hg
        · have := I.each g hg; omega
        · rw [List.mem_singleton.mp hg]; simp
  · obtain ⟨as0, a, rfl⟩ : ∃ as0 a, as = as0 ++ [a] := ⟨as.dropLast, as.getLast I.ne, (List.dropLast_concat_getLast I.ne).symm⟩
    obtain ⟨gs, g, rfl, H1, H2⟩ := I.held.unsnoc
    have hg := I.each g (by simp)
    have hat : atI (as0.map D.loc ++ [D.loc a]) (-1) = some (.loc a) := atI_last
    obtain ⟨r1, r2, r3⟩ := I.rng a (by simp)
    have hfn := I.fnd
    rw [List.map_append, List.map_cons, List.map_nil] at hfn
    have hix : pr .idx M' [.loc (M.length + 1), .int (-1)] = some (.loc a, M') := pr_idx_loc hfn hat
    refine ⟨M'.set a (.lst (g.map .str ++ [.str w])), as0 ++ [a], ?_, ?_⟩
    · have hq : pr .eq M' [.str w, .str sg] = some (.bl false, M') := by rw [pr_eq_str hw hs]; simp [e]
      have hty : (D.loc a).ty M' = some "list" := ty_loc H2
      have hap := append_loc (d := .str w) H2 (show (g.map D.str).length < sizeLine by simp; omega)
      simp [hq, hty, hix, hap]
    · have hp : pstep sg (gs ++ [g]) w = gs ++ [g ++ [w]] := by unfold pstep; rw [if_neg e]; simp
      rw [hp]
      have hl : ∀ b, b ≠ a → (M'.set a (.lst (g.map .str ++ [.str w])))[b]? = M'[b]? := fun b h => List.getElem?_set_ne (Ne.symm h)
      have hnd := I.nd
      rw [List.nodup_append] at hnd
      refine ⟨fun j hj => ?_, by simp; omega, ?_, ?_, I.nd, ?_, by simp, by omega, ?_⟩
      · rw [hl j (by omega)]; exact I.pre j hj
      · rw [hl _ (by omega)]; exact I.fnd
      · refine Held.snoc (H1.mono fun b m => hl b ?_) ?_
        · exact hnd.2.2 b m a List.mem_cons_self
        · rw [List.getElem?_set_self r2]; simp
      · intro b hb
        obtain ⟨q1, q2, q3⟩ := I.rng b hb
        exact ⟨q1, by simp; omega, q3⟩
      · intro x hx
        rcases List.mem_append.mp hx with hx | hx
        · have := I.each x (by simp [hx]); omega
        · rw [List.mem_singleton.mp hx]; simp; omega
theorem ploop {M : Mem} {sg : Str} {call : Nat → List D → Mem → Res D} {x : D} {ys : List D} (hs : PyData.strOk sg = true) : ∀ (ws : List Str) (b : Option D) (M' : Mem) (k : Nat) (as : List Nat) (G : List (List Str)), PInv M k M' as G → k + ws.length ≤ 10000 → (∀ w ∈ ws, PyData.strOk w = true) →
    ∃ b' M'' as', forLoop (.items ys) (fun x env2 M2 => match store env2 x (.nm 3) with
        | none => .bad
        | some env3 => DP.execs call (pbody 0) env3 M2) (ws.map .str) [some x, some (.str sg), some (.loc (M.length + 1)), b] M' = .done .nx [some x, some (.str sg), some (.loc (M.length + 1)), b'] M'' ∧ PInv M (k + ws.length) M'' as' (ws.foldl (pstep sg) G)
  | [], b, M', k, as, G, I, _, _ => ⟨b, M', as, by simp [forLoop, Walk.Ok], I⟩
  | w :: ws, b, M', k, as, G, I, hk, hw => by
    rw [List.length_cons] at hk
    obtain ⟨M1, as1, e1, I1⟩ := pstep_inv (call := call) (x := x) I (by omega) (hw w List.mem_cons_self) hs
    obtain ⟨b2, M2, as2, e2, I2⟩ := ploop (call := call) (x := x) (ys := ys) hs ws (some (.str w)) M1 (k + 1) as1 _ I1 (by omega) fun y m => hw y (List.mem_cons_of_mem _ m)
    refine ⟨b2, M2, as2, ?_, by rw [List.length_cons, show k + (ws.length + 1) = k + 1 + ws.length by omega]; exact I2⟩
    rw [List.map_cons, forLoop, if_pos (by trivial), store_nm]
    simp only [List.set_cons_succ, List.set_cons_zero, e1]
    exact e2
abbrev fzF (k : Nat) : Option (List D × Mem) → D → Option (List D × Mem) := fun r x => match r with
        | some (acc, M1) => match fz k M1 x with
          | some (y, M2) => some (acc ++ [y], M2)
          | none => none
        | none => none
theorem fz_strs {k : Nat} {M : Mem} : ∀ (ss : List Str) (acc : List D), (ss.map D.str).foldl (fzF k) (some (acc, M)) = some (acc ++ ss.map .str, M)
  | [], acc => by simp
  | s :: ss, acc => by
    have e : fzF k (some (acc, M)) (.str s) = some (acc ++ [.str s], M) := by
      cases k <;> rfl
    rw [List.map_cons, List.foldl_cons, e, fz_strs ss]
    simp
theorem fz_groups {M : Mem} : ∀ (as : List Nat) (G : List (List Str)) (M' : Mem) (acc : List D), Held M' as G → as.Nodup → (∀ a ∈ as, M.length ≤ a) → M.length ≤ M'.length → (∀ j, j < M.length → M'[j]? = M[j]?) →
    ∃ M'', (as.map D.loc).foldl (fzF 3) (some (acc, M')) = some (acc ++ G.map (fun g => .list (g.map .str)), M'') ∧ M.length ≤ M''.length ∧ ∀ j, j < M.length → M''[j]? = M[j]?
  | [], _, M', acc, .nil, _, _, hl, hp => ⟨M', by simp, hl, hp⟩
  | a :: as, _, M', acc, .cons (g := g) (gs := gs) h t, hn, hr, hl, hp => by
    rw [List.nodup_cons] at hn
    have ha := hr a List.mem_cons_self
    have e : fzF 3 (some (acc, M')) (.loc a) = some (acc ++ [.list (g.map .str)], M'.set a .dead) := by
      have e0 : fz 3 M' (.loc a) = some (.list (g.map .str), M'.set a .dead) := by
        have : fz 3 M' (.loc a) = (match M'[a]? with
          | some (.lst xs) => (xs.foldl (fzF 2) (some ([], M'.set a .dead))).map fun p => (D.list p.1, p.2)
          | _ => none) := rfl
        rw [this, h]
        simp only [fz_strs, Option.map_some, List.nil_append]
      simp only [fzF, e0]
    obtain ⟨M2, e2, h2, h3⟩ := fz_groups (M := M) as gs (M'.set a .dead) (acc ++ [.list (g.map .str)]) (t.mono fun b m => List.getElem?_set_ne (fun q => hn.1 (by rw [q]; exact m))) hn.2 (fun b m => hr b (List.mem_cons_of_mem _ m)) (by simpa using hl)
      (fun j hj => by rw [List.getElem?_set_ne (by omega)]; exact hp j hj)
    refine ⟨M2, ?_, h2, h3⟩
    rw [List.map_cons, List.foldl_cons, e, e2]
    simp
theorem trim_pre {M M' : Mem} {d : D} (hl : M.length ≤ M'.length) (hb : below M.length d = true) (h : ∀ j, j < M.length → M'[j]? = M[j]?) : trim M d M' = M := by
  unfold trim
  rw [if_pos ⟨hb, hl, fun k hk => .inl (h k hk)⟩]
  apply List.ext_getElem?
  intro j
  by_cases hj : j < M.length
  · rw [List.getElem?_take_of_lt hj]; exact h j hj
  · rw [List.getElem?_eq_none (by simp; omega), List.getElem?_eq_none (by omega)]
theorem belows_strs {n : Nat} : ∀ ss : List Str, belows n (ss.map .str) = true
  | [] => rfl
  | s :: ss => by simp [belows, below, belows_strs ss]
theorem belows_groups {n : Nat} : ∀ G : List (List Str), belows n (G.map fun g => .list (g.map .str)) = true
  | [] => rfl
  | s :: ss => by simp [belows, below, belows_strs, belows_groups ss]
theorem run_parted {n : Nat} {ws : List Str} {sg : Str} {M : Mem} (hs : PyData.strOk sg = true) (hl : ws.length ≤ 10000) (hw : ∀ w ∈ ws, PyData.strOk w = true) :
    DP.run fs (n + 1) i_parted [.list (ws.map .str), .str sg] M = .ok (.list ((groups sg ws).map fun g => .list (g.map .str))) M := by
  rw [run_at (d := ⟨2, 4, b_parted⟩) rfl rfl]
  have I : PInv M 0 (M ++ [.lst [], .lst [.loc M.length]]) [M.length] [[]] := by
    refine ⟨fun j hj => List.getElem?_append_left hj, by simp, ?_, ?_, by simp, ?_, by simp, by simp, by simp⟩
    · rw [List.getElem?_append_right (by omega)]; simp
    · refine .cons ?_ .nil
      rw [List.getElem?_append_right (by omega)]; simp
    · intro a ha; rw [List.mem_singleton.mp ha]; simp
  obtain ⟨b, M', as, e, J⟩ := ploop (call := DP.run fs n) (x := .list (ws.map .str)) (ys := ws.map .str) hs ws none _ 0 [M.length] [[]] I (by omega) hw
  obtain ⟨M2, e2, h2, h3⟩ := fz_groups (M := M) as _ (M'.set (M.length + 1) .dead) [] (J.held.mono fun a m => List.getElem?_set_ne (Ne.symm (J.rng a m).2.2)) J.nd (fun a m => (J.rng a m).1) (by have := J.ln; simp; omega)
    (fun j hj => by rw [List.getElem?_set_ne (by omega)]; exact J.pre j hj)
  have ef : fz 4 M' (.loc (M.length + 1)) = some (.list ((groups sg ws).map fun g => .list (g.map .str)), M2) := by
    have : fz 4 M' (.loc (M.length + 1)) = (match M'[M.length + 1]? with
          | some (.lst xs) => (xs.foldl (fzF 3) (some ([], M'.set (M.length + 1) .dead))).map fun p => (D.list p.1, p.2)
          | _ => none) := rfl
    rw [this, J.fnd]
    simp only [e2, Option.map_some, List.nil_append]
    rfl
  have ep : pr .freeze M' [.loc (M.length + 1)] = some (.list ((groups sg ws).map fun g => .list (g.map .str)), M2) := ef
  have ex : DP.exec (DP.run fs n) (.for_ (.nm 3) .seq [(.v 0)] (pbody 0)) [some (.list (ws.map .str)), some (.str sg), some (.loc (M.length + 1)), none] (M ++ [.lst [], .lst [.loc M.length]]) = .done .nx [some (.list (ws.map .str)), some (.str sg), some (.loc (M.length + 1)), b] M' := by
    rw [ex_for]
    simp only [evs_cons, ev_v, evs_nil, List.getElem?_cons_zero, Res.bind, Res.sb, walk_list, walk_xs]
    exact e
  have hm1 : pr .listM M [] = some (.loc M.length, M ++ [.lst []]) := pr_listM (by simp [sizeLine])
  have hm2 : pr .listM (M ++ [.lst []]) [.loc M.length] = some (.loc (M.length + 1), M ++ [.lst [], .lst [.loc M.length]]) := by
    rw [pr_listM (by simp [sizeLine])]; simp
  simp only [pbody] at ex
  simp [b_parted, hm1, hm2, ex, ep]
  rw [trim_pre h2 (by simp only [below]; exact belows_groups _) h3]
end K01

namespace K01
open PySem PySem.Spec PyProof.Rows L2 DP
abbrev numS (i : Int) : Str := Str.ofString (toString i)
inductive Sg where
  | ge | le | eq | in_ | nin
def Sg.s : Sg → Str
  | .ge => ">=" | .le => "<=" | .eq => "=" | .in_ => "in" | .nin => "not in"
def Sg.ws : Sg → List Str
  | .ge => [">="] | .le => ["<="] | .eq => ["="] | .in_ => ["in"] | .nin => ["not", "in"]
def Sg.many : Sg → Bool
  | .in_ => true | .nin => true | _ => false
structure Cnd where
  w : Str
  g : Sg
  ns : List Int
structure Cnd.Ok (c : Cnd) : Prop where
  w : IsW c.w
  n : ∀ i ∈ c.ns, NumOk i
  lo : 1 ≤ c.ns.length
  hi : c.ns.length ≤ 8
  one : c.g.many = false → c.ns.length = 1
  inc : ∀ k, (h : k + 1 < c.ns.length) → c.ns[k] < c.ns[k + 1]
def Cnd.ws (c : Cnd) : List Str := c.w :: (c.g.ws ++ c.ns.map numS)
def Cnd.d (c : Cnd) : D := .tup [.str c.w, .str c.g.s, .tup (c.ns.map .int)]
theorem eq_nil {M : Mem} {ss : List Str} (h : ∀ s ∈ ss, PyData.strOk s = true) : pr .eq M [.list (ss.map .str), .list []] = some (.bl ss.isEmpty, M) := by
  show prEq M [.list (ss.map .str), .list []] = _
  have e : py M 0 (.list (ss.map .str)) = some (.list (ss.map .str)) := by
    show (pys M 0 (ss.map .str)).map PyData.list = _
    rw [pys_strs]; rfl
  have e2 : SeqAt.shaped (.list []) = true := shaped_strs (ss := []) (by simp)
  unfold prEq pyM
  simp only [e, shaped_strs h, show py M 0 (.list []) = some (.list []) from rfl, e2, and_self, if_true, okB, PyData.eqv]
  cases ss <;> simp [PyData.eqvAll]
theorem ne_nil {M : Mem} {ss : List Str} (h : ∀ s ∈ ss, PyData.strOk s = true) : pr .ne M [.list (ss.map .str), .list []] = some (.bl (!ss.isEmpty), M) := by
  show prNe M [.list (ss.map .str), .list []] = _
  have e : py M 0 (.list (ss.map .str)) = some (.list (ss.map .str)) := by
    show (pys M 0 (ss.map .str)).map PyData.list = _
    rw [pys_strs]; rfl
  have e2 : SeqAt.shaped (.list []) = true := shaped_strs (ss := []) (by simp)
  unfold prNe pyM
  simp only [e, shaped_strs h, show py M 0 (.list []) = some (.list []) from rfl, e2, and_self, if_true, okB, PyData.eqv]
  cases ss <;> simp [PyData.eqvAll]
theorem lit_in {M : Mem} (a : String) (L : List String) (ha : (a.toList.all fun c => decide (c.toNat < 1000)) = true) (hL : ∀ b ∈ L, (b.toList.all fun c => decide (c.toNat < 1000)) = true) :
    pr .in_ M [.str (Str.ofString a), .tup (L.map fun b => .str (Str.ofString b))] = some (.bl (decide (a ∈ L)), M) := by
  rw [show (L.map fun b => D.str (Str.ofString b)) = (L.map Str.ofString).map .str by simp, in_strs (strOk_lit ha)]
  · have : Str.ofString a ∈ L.map Str.ofString ↔ a ∈ L := by
      rw [List.mem_map]
      exact ⟨fun ⟨b, hb, e⟩ => ofString_eq.mp e ▸ hb, fun h => ⟨a, h, rfl⟩⟩
    simp only [this]
  · intro s hs
    obtain ⟨b, hb, rfl⟩ := List.mem_map.mp hs
    exact strOk_lit (hL b hb)
theorem lit_notIn {M : Mem} (a : String) (L : List String) (ha : (a.toList.all fun c => decide (c.toNat < 1000)) = true) (hL : ∀ b ∈ L, (b.toList.all fun c => decide (c.toNat < 1000)) = true) :
    pr .notIn M [.str (Str.ofString a), .tup (L.map fun b => .str (Str.ofString b))] = some (.bl (!decide (a ∈ L)), M) := by
  have := lit_in (M := M) a L ha hL
  have e1 : prIn M [.str (Str.ofString a), .tup (L.map fun b => .str (Str.ofString b))] = some (.bl (decide (a ∈ L)), M) := this
  show prNotIn M [.str (Str.ofString a), .tup (L.map fun b => .str (Str.ofString b))] = _
  unfold prIn at e1
  unfold prNotIn
  cases h : inB M [.str (Str.ofString a), .tup (L.map fun b => .str (Str.ofString b))] with
  | none => rw [h] at e1; cases e1
  | some b => rw [h] at e1; simp only [okB, Option.some.injEq, Prod.mk.injEq, D.bl.injEq, and_true] at e1; rw [← e1]; rfl
@[simp] theorem pr_tup1 {M : Mem} {a : D} : pr .tup M [a] = some (.tup [a], M) := pr_tup (by simp [sizeLine])
@[simp] theorem pr_tup2 {M : Mem} {a b : D} : pr .tup M [a, b] = some (.tup [a, b], M) := pr_tup (by simp [sizeLine])
@[simp] theorem pr_tup3 {M : Mem} {a b c : D} : pr .tup M [a, b, c] = some (.tup [a, b, c], M) := pr_tup (by simp [sizeLine])
@[simp] theorem pr_tup4 {M : Mem} {a b c d : D} : pr .tup M [a, b, c, d] = some (.tup [a, b, c, d], M) := pr_tup (by simp [sizeLine])
@[simp] theorem pr_list0 {M : Mem} : pr .list M [] = some (.list [], M) := pr_list (by simp [sizeLine])
@[simp] theorem isN_tup {xs : List D} : (D.tup xs).isN = false := rfl
@[simp] theorem isN_non : D.non.isN = true := rfl
theorem run_cond_one {n : Nat} {w : Str} {g : Sg} {i : Int} {M : Mem} (hw : IsW w) (hi : NumOk i) (hg : g.many = false) : DP.run fs (n + 2) i_read_condition [.list [.str w, .str g.s, .str (numS i)]] M = .ok (.tup [.str w, .str g.s, .tup [.int i]]) M := by
  have hin : pr .in_ M [.str g.s, .tup [(.str ">="), (.str "<="), (.str "=")]] = some (.bl true, M) := by
    cases g <;> first | exact lit_in _ [">=", "<=", "="] rfl (by simp) | exact absurd hg (by simp [Sg.many])
  have h1 := run_word (n := n) (M := M) hw
  have h2 := run_num (n := n) (M := M) hi
  have h3 := pr_int_num (M := M) hi
  rw [run_at (d := ⟨1, 6, b_read_condition⟩) rfl rfl]
  simp [b_read_condition, h1, h2, h3, hin]
theorem nums_ok (ns : List Int) : ∀ s ∈ ns.map numS, PyData.strOk s = true := by
  intro s hs
  obtain ⟨i, _, rfl⟩ := List.mem_map.mp hs
  exact numS_ok i
theorem six {env : DP.Env} (he : env.length = 6) : ∃ a b c d e f, env = [a, b, c, d, e, f] := by
  match env, he with
  | [a, b, c, d, e, f], _ => exact ⟨_, _, _, _, _, _, rfl⟩
theorem cond_c1 {n : Nat} {ns : List Int} {M : Mem} (hn : ∀ i ∈ ns, NumOk i) (env : DP.Env) (he : env.length = 6) : compLoop (.items (ns.map (D.str ∘ numS))) (compF (DP.run fs (n + 1)) [3] (.nm 3) (.call i_number_like [(.v 3)]) env) (ns.map (D.str ∘ numS)) M = .ok (ns.map fun _ => .bl true) M := by
    refine compLoop_on (D.str ∘ numS) (fun _ => .bl true) ns fun x hx => ?_
    obtain ⟨a, b, c, d, e, f, rfl⟩ := six he
    have h2 := run_num (n := n) (M := M) (hn x hx)
    simp [compF, h2]
theorem cond_c2 {call : Nat → List D → Mem → Res D} {ns : List Int} {M : Mem} (hn : ∀ i ∈ ns, NumOk i) (env : DP.Env) (he : env.length = 6) : compLoop (.items (ns.map (D.str ∘ numS))) (compF call [3] (.nm 3) (.pr .int_ [(.v 3)]) env) (ns.map (D.str ∘ numS)) M = .ok (ns.map .int) M := by
    refine compLoop_on (D.str ∘ numS) .int ns fun x hx => ?_
    obtain ⟨a, b, c, d, e, f, rfl⟩ := six he
    have h2 := pr_int_num (M := M) (hn x hx)
    simp [compF, h2]
abbrev lpB : List S := [.ife (.pr .ge [(.pr .idx [(.v 4), (.pr .sub [(.v 5), (.c (.int (1)))])]), (.pr .idx [(.v 4), (.v 5)])]) [.ret (.c .non)] []]
theorem cond_lp2 {call : Nat → List D → Mem → Res D} {ns : List Int} {M : Mem} {a b c d : Option D} {k : Nat} (inc : ∀ k, (h : k + 1 < ns.length) → ns[k] < ns[k + 1]) (hk2 : k + 1 < ns.length) : DP.execs call lpB [a, b, c, d, some (.list (ns.map .int)), some (.int (1 + k))] M = .done .nx [a, b, c, d, some (.list (ns.map .int)), some (.int (1 + k))] M := by
      have hA : atI (ns.map D.int) (1 + (k : Int) - 1) = some (.int ns[k]) := by
        rw [show (1 + (k : Int) - 1) = (k : Int) by omega, atI_nat]
        simp [show k < ns.length by omega]
      have hB : atI (ns.map D.int) (1 + (k : Int)) = some (.int ns[k + 1]) := by
        rw [show (1 + (k : Int)) = ((k + 1 : Nat) : Int) by omega, atI_nat]
        simp [hk2]
      have := inc k hk2
      have h3 : ¬ ns[k + 1] ≤ ns[k] := by omega
      simp [hA, hB, h3]
theorem cond_lp3 {n : Nat} {x : D} (hx : x ∈ rngD 1 ((n : Int) - 1).toNat) : ∃ k : Nat, k + 1 < n ∧ x = .int (1 + k) := by
  obtain ⟨k, hk, rfl⟩ := List.mem_map.mp hx
  rw [List.mem_range] at hk
  exact ⟨k, by omega, rfl⟩
theorem cond_lp {call : Nat → List D → Mem → Res D} {ns : List Int} {M : Mem} (h8 : ns.length ≤ 8) (inc : ∀ k, (h : k + 1 < ns.length) → ns[k] < ns[k + 1]) (a b c d : Option D) : ∃ e, DP.exec call (.for_ (.nm 5) .rng2 [(.c (.int (1))), (.pr .len [(.v 4)])] lpB)
      [a, b, c, d, some (.list (ns.map .int)), none] M = .done .nx [a, b, c, d, some (.list (ns.map .int)), e] M := by
    obtain ⟨env', hf, ⟨e, rfl⟩⟩ := for_nx2 (call := call) (M := M) (t := .nm 5) (k := .rng2) (src := [(.c (.int (1))), (.pr .len [(.v 4)])]) (env := [a, b, c, d, some (.list (ns.map .int)), none])
      (body := lpB) (ds := [.int 1, .int ns.length]) (fun env => ∃ e, env = [a, b, c, d, some (.list (ns.map .int)), e]) ⟨_, rfl⟩
      (by simp) (walk_rng2 (by omega)) (by
      rintro x hx env ⟨e, rfl⟩
      obtain ⟨k, hk, rfl⟩ := cond_lp3 hx
      exact ⟨_, [a, b, c, d, some (.list (ns.map .int)), some (.int (1 + k))], rfl, cond_lp2 inc hk, _, rfl⟩)
    exact ⟨e, hf⟩
theorem run_cond_in0 {n : Nat} {w : Str} {ns : List Int} {M : Mem} (hw : IsW w) (hn : ∀ i ∈ ns, NumOk i) (h1 : 1 ≤ ns.length) (h8 : ns.length ≤ 8) (inc : ∀ k, (h : k + 1 < ns.length) → ns[k] < ns[k + 1]) :
    DP.run fs (n + 2) i_read_condition [.list (.str w :: .str "in" :: ns.map (D.str ∘ numS))] M = .ok (.tup [.str w, .str "in", .tup (ns.map .int)]) M := by
  have hw1 := run_word (n := n) (M := M) hw
  have hen := eq_nil (M := M) (nums_ok ns)
  have he : (ns.map numS).isEmpty = false := by cases ns with
    | nil => simp at h1
    | cons => rfl
  rw [he, List.map_map] at hen
  have hno : ∀ (a : String), a ∉ [">=", "<=", "="] → (a.toList.all fun c => decide (c.toNat < 1000)) = true → pr .in_ M [.str a, .tup [(.str ">="), (.str "<="), (.str "=")]] = some (.bl false, M) := fun a h q => by
    have := lit_in (M := M) a [">=", "<=", "="] q (by simp)
    rw [decide_eq_false h] at this
    exact this
  have hno1 := hno "in" (by simp) rfl
  have hno2 := hno "not" (by simp) rfl
  have c1 := cond_c1 (n := n) (M := M) hn
  have c2 := cond_c2 (call := DP.run fs (n + 1)) (M := M) hn
  have hsz : ns.length ≤ sizeLine := by simp [sizeLine]; omega
  have hall : pr .all M [.list (ns.map fun _ => .bl true)] = some (.bl true, M) := pr_all (by simp)
  have h8' : ¬ (8 : Int) < ns.length := by omega
  have hc3 : ¬ ((ns.length : Int) + 1 + 1 + 1 < 3) := by omega
  have hc2 : ¬ ((ns.length : Int) + 1 + 1 < 3) := by omega
  rw [run_at (d := ⟨1, 6, b_read_condition⟩) rfl rfl]
  have e1 := eq_lit (M := M) (a := "not") (b := "not") rfl rfl
  have e2 := eq_lit (M := M) (a := "in") (b := "in") rfl rfl
  have e3 := eq_lit (M := M) (a := "in") (b := "not") rfl rfl
  have e4 := pr_ne_str (M := M) (a := "in") (b := "in") (strOk_lit rfl) (strOk_lit rfl)
  obtain ⟨e, lp⟩ := cond_lp (call := DP.run fs (n + 1)) (M := M) h8 inc (some (.list (.str w :: .str "in" :: ns.map (D.str ∘ numS)))) (some (.str "in")) (some (.list (ns.map (D.str ∘ numS)))) none
  simp only [lpB] at lp
  simp [b_read_condition, hw1, hno1, hno2, hen, c1, c2, hsz, hall, h8', hc2, hc3, e1, e2, e3, e4, lp]
theorem run_cond_in1 {n : Nat} {w : Str} {ns : List Int} {M : Mem} (hw : IsW w) (hn : ∀ i ∈ ns, NumOk i) (h1 : 1 ≤ ns.length) (h8 : ns.length ≤ 8) (inc : ∀ k, (h : k + 1 < ns.length) → ns[k] < ns[k + 1]) :
    DP.run fs (n + 2) i_read_condition [.list (.str w :: .str "not" :: .str "in" :: ns.map (D.str ∘ numS))] M = .ok (.tup [.str w, .str "not in", .tup (ns.map .int)]) M := by
  have hw1 := run_word (n := n) (M := M) hw
  have hen := eq_nil (M := M) (nums_ok ns)
  have he : (ns.map numS).isEmpty = false := by cases ns with
    | nil => simp at h1
    | cons => rfl
  rw [he, List.map_map] at hen
  have hno : ∀ (a : String), a ∉ [">=", "<=", "="] → (a.toList.all fun c => decide (c.toNat < 1000)) = true → pr .in_ M [.str a, .tup [(.str ">="), (.str "<="), (.str "=")]] = some (.bl false, M) := fun a h q => by
    have := lit_in (M := M) a [">=", "<=", "="] q (by simp)
    rw [decide_eq_false h] at this
    exact this
  have hno1 := hno "in" (by simp) rfl
  have hno2 := hno "not" (by simp) rfl
  have c1 := cond_c1 (n := n) (M := M) hn
  have c2 := cond_c2 (call := DP.run fs (n + 1)) (M := M) hn
  have hsz : ns.length ≤ sizeLine := by simp [sizeLine]; omega
  have hall : pr .all M [.list (ns.map fun _ => .bl true)] = some (.bl true, M) := pr_all (by simp)
  have h8' : ¬ (8 : Int) < ns.length := by omega
  have hc3 : ¬ ((ns.length : Int) + 1 + 1 + 1 < 3) := by omega
  have hc2 : ¬ ((ns.length : Int) + 1 + 1 < 3) := by omega
  rw [run_at (d := ⟨1, 6, b_read_condition⟩) rfl rfl]
  have e1 := eq_lit (M := M) (a := "not") (b := "not") rfl rfl
  have e2 := eq_lit (M := M) (a := "in") (b := "in") rfl rfl
  have e3 := eq_lit (M := M) (a := "in") (b := "not") rfl rfl
  have e4 := pr_ne_str (M := M) (a := "in") (b := "in") (strOk_lit rfl) (strOk_lit rfl)
  obtain ⟨e, lp⟩ := cond_lp (call := DP.run fs (n + 1)) (M := M) h8 inc (some (.list (.str w :: .str "not" :: .str "in" :: ns.map (D.str ∘ numS)))) (some (.str "not in")) (some (.list (ns.map (D.str ∘ numS)))) none
  simp only [lpB] at lp
  simp [b_read_condition, hw1, hno1, hno2, hen, c1, c2, hsz, hall, h8', hc2, hc3, e1, e2, e3, e4, lp]
theorem run_cond {n : Nat} {c : Cnd} {M : Mem} (h : c.Ok) : DP.run fs (n + 2) i_read_condition [.list (c.ws.map .str)] M = .ok c.d M := by
  obtain ⟨w, g, ns⟩ := c
  have one : ∀ hg : g.many = false, ∃ i, ns = [i] := fun hg => by
    have := h.one hg
    match ns, this with
    | [i], _ => exact ⟨i, rfl⟩
  have em : ∀ l : List Str, (⟨w, .in_, ns⟩ : Cnd).ws.map D.str = .str w :: .str "in" :: ns.map (D.str ∘ numS) := fun _ => by simp [Cnd.ws, Sg.ws]
  have em2 : (⟨w, .nin, ns⟩ : Cnd).ws.map D.str = .str w :: .str "not" :: .str "in" :: ns.map (D.str ∘ numS) := by simp [Cnd.ws, Sg.ws]
  cases g with
  | ge => obtain ⟨i, rfl⟩ := one rfl; exact run_cond_one (g := .ge) h.w (h.n i List.mem_cons_self) rfl
  | le => obtain ⟨i, rfl⟩ := one rfl; exact run_cond_one (g := .le) h.w (h.n i List.mem_cons_self) rfl
  | eq => obtain ⟨i, rfl⟩ := one rfl; exact run_cond_one (g := .eq) h.w (h.n i List.mem_cons_self) rfl
  | in_ => rw [em []]; exact run_cond_in0 h.w h.n h.lo h.hi h.inc
  | nin => rw [em2]; exact run_cond_in1 h.w h.n h.lo h.hi h.inc
end K01

namespace K01
open PySem PySem.Spec PyProof.Rows L2 DP
def seps : List Str := ["or", "and", ",", "then"]
theorem sep_ok {sg : Str} (h : sg ∈ seps) : PyData.strOk sg = true := by
  simp only [seps, List.mem_cons, List.not_mem_nil, or_false] at h
  rcases h with h | h | h | h <;> (rw [h]; exact strOk_lit rfl)
theorem IsW.sep {w sg : Str} (h : IsW w) (hs : sg ∈ seps) : w ≠ sg := by
  simp only [seps, List.mem_cons, List.not_mem_nil, or_false] at hs
  have hk := h.kw
  rcases hs with e | e | e | e
  · rintro rfl; exact hk (by rw [e]; simp [kws])
  · rintro rfl; exact hk (by rw [e]; simp [kws])
  · rintro rfl
    have := h.al 44 (by rw [e]; exact List.mem_cons_self)
    omega
  · rintro rfl; exact hk (by rw [e]; simp [kws])
theorem num_sep {i : Int} {sg : Str} (hs : sg ∈ seps) : numS i ≠ sg := by
  simp only [seps, List.mem_cons, List.not_mem_nil, or_false] at hs
  have q : ∀ c ∈ TL.tl (numS i), c = 45 ∨ (48 ≤ c ∧ c ≤ 57) := fun c hc => intL_in (tl_int i ▸ hc)
  rcases hs with e | e | e | e <;> (intro h; rw [h, e] at q)
  · have := q 111 (by exact List.mem_cons_self); omega
  · have := q 97 (by exact List.mem_cons_self); omega
  · have := q 44 (by exact List.mem_cons_self); omega
  · have := q 116 (by exact List.mem_cons_self); omega
theorem Cnd.Ok.sep {c : Cnd} (h : c.Ok) {sg : Str} (hs : sg ∈ seps) : sg ∉ c.ws := by
  unfold Cnd.ws
  intro hm
  rcases List.mem_cons.mp hm with e | hm
  · exact h.w.sep hs e.symm
  · rcases List.mem_append.mp hm with hm | hm
    · simp only [seps, List.mem_cons, List.not_mem_nil, or_false] at hs
      cases hg : c.g <;> rw [hg] at hm <;> simp only [Sg.ws, List.mem_cons, List.not_mem_nil, or_false] at hm <;>
        (rcases hs with e | e | e | e <;> rw [e] at hm <;> simp [ofString_eq] at hm)
    · obtain ⟨i, _, e⟩ := List.mem_map.mp hm
      exact num_sep hs e
theorem Sg.ok (g : Sg) : ∀ s ∈ g.ws, PyData.strOk s = true := by
  intro s hs
  cases g <;> simp only [Sg.ws, List.mem_cons, List.not_mem_nil, or_false] at hs
  · rw [hs]; exact strOk_lit rfl
  · rw [hs]; exact strOk_lit rfl
  · rw [hs]; exact strOk_lit rfl
  · rw [hs]; exact strOk_lit rfl
  · rcases hs with h | h <;> (rw [h]; exact strOk_lit rfl)
theorem Sg.sok (g : Sg) : PyData.strOk g.s = true := by
  cases g <;> exact strOk_lit rfl
theorem Cnd.Ok.ok {c : Cnd} (h : c.Ok) : ∀ s ∈ c.ws, PyData.strOk s = true := by
  intro s hs
  rcases List.mem_cons.mp hs with e | hs
  · rw [e]; exact h.w.ok
  · rcases List.mem_append.mp hs with hs | hs
    · exact c.g.ok s hs
    · exact nums_ok _ s hs
theorem Cnd.Ok.len {c : Cnd} (h : c.Ok) : c.ws.length ≤ 11 := by
  have := h.hi
  unfold Cnd.ws
  cases c.g <;> simp [Sg.ws] <;> omega
theorem weave_ok {sg : Str} (hs : PyData.strOk sg = true) : ∀ {G : List (List Str)}, (∀ g ∈ G, ∀ s ∈ g, PyData.strOk s = true) → ∀ s ∈ weave sg G, PyData.strOk s = true
  | [], _, s, h => by simp [weave] at h
  | [g], hG, s, h => by rw [weave] at h; exact hG g List.mem_cons_self s h
  | g :: g2 :: gs, hG, s, h => by
    rw [weave] at h
    · rcases List.mem_append.mp h with h | h
      · exact hG g List.mem_cons_self s h
      · rcases List.mem_cons.mp h with h | h
        · rw [h]; exact hs
        · exact weave_ok hs (fun x m => hG x (List.mem_cons_of_mem _ m)) s h
    · simp
theorem weave_len {sg : Str} {k : Nat} : ∀ {G : List (List Str)}, (∀ g ∈ G, g.length ≤ k) → (weave sg G).length ≤ G.length * (k + 1)
  | [], _ => by simp [weave]
  | [g], hG => by have := hG g List.mem_cons_self; simp [weave]; omega
  | g :: g2 :: gs, hG => by
    have h1 := hG g List.mem_cons_self
    have h2 := weave_len (sg := sg) (k := k) (G := g2 :: gs) fun x m => hG x (List.mem_cons_of_mem _ m)
    rw [weave]
    · rw [List.length_append, List.length_cons, List.length_cons, Nat.add_mul]; omega
    · simp
theorem weave_free {sg x : Str} (hx : x ≠ sg) : ∀ {G : List (List Str)}, (∀ g ∈ G, x ∉ g) → x ∉ weave sg G
  | [], _ => by simp [weave]
  | [g], hG => by rw [weave]; exact hG g List.mem_cons_self
  | g :: g2 :: gs, hG => by
    rw [weave]
    · intro h
      rcases List.mem_append.mp h with h | h
      · exact hG g List.mem_cons_self h
      · rcases List.mem_cons.mp h with h | h
        · exact hx h
        · exact weave_free hx (fun y m => hG y (List.mem_cons_of_mem _ m)) h
    · simp
/-! ### a list of conditions -/
def Cnd.py (c : Cnd) : PyData := .tuple [.str c.w, .str c.g.s, .tuple (c.ns.map .int)]
theorem pys_ints {M : Mem} : ∀ ns : List Int, pys M 0 (ns.map .int) = some (ns.map .int)
  | [] => rfl
  | s :: ss => by simp [pys, DP.py, pys_ints ss]
theorem pys_cnds {M : Mem} : ∀ cs : List Cnd, pys M 0 (cs.map Cnd.d) = some (cs.map Cnd.py)
  | [] => rfl
  | c :: cs => by simp [pys, DP.py, pys_cnds cs, Cnd.d, Cnd.py, pys_ints]
theorem lay_ints : ∀ ns : List Int, PyData.canLayAll0 (ns.map .int) = true
  | [] => by simp [PyData.canLayAll0]
  | i :: ns => by simp [PyData.canLayAll0, PyData.canLay0, lay_ints ns]
theorem lay_cnds : ∀ cs : List Cnd, (∀ c ∈ cs, c.Ok) → PyData.canLayAll0 (cs.map Cnd.py) = true
  | [], _ => by simp [PyData.canLayAll0]
  | c :: cs, h => by
    have h1 := (h c List.mem_cons_self).w.ok
    simp [PyData.canLayAll0, PyData.canLay0, Cnd.py, lay_ints, lay_cnds cs fun x m => h x (List.mem_cons_of_mem _ m), h1, Sg.sok]
theorem dep_ints : ∀ ns : List Int, PyData.depthAll (ns.map .int) ≤ 1
  | [] => by simp [PyData.depthAll]
  | i :: ns => by have := dep_ints ns; simp [PyData.depthAll, PyData.depth]; omega
theorem dep_cnds : ∀ cs : List Cnd, PyData.depthAll (cs.map Cnd.py) ≤ 5
  | [] => by simp [PyData.depthAll]
  | c :: cs => by have := dep_cnds cs; have := dep_ints c.ns; simp [PyData.depthAll, PyData.depth, Cnd.py]; omega
theorem non_in {M : Mem} {cs : List Cnd} (h : ∀ c ∈ cs, c.Ok) : pr .in_ M [.non, .list (cs.map Cnd.d)] = some (.bl false, M) := by
  have sh : SeqAt.shaped (.list (cs.map Cnd.py)) = true := by
    unfold SeqAt.shaped
    rw [Bool.and_eq_true]
    refine ⟨by show PyData.canLay0 (.list _) = true; rw [PyData.canLay0]; exact lay_cnds cs h, decide_eq_true ?_⟩
    have := dep_cnds cs
    simp [PyData.depth]; omega
  have sn : SeqAt.shaped .none = true := by
    unfold SeqAt.shaped
    rw [Bool.and_eq_true]
    exact ⟨by show PyData.canLay0 .none = true; rw [PyData.canLay0], decide_eq_true (by rw [PyData.depth]; omega)⟩
  have e : inB M [.non, .list (cs.map Cnd.d)] = (match pys M 0 (cs.map Cnd.d) with
      | some zs => if SeqAt.shaped .none = true ∧ SeqAt.shaped (.list zs) = true then some (zs.any fun z => PyData.eqv z .none) else none
      | none => none) := rfl
  rw [pys_cnds] at e
  simp only [sh, sn, and_self, if_true] at e
  have e2 : ((cs.map Cnd.py).any fun z => PyData.eqv z .none) = false := by
    rw [List.any_eq_false]
    intro x hx
    obtain ⟨c, _, rfl⟩ := List.mem_map.mp hx
    simp [Cnd.py, PyData.eqv]
  rw [e2] at e
  show prIn M [.non, .list (cs.map Cnd.d)] = _
  unfold prIn
  rw [e]; rfl
theorem run_conds {n : Nat} {M : Mem} {sg : Str} {cs : List Cnd} {lo hi : Int} (hs : sg ∈ seps) (hc : ∀ c ∈ cs, c.Ok) (h0 : cs ≠ []) (hlo : lo ≤ cs.length) (hhi : cs.length ≤ hi) (h13 : cs.length ≤ 13) :
    DP.run fs (n + 3) i_read_conditions [.list ((weave sg (cs.map Cnd.ws)).map .str), .str sg, .int lo, .int hi] M = .ok (.tup (cs.map Cnd.d)) M := by
  have hG1 : ∀ g ∈ cs.map Cnd.ws, ∀ s ∈ g, PyData.strOk s = true := by
    intro g hg
    obtain ⟨c, hm, rfl⟩ := List.mem_map.mp hg
    exact (hc c hm).ok
  have hG2 : ∀ g ∈ cs.map Cnd.ws, g.length ≤ 11 := by
    intro g hg
    obtain ⟨c, hm, rfl⟩ := List.mem_map.mp hg
    exact (hc c hm).len
  have hl := weave_len (sg := sg) hG2
  rw [List.length_map] at hl
  have hp := run_parted (n := n + 1) (M := M) (sep_ok hs) (ws := weave sg (cs.map Cnd.ws)) (by omega) (weave_ok (sep_ok hs) hG1)
  rw [groups_of (by simpa using h0) (fun g hg => by
    obtain ⟨c, hm, rfl⟩ := List.mem_map.mp hg
    exact (hc c hm).sep hs)] at hp
  rw [List.map_map] at hp
  have hn := non_in (M := M) hc
  have h1 : ¬ ((cs.length : Int) < lo) := by omega
  have h2 : ¬ (hi < (cs.length : Int)) := by omega
  have hsz : cs.length ≤ sizeLine := by simp [sizeLine]; omega
  rw [run_at (d := ⟨4, 6, b_read_conditions⟩) rfl rfl]
  have c1 : compLoop (.items (cs.map ((fun g => D.list (g.map .str)) ∘ Cnd.ws))) (compF (DP.run fs (n + 2)) [5] (.nm 5) (.call i_read_condition [(.v 5)]) [some (.list ((weave sg (cs.map Cnd.ws)).map .str)), some (.str sg), some (.int lo), some (.int hi), none, none]) (cs.map ((fun g => D.list (g.map .str)) ∘ Cnd.ws)) M = .ok (cs.map Cnd.d) M := by
    refine compLoop_on _ Cnd.d cs fun c hx => ?_
    have h2 := run_cond (n := n) (M := M) (hc c hx)
    simp [compF, h2]
  simp [b_read_conditions, hp, c1, hsz, h1, h2, hn]
end K01

namespace K01
open PySem PySem.Spec PyProof.Rows L2 DP
inductive Bas where
  | is (c : Cnd) | order (a : Str) (i : Int) (b : Str)
def Bas.Ok : Bas → Prop
  | .is c => c.Ok
  | .order a i b => IsW a ∧ NumOk i ∧ IsW b
def Bas.ws : Bas → List Str
  | .is c => c.ws
  | .order a i b => [a, "+", numS i, "<=", b]
def Bas.d : Bas → D
  | .is c => .tup [.str "is", c.d]
  | .order a i b => .tup [.str "order", .str a, .int i, .str b]
inductive Frm where
  | bas (b : Bas) | either (cs : List Cnd) | ifs (cs : List Cnd) (b : Bas) | at_ (m : Bool) (i : Int) (cs : List Cnd)
structure CsOk (cs : List Cnd) (lo hi : Nat) : Prop where
  c : ∀ c ∈ cs, c.Ok
  lo : lo ≤ cs.length
  hi : cs.length ≤ hi
def Frm.Ok : Frm → Prop
  | .bas b => b.Ok
  | .either cs => CsOk cs 2 13
  | .ifs cs b => CsOk cs 1 8 ∧ b.Ok
  | .at_ _ i cs => NumOk i ∧ CsOk cs 1 8
abbrev wv (sg : Str) (cs : List Cnd) : List Str := weave sg (cs.map Cnd.ws)
def mostS (m : Bool) : Str := if m then "most" else "least"
def Frm.ws : Frm → List Str
  | .bas b => b.ws
  | .either cs => ("either" : Str) :: wv "or" cs
  | .ifs cs b => ("if" : Str) :: (wv "and" cs ++ ("then" : Str) :: b.ws)
  | .at_ m i cs => ("at" : Str) :: mostS m :: numS i :: ("of" : Str) :: wv "," cs
def Frm.d : Frm → D
  | .bas b => b.d
  | .either cs => .tup [.str "either", .tup (cs.map Cnd.d)]
  | .ifs cs b => .tup [.str "if", .tup (cs.map Cnd.d), b.d]
  | .at_ m i cs => .tup [.str (mostS m), .int i, .tup (cs.map Cnd.d)]
@[simp] theorem pr_len_strs {M : Mem} {ss : List Str} : pr .len M [.list (ss.map .str)] = some (.int ss.length, M) := by
  rw [pr_len_list]; simp
theorem run_plain_is {n : Nat} {M : Mem} {c : Cnd} (h : c.Ok) : DP.run fs (n + 3) i_read_plain [.list (c.ws.map .str)] M = .ok (.tup [.str "is", c.d]) M := by
  have h1 := run_cond (n := n) (M := M) h
  have hd : c.d.isN = false := rfl
  rw [run_at (d := ⟨1, 2, b_read_plain⟩) rfl rfl]
  by_cases hl : (c.ws.length : Int) = 5
  · have hx : ∃ x r, c.ws = c.w :: x :: r ∧ PyData.strOk x = true ∧ x ≠ ("+" : Str) := by
      unfold Cnd.ws
      cases hg : c.g
      · exact ⟨_, _, rfl, strOk_lit rfl, by rw [Ne, ofString_eq]; decide⟩
      · exact ⟨_, _, rfl, strOk_lit rfl, by rw [Ne, ofString_eq]; decide⟩
      · exact ⟨_, _, rfl, strOk_lit rfl, by rw [Ne, ofString_eq]; decide⟩
      · exact ⟨_, _, rfl, strOk_lit rfl, by rw [Ne, ofString_eq]; decide⟩
      · exact ⟨_, _, rfl, strOk_lit rfl, by rw [Ne, ofString_eq]; decide⟩
    obtain ⟨x, r, e, hx, hne⟩ := hx
    have he := pr_eq_str (M := M) hx (strOk_lit (a := "+") rfl)
    rw [e] at hl h1 ⊢
    have hat : ((D.str c.w :: D.str x :: r.map D.str))[1]? = some (.str x) := rfl
    simp at hl
    simp [b_read_plain, he, hne] at h1 ⊢
    by_cases hl2 : (r.length : Int) + 1 + 1 = 5
    · simp [hl2, h1, hd]
    · simp [hl2, h1, hd]
  · simp [b_read_plain, hl, h1, hd]
theorem run_plain {n : Nat} {M : Mem} {b : Bas} (h : b.Ok) : DP.run fs (n + 3) i_read_plain [.list (b.ws.map .str)] M = .ok b.d M := by
  cases b with
  | is c => exact run_plain_is h
  | order a i b =>
    obtain ⟨ha, hi, hb⟩ := h
    have h1 := run_word (n := n + 1) (M := M) ha
    have h2 := run_word (n := n + 1) (M := M) hb
    have h3 := run_num (n := n + 1) (M := M) hi
    have h4 := pr_int_num (M := M) hi
    have e1 := eq_lit (M := M) (a := "+") (b := "+") rfl rfl
    have e2 := eq_lit (M := M) (a := "<=") (b := "<=") rfl rfl
    rw [run_at (d := ⟨1, 2, b_read_plain⟩) rfl rfl]
    simp [b_read_plain, Bas.ws, Bas.d, h1, h2, h3, h4, e1, e2]
theorem Bas.Ok.ok {b : Bas} (h : b.Ok) : ∀ s ∈ b.ws, PyData.strOk s = true := by
  cases b with
  | is c => exact Cnd.Ok.ok h
  | order a i b =>
    obtain ⟨ha, hi, hb⟩ := h
    intro s hs
    simp only [Bas.ws, List.mem_cons, List.not_mem_nil, or_false] at hs
    rcases hs with e | e | e | e | e <;> rw [e]
    · exact ha.ok
    · exact strOk_lit rfl
    · exact numS_ok i
    · exact strOk_lit rfl
    · exact hb.ok
theorem Bas.Ok.sep {b : Bas} (h : b.Ok) {sg : Str} (hs : sg ∈ seps) : sg ∉ b.ws := by
  cases b with
  | is c => exact Cnd.Ok.sep h hs
  | order a i b =>
    obtain ⟨ha, hi, hb⟩ := h
    intro hm
    simp only [Bas.ws, List.mem_cons, List.not_mem_nil, or_false] at hm
    have q : ∀ s ∈ ([("+" : Str), "<="]), sg ≠ s := by
      intro s hs' e
      simp only [seps, List.mem_cons, List.not_mem_nil, or_false] at hs hs'
      rcases hs' with h' | h' <;> rcases hs with h | h | h | h <;> (rw [h, h'] at e; simp [ofString_eq] at e)
    rcases hm with e | e | e | e | e
    · exact ha.sep hs e.symm
    · exact q _ (by simp) e
    · exact num_sep hs e.symm
    · exact q _ (by simp) e
    · exact hb.sep hs e.symm
theorem Bas.Ok.len {b : Bas} (h : b.Ok) : b.ws.length ≤ 11 := by
  cases b with
  | is c => exact Cnd.Ok.len h
  | order a i b => simp [Bas.ws]
theorem Bas.Ok.hd {b : Bas} (h : b.Ok) : ∃ w r, b.ws = w :: r ∧ IsW w := by
  cases b with
  | is c => exact ⟨_, _, rfl, h.w⟩
  | order a i b => exact ⟨_, _, rfl, h.1⟩
theorem wv_ok {cs : List Cnd} (h : ∀ c ∈ cs, c.Ok) {sg : Str} (hs : sg ∈ seps) : ∀ s ∈ wv sg cs, PyData.strOk s = true :=
  weave_ok (sep_ok hs) fun g hg => by obtain ⟨c, hm, rfl⟩ := List.mem_map.mp hg; exact (h c hm).ok
theorem wv_len {cs : List Cnd} (h : ∀ c ∈ cs, c.Ok) (hl : cs.length ≤ 13) {sg : Str} : (wv sg cs).length ≤ 156 := by
  have := weave_len (sg := sg) (k := 11) (G := cs.map Cnd.ws) fun g hg => by obtain ⟨c, hm, rfl⟩ := List.mem_map.mp hg; exact (h c hm).len
  rw [List.length_map] at this
  show (weave sg (cs.map Cnd.ws)).length ≤ 156
  omega
theorem kw_ne {w : Str} (h : IsW w) {a : Str} (ha : a ∈ kws) : w ≠ a := fun e => h.kw (e ▸ ha)
theorem run_form_bas {n : Nat} {M : Mem} {b : Bas} (h : b.Ok) : DP.run fs (n + 4) i_read_form [.list (b.ws.map .str)] M = .ok b.d M := by
  obtain ⟨w, r, e, hw⟩ := h.hd
  have h1 := run_plain (n := n) (M := M) h
  have hne := ne_nil (M := M) h.ok
  have q : ∀ a : String, Str.ofString a ∈ kws → (a.toList.all fun c => decide (c.toNat < 1000)) = true → pr .eq M [.str w, .str a] = some (.bl false, M) := fun a ha hq => by
    rw [pr_eq_str hw.ok (strOk_lit hq), decide_eq_false (kw_ne hw ha)]
  have q1 := q "either" (by simp [kws]) rfl
  have q2 := q "if" (by simp [kws]) rfl
  have q3 := q "at" (by simp [kws]) rfl
  rw [run_at (d := ⟨1, 5, b_read_form⟩) rfl rfl]
  rw [e] at h1 hne ⊢
  simp at h1 hne
  simp [b_read_form, h1, hne, q1, q2, q3]
theorem cnd_isN {cs : List Cnd} : (D.tup (cs.map Cnd.d)).isN = false := rfl
theorem bas_isN {b : Bas} : b.d.isN = false := by cases b <;> rfl
theorem run_form_either {n : Nat} {M : Mem} {cs : List Cnd} (h : CsOk cs 2 13) : DP.run fs (n + 4) i_read_form [.list ((Frm.either cs).ws.map .str)] M = .ok (Frm.either cs).d M := by
  have h0 := h.lo
  have h13 := h.hi
  have h1 := run_conds (n := n) (M := M) (sg := "or") (lo := 2) (hi := 13) (by simp [seps]) h.c (by rintro rfl; simp at h0) (by omega) (by omega) h13
  have hok : ∀ s ∈ (Frm.either cs).ws, PyData.strOk s = true := by
    intro s hs
    rcases List.mem_cons.mp hs with e | hs
    · rw [e]; exact strOk_lit rfl
    · exact wv_ok h.c (by simp [seps]) s hs
  have hne := ne_nil (M := M) hok
  have e1 := eq_lit (M := M) (a := "either") (b := "either") rfl rfl
  rw [run_at (d := ⟨1, 5, b_read_form⟩) rfl rfl]
  simp [Frm.ws, -List.map_map] at hne ⊢
  simp [b_read_form, h1, hne, e1, Frm.d, -List.map_map]
theorem run_form_if {n : Nat} {M : Mem} {cs : List Cnd} {b : Bas} (h : CsOk cs 1 8) (hb : b.Ok) : DP.run fs (n + 4) i_read_form [.list ((Frm.ifs cs b).ws.map .str)] M = .ok (Frm.ifs cs b).d M := by
  have h0 := h.lo
  have h8 := h.hi
  have h1 := run_conds (n := n) (M := M) (sg := "and") (lo := 1) (hi := 8) (by simp [seps]) h.c (by rintro rfl; simp at h0) (by omega) (by omega) (by omega)
  have h2 := run_plain (n := n) (M := M) hb
  have hthen : PyData.strOk ("then" : Str) = true := strOk_lit rfl
  have hok2 : ∀ s ∈ wv "and" cs ++ ("then" : Str) :: b.ws, PyData.strOk s = true := by
    intro s hs
    rcases List.mem_append.mp hs with hs | hs
    · exact wv_ok h.c (by simp [seps]) s hs
    · rcases List.mem_cons.mp hs with e | hs
      · rw [e]; exact strOk_lit rfl
      · exact hb.ok s hs
  have hok : ∀ s ∈ (Frm.ifs cs b).ws, PyData.strOk s = true := by
    intro s hs
    rcases List.mem_cons.mp hs with e | hs
    · rw [e]; exact strOk_lit rfl
    · exact hok2 s hs
  have hl := wv_len h.c (by omega) (sg := "and")
  have hl2 := hb.len
  have hp := run_parted (n := n + 2) (M := M) hthen (ws := wv "and" cs ++ ("then" : Str) :: b.ws) (by rw [List.length_append, List.length_cons]; omega) hok2
  rw [show wv "and" cs ++ ("then" : Str) :: b.ws = weave "then" [wv "and" cs, b.ws] from rfl, groups_of (by simp) (by
    intro g hg
    simp only [List.mem_cons, List.not_mem_nil, or_false] at hg
    rcases hg with e | e <;> rw [e]
    · refine weave_free (by rw [Ne, ofString_eq]; decide) fun g hg => ?_
      obtain ⟨c, hm, rfl⟩ := List.mem_map.mp hg
      exact (h.c c hm).sep (by simp [seps])
    · exact hb.sep (by simp [seps]))] at hp
  have hne := ne_nil (M := M) hok
  have e1 := eq_lit (M := M) (a := "if") (b := "either") rfl rfl
  have e2 := eq_lit (M := M) (a := "if") (b := "if") rfl rfl
  have hw : (Frm.ifs cs b).ws = ("if" : Str) :: weave "then" [wv "and" cs, b.ws] := rfl
  rw [run_at (d := ⟨1, 5, b_read_form⟩) rfl rfl]
  rw [hw] at hne ⊢
  generalize weave "then" [wv "and" cs, b.ws] = W at *
  simp at hne hp
  simp [b_read_form, h1, h2, hp, hne, e1, e2, Frm.d, cnd_isN, bas_isN]
theorem run_form_at {n : Nat} {M : Mem} {m : Bool} {i : Int} {cs : List Cnd} (hi : NumOk i) (h : CsOk cs 1 8) : DP.run fs (n + 4) i_read_form [.list ((Frm.at_ m i cs).ws.map .str)] M = .ok (Frm.at_ m i cs).d M := by
  have h0 := h.lo
  have h8 := h.hi
  have h1 := run_conds (n := n) (M := M) (sg := ",") (lo := 1) (hi := 8) (by simp [seps]) h.c (by rintro rfl; simp at h0) (by omega) (by omega) (by omega)
  have h2 := run_num (n := n + 2) (M := M) hi
  have h3 := pr_int_num (M := M) hi
  have hm : pr .notIn M [.str (mostS m), .tup [(.str "most"), (.str "least")]] = some (.bl false, M) := by
    cases m
    · exact lit_notIn "least" ["most", "least"] rfl (by simp)
    · exact lit_notIn "most" ["most", "least"] rfl (by simp)
  have hmo : PyData.strOk (mostS m) = true := by cases m <;> exact strOk_lit rfl
  have hok : ∀ s ∈ (Frm.at_ m i cs).ws, PyData.strOk s = true := by
    intro s hs
    simp only [Frm.ws, List.mem_cons] at hs
    rcases hs with e | e | e | e | hs
    · rw [e]; exact strOk_lit rfl
    · rw [e]; exact hmo
    · rw [e]; exact numS_ok i
    · rw [e]; exact strOk_lit rfl
    · exact wv_ok h.c (by simp [seps]) s hs
  have hne := ne_nil (M := M) hok
  have e1 := eq_lit (M := M) (a := "at") (b := "either") rfl rfl
  have e2 := eq_lit (M := M) (a := "at") (b := "if") rfl rfl
  have e3 := eq_lit (M := M) (a := "at") (b := "at") rfl rfl
  have e4 := pr_ne_str (M := M) (a := "of") (b := "of") (strOk_lit rfl) (strOk_lit rfl)
  have hlen : 1 ≤ (wv "," cs).length := by
    match cs, h0 with
    | [c], _ => show 1 ≤ c.ws.length; simp [Cnd.ws]
    | c :: c2 :: cs, _ =>
      show 1 ≤ (c.ws ++ _ :: _).length
      simp; omega
  have hw : (Frm.at_ m i cs).ws = ("at" : Str) :: mostS m :: numS i :: ("of" : Str) :: wv "," cs := rfl
  have hd : (Frm.at_ m i cs).d = .tup [.str (mostS m), .int i, .tup (cs.map Cnd.d)] := rfl
  rw [run_at (d := ⟨1, 5, b_read_form⟩) rfl rfl]
  rw [hw] at hne ⊢
  rw [hd]
  simp only [wv] at *
  generalize weave "," (cs.map Cnd.ws) = W at *
  generalize mostS m = u at *
  have hq : ¬ ((W.length : Int) + 1 + 1 + 1 + 1 < 5) := by omega
  simp at hne h1
  simp [b_read_form, h1, h2, h3, hm, hne, e1, e2, e3, e4, cnd_isN, hq]
theorem run_form {n : Nat} {M : Mem} {f : Frm} (h : f.Ok) : DP.run fs (n + 4) i_read_form [.list (f.ws.map .str)] M = .ok f.d M := by
  cases f with
  | bas b => exact run_form_bas h
  | either cs => exact run_form_either h
  | ifs cs b => exact run_form_if h.1 h.2
  | at_ m i cs => exact run_form_at h.1 h.2
end K01

namespace K01
open PySem PySem.Spec PyProof.Rows L2 DP
inductive Lin where
  | fin_ | close (w : Str) | name (w : Str) (a b : Int) | frm (m : Bool) (w : Str) (f : Frm) | use (m : Bool) (w v : Str) (ws : List Str) | block (w : Str) (ws : List Str)
structure WsOk (ws : List Str) : Prop where
  w : ∀ w ∈ ws, IsW w
  lo : 1 ≤ ws.length
  hi : ws.length ≤ 4
def Lin.Ok : Lin → Prop
  | .fin_ => True
  | .close w => IsW w
  | .name w a b => IsW w ∧ NumOk a ∧ NumOk b
  | .frm _ w f => IsW w ∧ f.Ok
  | .use _ w v ws => IsW w ∧ IsW v ∧ WsOk ws
  | .block w ws => IsW w ∧ WsOk ws
def rowS (m : Bool) : Str := if m then "must" else "row"
def useS (m : Bool) : Str := if m then "mustuse" else "use"
def Lin.ws : Lin → List Str
  | .fin_ => ["end"]
  | .close w => [("close" : Str), w]
  | .name w a b => [("name" : Str), w, numS a, numS b]
  | .frm m w f => rowS m :: w :: (":" : Str) :: f.ws
  | .use m w v ws => useS m :: w :: (":" : Str) :: v :: ws
  | .block w ws => ("block" : Str) :: w :: (":" : Str) :: ws
def Lin.d : Lin → D
  | .fin_ => .tup [.str "end"]
  | .close w => .tup [.str "close", .str w]
  | .name w a b => .tup [.str "name", .str w, .int a, .int b]
  | .frm m w f => .tup [.str (rowS m), .str w, f.d]
  | .use m w v ws => .tup [.str (useS m), .str w, .str v, .tup (ws.map .str)]
  | .block w ws => .tup [.str "block", .str w, .tup (ws.map .str)]
theorem frm_isN {f : Frm} : f.d.isN = false := by
  cases f with
  | bas b => exact bas_isN
  | _ => rfl
theorem lin_isN {f : Lin} : f.d.isN = false := by cases f <;> rfl
theorem WsOk.ok {ws : List Str} (h : WsOk ws) : ∀ s ∈ ws, PyData.strOk s = true := fun s hs => (h.w s hs).ok
theorem run_words_like {n : Nat} {M : Mem} {ws : List Str} (h : WsOk ws) : DP.run fs (n + 2) i_words_like [.list (ws.map .str)] M = .ok (.bl true) M := by
  have he := eq_nil (M := M) h.ok
  have h1 := h.lo
  have h4 := h.hi
  have hq : ws.isEmpty = false := by cases ws with
    | nil => simp at h1
    | cons => rfl
  rw [hq] at he
  have hl : ¬ (4 : Int) < ws.length := by omega
  have hsz : ws.length ≤ sizeLine := by simp [sizeLine]; omega
  rw [run_at (d := ⟨1, 2, b_words_like⟩) rfl rfl]
  have c1 : compLoop (.items (ws.map .str)) (compF (DP.run fs (n + 1)) [1] (.nm 1) (.call i_word_like [(.v 1)]) [some (.list (ws.map .str)), none]) (ws.map .str) M = .ok (ws.map fun _ => .bl true) M := by
    refine compLoop_on D.str (fun _ => .bl true) ws fun w hw => ?_
    have := run_word (n := n) (M := M) (h.w w hw)
    simp [compF, this]
  have hall : pr .all M [.list (ws.map fun _ => .bl true)] = some (.bl true, M) := pr_all (by simp)
  simp [b_words_like, he, hl, c1, hsz, hall]
theorem run_line_of_small {n : Nat} {M : Mem} {l : Lin} (h : l.Ok) (hl : (∃ w, l = .close w) ∨ l = .fin_ ∨ ∃ w a b, l = .name w a b) : DP.run fs (n + 5) i_line_of [.list (l.ws.map .str)] M = .ok l.d M := by
  have a1 := eq_lit (M := M) (a := "end") (b := "end") rfl rfl
  have b1 := eq_lit (M := M) (a := "close") (b := "end") rfl rfl
  have b2 := eq_lit (M := M) (a := "close") (b := "close") rfl rfl
  have c1 := eq_lit (M := M) (a := "name") (b := "end") rfl rfl
  have c2 := eq_lit (M := M) (a := "name") (b := "close") rfl rfl
  have c3 := eq_lit (M := M) (a := "name") (b := "name") rfl rfl
  rw [run_at (d := ⟨1, 3, b_line_of⟩) rfl rfl]
  rcases hl with ⟨w, rfl⟩ | rfl | ⟨w, a, b, rfl⟩
  · have h1 := run_word (n := n + 3) (M := M) h
    simp [b_line_of, Lin.ws, Lin.d, b1, b2, h1]
  · simp [b_line_of, Lin.ws, Lin.d, a1]
  · have h1 := run_word (n := n + 3) (M := M) h.1
    have h2 := run_num (n := n + 3) (M := M) h.2.1
    have h3 := run_num (n := n + 3) (M := M) h.2.2
    have h4 := pr_int_num (M := M) h.2.1
    have h5 := pr_int_num (M := M) h.2.2
    simp [b_line_of, Lin.ws, Lin.d, c1, c2, c3, h1, h2, h3, h4, h5]
theorem Frm.ws_len (f : Frm) (h : f.Ok) : 1 ≤ f.ws.length := by
  cases f with
  | bas b => obtain ⟨w, r, e, _⟩ := Bas.Ok.hd h; show 1 ≤ b.ws.length; rw [e]; simp
  | either cs => show 1 ≤ (_ :: _).length; simp
  | ifs cs b => show 1 ≤ (_ :: _).length; simp
  | at_ m i cs => show 1 ≤ (_ :: _).length; simp
theorem run_line_of_frm {n : Nat} {M : Mem} {m : Bool} {w : Str} {f : Frm} (h : (Lin.frm m w f).Ok) : DP.run fs (n + 5) i_line_of [.list ((Lin.frm m w f).ws.map .str)] M = .ok (Lin.frm m w f).d M := by
  have a1 : pr .eq M [.str (rowS m), .str "end"] = some (.bl false, M) := by cases m <;> exact eq_lit rfl rfl
  have a2 : pr .eq M [.str (rowS m), .str "close"] = some (.bl false, M) := by cases m <;> exact eq_lit rfl rfl
  have a3 : pr .eq M [.str (rowS m), .str "name"] = some (.bl false, M) := by cases m <;> exact eq_lit rfl rfl
  have a4 : pr .eq M [.str (rowS m), .str "block"] = some (.bl false, M) := by cases m <;> exact eq_lit rfl rfl
  have a5 : pr .in_ M [.str (rowS m), .tup [(.str "row"), (.str "must")]] = some (.bl true, M) := by
    cases m
    · exact lit_in "row" ["row", "must"] rfl (by simp)
    · exact lit_in "must" ["row", "must"] rfl (by simp)
  have a6 := pr_ne_str (M := M) (a := ":") (b := ":") (strOk_lit rfl) (strOk_lit rfl)
  have h1 := run_word (n := n + 3) (M := M) h.1
  have h2 := run_form (n := n) (M := M) h.2
  have h3 := f.ws_len h.2
  have h4 : ¬ ((f.ws.length : Int) + 1 + 1 + 1 < 4) := by omega
  have h5 : ¬ ((f.ws.length : Int) + 1 + 1 + 1 < 2) := by omega
  rw [run_at (d := ⟨1, 3, b_line_of⟩) rfl rfl]
  simp [b_line_of, Lin.ws, Lin.d, a1, a2, a3, a4, a5, a6, h1, h2, h4, h5, frm_isN]
theorem run_line_of_use {n : Nat} {M : Mem} {m : Bool} {w v : Str} {ws : List Str} (h : (Lin.use m w v ws).Ok) : DP.run fs (n + 5) i_line_of [.list ((Lin.use m w v ws).ws.map .str)] M = .ok (Lin.use m w v ws).d M := by
  have a1 : pr .eq M [.str (useS m), .str "end"] = some (.bl false, M) := by cases m <;> exact eq_lit rfl rfl
  have a2 : pr .eq M [.str (useS m), .str "close"] = some (.bl false, M) := by cases m <;> exact eq_lit rfl rfl
  have a3 : pr .eq M [.str (useS m), .str "name"] = some (.bl false, M) := by cases m <;> exact eq_lit rfl rfl
  have a4 : pr .eq M [.str (useS m), .str "block"] = some (.bl false, M) := by cases m <;> exact eq_lit rfl rfl
  have a5 : pr .in_ M [.str (useS m), .tup [(.str "row"), (.str "must")]] = some (.bl false, M) := by
    cases m
    · exact lit_in "use" ["row", "must"] rfl (by simp)
    · exact lit_in "mustuse" ["row", "must"] rfl (by simp)
  have a6 := pr_ne_str (M := M) (a := ":") (b := ":") (strOk_lit rfl) (strOk_lit rfl)
  have h1 := run_word (n := n + 3) (M := M) h.1
  have h2 := run_word (n := n + 3) (M := M) h.2.1
  have h3 := run_words_like (n := n + 2) (M := M) h.2.2
  have h4 : ¬ ((ws.length : Int) + 1 + 1 + 1 + 1 < 4) := by omega
  have h5 : ¬ ((ws.length : Int) + 1 + 1 + 1 + 1 < 2) := by omega
  rw [run_at (d := ⟨1, 3, b_line_of⟩) rfl rfl]
  simp [b_line_of, Lin.ws, Lin.d, a1, a2, a3, a4, a5, a6, h1, h2, h3, h4, h5]
theorem run_line_of_block {n : Nat} {M : Mem} {w : Str} {ws : List Str} (h : (Lin.block w ws).Ok) : DP.run fs (n + 5) i_line_of [.list ((Lin.block w ws).ws.map .str)] M = .ok (Lin.block w ws).d M := by
  have a1 := eq_lit (M := M) (a := "block") (b := "end") rfl rfl
  have a2 := eq_lit (M := M) (a := "block") (b := "close") rfl rfl
  have a3 := eq_lit (M := M) (a := "block") (b := "name") rfl rfl
  have a4 := eq_lit (M := M) (a := "block") (b := "block") rfl rfl
  have a6 := pr_ne_str (M := M) (a := ":") (b := ":") (strOk_lit rfl) (strOk_lit rfl)
  have h1 := run_word (n := n + 3) (M := M) h.1
  have h3 := run_words_like (n := n + 2) (M := M) h.2
  have hl := h.2.lo
  have h4 : ¬ ((ws.length : Int) + 1 + 1 + 1 < 4) := by omega
  have h5 : ¬ ((ws.length : Int) + 1 + 1 + 1 < 2) := by omega
  rw [run_at (d := ⟨1, 3, b_line_of⟩) rfl rfl]
  simp [b_line_of, Lin.ws, Lin.d, a1, a2, a3, a4, a6, h1, h3, h4, h5]
theorem run_line_of {n : Nat} {M : Mem} {l : Lin} (h : l.Ok) : DP.run fs (n + 5) i_line_of [.list (l.ws.map .str)] M = .ok l.d M := by
  cases l with
  | fin_ => exact run_line_of_small h (.inr (.inl rfl))
  | close w => exact run_line_of_small h (.inl ⟨_, rfl⟩)
  | name w a b => exact run_line_of_small h (.inr (.inr ⟨_, _, _, rfl⟩))
  | frm m w f => exact run_line_of_frm h
  | use m w v ws => exact run_line_of_use h
  | block w ws => exact run_line_of_block h
end K01

/-! words and numbers, whatever stands there -/
namespace K01
open PySem PySem.Spec PyProof.Rows L2 DP
theorem for_wr {call : Nat → List D → Mem → Res D} {env : DP.Env} {M M1 : Mem} {t : T} {k : SrcK} {src : List E} {body : List S} {ds : List D} {w : Walk} {r : SRes} (h1 : evs call src env M = .ok ds M1) (h2 : walk M1 k ds = some w)
    (h3 : forLoop w (fun x env2 M2 => match store env2 x t with
        | none => .bad
        | some env3 => DP.execs call body env3 M2) w.xs env M1 = r) : DP.exec call (.for_ t k src body) env M = r := by
  rw [ex_for, h1]
  simp only [Res.sb, h2]
  exact h3
/-- a loop that looks at each item and leaves at the first bad one -/
theorem all_loop {α : Type} {ys : List D} {f : D → DP.Env → Mem → SRes} {p : α → Bool} {g : α → D} {r : D} {M : Mem} (P : DP.Env → Prop) : ∀ (cs : List α) (env : DP.Env), P env →
    (∀ c ∈ cs, ∀ env, P env → ∃ env', f (g c) env M = .done (if p c then .nx else .rt r) env' M ∧ P env') → ∃ env', forLoop (.items ys) f (cs.map g) env M = .done (if cs.all p then .nx else .rt r) env' M ∧ P env'
  | [], env, h, _ => ⟨env, by simp [forLoop, Walk.Ok], h⟩
  | c :: cs, env, h, k => by
    obtain ⟨e1, h1, p1⟩ := k c List.mem_cons_self env h
    cases hc : p c with
    | false =>
      rw [hc] at h1
      refine ⟨e1, ?_, p1⟩
      rw [List.map_cons, forLoop, if_pos (by trivial), h1]
      simp [hc]
    | true =>
      rw [hc] at h1
      obtain ⟨e2, h2, p2⟩ := all_loop P cs e1 p1 fun x m => k x (List.mem_cons_of_mem _ m)
      refine ⟨e2, ?_, p2⟩
      rw [List.map_cons, forLoop, if_pos (by trivial), h1]
      simp only [if_true, List.all_cons, hc, Bool.true_and]
      exact h2
def digit (c : Nat) : Bool := decide (48 ≤ c ∧ c ≤ 57)
def alnum (c : Nat) : Bool := decide (97 ≤ c ∧ c ≤ 122) || digit c
def wordL : List Nat → Bool
  | [] => false
  | c :: cs => decide (97 ≤ c ∧ c ≤ 122) && (c :: cs).all alnum
def wordB (w : Str) : Bool := wordL (TL.tl w) && decide (w.length ≤ 12) && decide (w ∉ kws)
theorem wordB_iff {w : Str} : wordB w = true ↔ IsW w := by
  unfold wordB
  constructor
  · intro h
    simp only [Bool.and_eq_true, decide_eq_true_eq] at h
    obtain ⟨⟨h1, h2⟩, h3⟩ := h
    cases e : TL.tl w with
    | nil => rw [e] at h1; cases h1
    | cons c cs =>
      rw [e] at h1
      simp only [wordL, Bool.and_eq_true, decide_eq_true_eq, List.all_eq_true] at h1
      refine ⟨⟨c, cs, e, h1.1⟩, fun x hx => ?_, h2, h3⟩
      rw [e] at hx
      have := h1.2 x hx
      simpa [alnum, digit] using this
  · intro h
    obtain ⟨c, cs, e, hc⟩ := h.hd
    simp only [Bool.and_eq_true, decide_eq_true_eq]
    refine ⟨⟨?_, h.ln⟩, h.kw⟩
    rw [e]
    simp only [wordL, Bool.and_eq_true, decide_eq_true_eq, List.all_eq_true]
    refine ⟨hc, fun x hx => ?_⟩
    have := h.al x (by rw [e]; exact hx)
    simpa [alnum, digit] using this
theorem run_wordB {n : Nat} {w : Str} {M : Mem} (ho : PyData.strOk w = true) (hl : w.length ≤ 100000) : DP.run fs (n + 1) i_word_like [.str w] M = .ok (.bl (wordB w)) M := by
  have hl2 : w.length ≤ sizeLine := by simp [sizeLine]; omega
  have hin : pr .in_ M [.str w, .tup [(.str "name"), (.str "row"), (.str "must"), (.str "block"), (.str "end"), (.str "use"), (.str "mustuse"), (.str "close"), (.str "either"), (.str "or"), (.str "if"), (.str "and"), (.str "then"), (.str "at"), (.str "most"), (.str "least"), (.str "of"), (.str "in"), (.str "not")]] = some (.bl (decide (w ∈ kws)), M) := by
    rw [show [D.str "name", .str "row", .str "must", .str "block", .str "end", .str "use", .str "mustuse", .str "close", .str "either", .str "or", .str "if", .str "and", .str "then", .str "at", .str "most", .str "least", .str "of", .str "in", .str "not"] = kws.map .str from rfl, in_strs ho kws_ok]
  rw [run_at (d := ⟨1, 2, b_word_like⟩) rfl rfl]
  have hE := eq_empty (M := M) ho
  have hL := pr_len_str (M := M) hl2
  cases e : TL.tl w with
  | nil =>
    have z : wordB w = false := by simp [wordB, e, wordL]
    simp [b_word_like, hE, e, z]
  | cons c cs =>
    have hidx : pr .idx M [.str w, .int 0] = some (.str ⟨#[c]⟩, M) := pr_idx_str hl2 (by
      rw [atI_0]; show (TL.tl w)[0]? = _; rw [e]; rfl)
    by_cases h12 : (12 : Int) < w.length
    · have z : wordB w = false := by
        have : ¬ w.length ≤ 12 := by omega
        simp [wordB, this]
      simp [b_word_like, hE, e, z, hL, h12]
    by_cases hk : w ∈ kws
    · have z : wordB w = false := by simp [wordB, hk]
      simp [b_word_like, hE, e, z, hL, h12, hin, hk]
    have hcl := @letters_in c
    by_cases hc : 97 ≤ c ∧ c ≤ 122
    · obtain ⟨env', hf, _⟩ := all_loop (ys := w.cps.toList.map fun c => .str ⟨#[c]⟩) (p := alnum) (g := fun c => D.str ⟨#[c]⟩) (r := .bl false) (M := M) (f := fun x env2 M2 => match store env2 x (.nm 1) with
          | none => .bad
          | some env3 => DP.execs (DP.run fs n) [.ife (.and_ (.pr .notIn [(.v 1), (.c (.str "abcdefghijklmnopqrstuvwxyz"))]) (.pr .notIn [(.v 1), (.c (.str "0123456789"))])) [.ret (.c (.bl false))] []] env3 M2)
          (fun env => env.length = 2) w.cps.toList [some (.str w), none] rfl (by
        intro c _ env he
        obtain ⟨a, b, rfl⟩ : ∃ a b, env = [a, b] := by
          match env, he with
          | [a, b], _ => exact ⟨a, b, rfl⟩
        refine ⟨[a, some (.str ⟨#[c]⟩)], ?_, rfl⟩
        have hL := @letters_in c
        have hF := @figures_in c
        by_cases q : 97 ≤ c ∧ c ≤ 122
        · simp [hL, q, alnum]
        · by_cases q2 : 48 ≤ c ∧ c ≤ 57
          · simp [hL, q, hF, q2, alnum, digit]
          · simp [hL, q, hF, q2, alnum, digit])
      have hx : DP.exec (DP.run fs n) (.for_ (.nm 1) .seq [.v 0] [.ife (.and_ (.pr .notIn [(.v 1), (.c (.str "abcdefghijklmnopqrstuvwxyz"))]) (.pr .notIn [(.v 1), (.c (.str "0123456789"))])) [.ret (.c (.bl false))] []]) [some (.str w), none] M = .done (if w.cps.toList.all alnum then .nx else .rt (.bl false)) env' M := by
        rw [ex_for]
        simp only [evs_cons, evs_nil, ev_v, List.getElem?_cons_zero, Res.bind, Res.sb, walk_str, walk_xs]
        exact hf
      have z : wordB w = (TL.tl w).all alnum := by
        have : w.length ≤ 12 := by omega
        simp [wordB, e, wordL, hc, this, hk]
      have hcl2 : c ∈ ("abcdefghijklmnopqrstuvwxyz" : Str).cps.toList := hcl.mpr hc
      cases ha : w.cps.toList.all alnum with
      | true =>
        rw [ha] at hx
        simp only [if_true] at hx
        simp [b_word_like, hE, e, hL, h12, hin, hk, hidx, hcl, hc, hx]
        exact z.trans ha
      | false =>
        rw [ha] at hx
        simp only [Bool.false_eq_true, if_false] at hx
        simp [b_word_like, hE, e, hL, h12, hin, hk, hidx, hcl, hc, hx]
        exact z.trans ha
    · have z : wordB w = false := by
        have : decide (97 ≤ c ∧ c ≤ 122) = false := decide_eq_false hc
        simp only [wordB, e, wordL, this, Bool.false_and]
      simp [b_word_like, hE, e, z, hL, h12, hin, hk, hidx, hcl, hc]
end K01

namespace K01
open PySem PySem.Spec PyProof.Rows L2 DP
def figL : List Nat → List Nat
  | 45 :: r => r
  | l => l
theorem figL_of {c : Nat} {cs : List Nat} (h : c ≠ 45) : figL (c :: cs) = c :: cs := by
  unfold figL
  split
  · rename_i q
    injection q with q _
    exact absurd q h
  · rfl
/-- removeprefix "-" -/
theorem rmpre_tl (w : Str) : TL.tl (Txt.removeprefix w "-") = figL (TL.tl w) := by
  rw [StrLaws.removeprefix_eq, StrLaws.subAt_eq]
  have e1 : ("-" : Str).length = 1 := rfl
  have e2 : ("-" : Str).cps.toList = [45] := rfl
  rw [e1, e2]
  cases e : TL.tl w with
  | nil =>
    have e' : w.cps.toList = [] := e
    have hl : w.length = 0 := by rw [TL.len_tl, e]; rfl
    rw [if_neg (by rw [hl]; simp)]
    rw [e]; rfl
  | cons c cs =>
    have e' : w.cps.toList = c :: cs := e
    have hl : w.length = cs.length + 1 := by rw [TL.len_tl, e]; rfl
    by_cases hc : c = 45
    · subst hc
      rw [if_pos (by rw [e', hl]; simp)]
      rw [TL.tl_mk, e']
      simp [figL, hl]
    · rw [if_neg (by rw [e']; simp [hc])]
      rw [e, figL_of hc]
def numB (w : Str) : Bool := !(figL (TL.tl w)).isEmpty && decide ((figL (TL.tl w)).length ≤ 31) && (figL (TL.tl w)).all digit && (decide ((figL (TL.tl w)).head? ≠ some 48) || decide (TL.tl w = [48]))
/-- the number's value by its figures -/
theorem numL_of : ∀ (k : Nat) (F : List Nat), F.length = k → F ≠ [] → (F.all digit) = true → (F.head? ≠ some 48 ∨ F = [48]) → ∃ n, TL.numL n = F
  | 0, F, hl, h0, _, _ => absurd (List.length_eq_zero_iff.mp hl) h0
  | k + 1, F, hl, h0, hd, hh => by
    obtain ⟨G, d, rfl⟩ : ∃ G d, F = G ++ [d] := ⟨F.dropLast, F.getLast h0, (List.dropLast_concat_getLast h0).symm⟩
    simp only [List.all_append, List.all_cons, List.all_nil, Bool.and_true, Bool.and_eq_true] at hd
    have hdd : 48 ≤ d ∧ d ≤ 57 := by simpa [digit] using hd.2
    cases G with
    | nil => exact ⟨d - 48, by rw [TL.numL_lt (by omega)]; simp; omega⟩
    | cons c cs =>
      have hc : c ≠ 48 := by
        rcases hh with h | h
        · simpa using h
        · simp at h
      obtain ⟨n, hn⟩ := numL_of k (c :: cs) (by simpa using hl) (by simp) hd.1 (.inl (by simpa using hc))
      have hn0 : n ≠ 0 := by
        rintro rfl
        rw [TL.numL_lt (by omega)] at hn
        simp at hn
        exact hc hn.1.symm
      refine ⟨n * 10 + (d - 48), ?_⟩
      rw [TL.numL_step (by omega), show (n * 10 + (d - 48)) / 10 = n by omega, show (n * 10 + (d - 48)) % 10 = d - 48 by omega, hn]
      simp; omega
theorem numL_lo (n : Nat) : n < 10 ^ (TL.numL n).length := by
  have : ∀ k n, n < k → n < 10 ^ (TL.numL n).length := by
    intro k
    induction k with
    | zero => intro n h; omega
    | succ k ih =>
      intro n h
      by_cases h10 : n < 10
      · rw [TL.numL_lt h10]; simpa using h10
      · have := ih (n / 10) (by omega)
        rw [TL.numL_step (by omega), List.length_append, List.length_singleton, Nat.pow_succ]
        omega
  exact this (n + 1) n (by omega)
theorem numB_iff {w : Str} : numB w = true ↔ ∃ i, NumOk i ∧ w = numS i := by
  constructor
  · intro h
    simp only [numB, Bool.and_eq_true, Bool.or_eq_true, decide_eq_true_eq, Bool.not_eq_true', List.isEmpty_eq_false_iff] at h
    obtain ⟨⟨⟨h0, h31⟩, hd⟩, hh⟩ := h
    have key : ∀ F : List Nat, F ≠ [] → F.length ≤ 31 → F.all digit = true → (F.head? ≠ some 48 ∨ F = [48]) → ∃ n, TL.numL n = F ∧ n < 10 ^ 31 := fun F a b c d => by
      obtain ⟨n, hn⟩ := numL_of _ F rfl a c d
      exact ⟨n, hn, Nat.lt_of_lt_of_le (numL_lo n) (Nat.pow_le_pow_right (by omega) (by rw [hn]; exact b))⟩
    cases e : TL.tl w with
    | nil => rw [e] at h0; exact absurd rfl h0
    | cons c cs =>
      rw [e] at h0 h31 hd hh
      by_cases hc : c = 45
      · subst hc
        have ef : figL (45 :: cs) = cs := rfl
        rw [ef] at h0 h31 hd hh
        have hh2 : cs.head? ≠ some 48 := by
          rcases hh with h | h
          · exact h
          · simp at h
        obtain ⟨n, hn, hb⟩ := key cs h0 h31 hd (.inl hh2)
        have n0 : n ≠ 0 := by
          rintro rfl
          rw [TL.numL_lt (by omega)] at hn
          rw [← hn] at hh2
          simp at hh2
        refine ⟨-n, ⟨by simpa using hb⟩, TL.ext_tl ?_⟩
        rw [e, tl_int, intL, if_pos (by omega)]
        simp [hn]
      · rw [figL_of hc] at h0 h31 hd hh
        obtain ⟨n, hn, hb⟩ := key (c :: cs) h0 h31 hd hh
        refine ⟨n, ⟨by simpa using hb⟩, TL.ext_tl ?_⟩
        rw [e, tl_int, intL, if_neg (by omega)]
        simp [hn]
  · rintro ⟨i, hi, rfl⟩
    have e := tl_int i
    have e2 : figL (TL.tl (numS i)) = TL.numL i.natAbs := by rw [← rmpre_tl]; exact rmpre_num i
    simp only [numB, e2]
    obtain ⟨c, cs, hc, h0⟩ := numL_head (n := i.natAbs)
    have hd := TL.numL_digits i.natAbs
    have h31 := hi.len
    simp only [Bool.and_eq_true, Bool.or_eq_true, decide_eq_true_eq, Bool.not_eq_true', List.isEmpty_eq_false_iff, List.all_eq_true]
    refine ⟨⟨⟨TL.numL_ne _, h31⟩, fun x hx => ?_⟩, ?_⟩
    · have := hd x hx
      simpa [digit] using this
    · by_cases q : c = 48
      · have hz : i = 0 := by have := h0 q; omega
        subst hz
        exact .inr (e.trans rfl)
      · left
        rw [hc]
        simpa using q
theorem one_zero {c : Nat} : ((⟨#[c]⟩ : Str) = "0") ↔ c = 48 := by
  constructor
  · intro h
    have := congrArg TL.tl h
    rw [TL.tl_ofString] at this
    injection this
  · rintro rfl
    exact TL.ext_tl rfl
theorem is_zero {w : Str} : (w = "0") ↔ TL.tl w = [48] := ⟨fun h => by rw [h]; rfl, fun h => TL.ext_tl (h.trans rfl)⟩
theorem run_numB {n : Nat} {u : Str} {M : Mem} (hu : ∀ c ∈ TL.tl u, c < 1000) (hl : u.length ≤ 100000) : DP.run fs (n + 1) i_number_like [.str u] M = .ok (.bl (numB u)) M := by
  have hok : PyData.strOk u = true := strOk_of hu
  have hl2 : u.length ≤ sizeLine := by simp [sizeLine]; omega
  have e := rmpre_tl u
  generalize hw : Txt.removeprefix u "-" = w at e
  have hrm : pr .rmpre M [.str u, .str "-"] = some (.str w, M) := by
    rw [← hw]; exact if_pos hl2
  have hwl : w.length ≤ u.length := by
    rw [TL.len_tl, TL.len_tl u, e]
    cases TL.tl u with
    | nil => simp [figL]
    | cons c cs =>
      by_cases hc : c = 45
      · subst hc; simp [figL]
      · rw [figL_of hc]; exact Nat.le_refl _
  have hwl2 : w.length ≤ sizeLine := Nat.le_trans hwl hl2
  have hwm : ∀ c ∈ TL.tl w, c < 1000 := fun c hc => hu c (by
    rw [e] at hc
    cases eu : TL.tl u with
    | nil => rw [eu] at hc; simp [figL] at hc
    | cons d cs =>
      rw [eu] at hc
      by_cases hd : d = 45
      · subst hd; exact List.mem_cons_of_mem _ hc
      · rw [figL_of hd] at hc; exact hc)
  have wok : PyData.strOk w = true := strOk_of hwm
  have hz : numB u = (!(TL.tl w).isEmpty && decide ((TL.tl w).length ≤ 31) && (TL.tl w).all digit && (decide ((TL.tl w).head? ≠ some 48) || decide (TL.tl u = [48]))) := by rw [e]; rfl
  rw [hz]
  rw [run_at (d := ⟨1, 3, b_number_like⟩) rfl rfl]
  have hE := eq_empty (M := M) wok
  have hL := pr_len_str (M := M) hwl2
  have hlen := TL.len_tl w
  cases ew : TL.tl w with
  | nil =>
    simp [b_number_like, hrm, hE, ew]
  | cons c cs =>
    by_cases h31 : (31 : Int) < w.length
    · have : ¬ (c :: cs).length ≤ 31 := by rw [← ew, ← hlen]; omega
      simp only [List.length_cons] at this
      simp [b_number_like, hrm, hE, ew, hL, h31, this]
    obtain ⟨env', hf, b, rfl⟩ := all_loop (ys := w.cps.toList.map fun c => .str ⟨#[c]⟩) (p := digit) (g := fun c => D.str ⟨#[c]⟩) (r := .bl false) (M := M) (f := fun x env2 M2 => match store env2 x (.nm 2) with
          | none => .bad
          | some env3 => DP.execs (DP.run fs n) [.ife (.pr .notIn [(.v 2), (.c (.str "0123456789"))]) [.ret (.c (.bl false))] []] env3 M2)
          (fun env => ∃ b, env = [some (.str u), some (.str w), b]) w.cps.toList [some (.str u), some (.str w), none] ⟨_, rfl⟩ (by
      rintro c _ env ⟨b, rfl⟩
      refine ⟨[some (.str u), some (.str w), some (.str ⟨#[c]⟩)], ?_, _, rfl⟩
      have hF := @figures_in c
      by_cases q2 : 48 ≤ c ∧ c ≤ 57
      · simp [hF, q2, digit]
      · simp [hF, q2, digit])
    have hx : DP.exec (DP.run fs n) (.for_ (.nm 2) .seq [.v 1] [.ife (.pr .notIn [(.v 2), (.c (.str "0123456789"))]) [.ret (.c (.bl false))] []]) [some (.str u), some (.str w), none] M = .done (if w.cps.toList.all digit then .nx else .rt (.bl false)) [some (.str u), some (.str w), b] M := by
      rw [ex_for]
      simp only [evs_cons, evs_nil, ev_v, List.getElem?_cons_succ, List.getElem?_cons_zero, Res.bind, Res.sb, walk_str, walk_xs]
      exact hf
    have hq : ¬ 31 < (c :: cs).length := by rw [← ew, ← hlen]; omega
    have h31' : (c :: cs).length ≤ 31 := by omega
    have hidx : pr .idx M [.str w, .int 0] = some (.str ⟨#[c]⟩, M) := pr_idx_str hwl2 (by
      rw [atI_0]; show (TL.tl w)[0]? = _; rw [ew]; rfl)
    have hz : PyData.strOk ⟨#[c]⟩ = true := strOk_of fun x hx => by
      have := hwm c (by rw [ew]; exact List.mem_cons_self)
      rw [show TL.tl ⟨#[c]⟩ = [c] from rfl] at hx
      rw [List.mem_singleton.mp hx]; omega
    have hne := @pr_ne_str M ⟨#[c]⟩ "0" hz (strOk_lit rfl)
    have heq := @pr_eq_str M u "0" hok (strOk_lit rfl)
    have d1 : decide ((⟨#[c]⟩ : Str) = "0") = decide (c = 48) := by rw [decide_eq_decide]; exact one_zero
    have d2 : decide (u = "0") = decide (TL.tl u = [48]) := by rw [decide_eq_decide]; exact is_zero
    rw [d1] at hne
    rw [d2] at heq
    cases ha : w.cps.toList.all digit with
    | false =>
      have ha' : (c :: cs).all digit = false := by rw [← ew]; exact ha
      rw [ha] at hx
      simp only [Bool.false_eq_true, if_false] at hx
      simp only [ha', Bool.and_false, Bool.false_and]
      simp [b_number_like, hrm, hE, ew, hL, h31, hx]
    | true =>
      have ha' : (c :: cs).all digit = true := by rw [← ew]; exact ha
      rw [ha] at hx
      simp only [if_true] at hx
      simp only [ha', List.isEmpty_cons, Bool.not_false, decide_eq_true h31', Bool.true_and]
      by_cases q : c = 48
      · subst q
        simp [b_number_like, hrm, hE, ew, hL, h31, hx, hidx, hne, heq]
      · simp [b_number_like, hrm, hE, ew, hL, h31, hx, hidx, hne, heq, q]
end K01

/-! conditions, whatever the words -/
namespace K01
open PySem PySem.Spec PyProof.Rows L2 DP
structure Wd (w : Str) : Prop where
  s : ∀ c ∈ TL.tl w, c < 1000
  l : w.length ≤ 1000
theorem Wd.ok {w : Str} (h : Wd w) : PyData.strOk w = true := strOk_of h.s
def oD {α : Type} (f : α → D) : Option α → D
  | none => .non
  | some a => f a
theorem numS_inj {i j : Int} (h : numS i = numS j) : i = j := by
  have h := congrArg TL.tl h
  rw [tl_int, tl_int] at h
  unfold intL at h
  have nd : ∀ n : Nat, 45 ∉ TL.numL n := fun n h => by have := TL.numL_digits n _ h; omega
  split at h <;> split at h
  · injection h with _ h
    have := TL.numL_inj h
    omega
  · exact absurd (by rw [← h]; exact List.mem_cons_self) (nd j.natAbs)
  · exact absurd (by rw [h]; exact List.mem_cons_self) (nd i.natAbs)
  · have := TL.numL_inj h
    omega
open Classical in
/-- the number of a text -/
noncomputable def intOf (w : Str) : Int := if h : ∃ i, NumOk i ∧ w = numS i then h.choose else 0
theorem intOf_num {i : Int} (h : NumOk i) : intOf (numS i) = i := by
  have q : ∃ j, NumOk j ∧ numS i = numS j := ⟨i, h, rfl⟩
  unfold intOf
  rw [dif_pos q]
  exact (numS_inj q.choose_spec.2).symm
theorem numB_int {w : Str} (h : numB w = true) : NumOk (intOf w) ∧ w = numS (intOf w) := by
  obtain ⟨i, hi, rfl⟩ := numB_iff.mp h
  rw [intOf_num hi]
  exact ⟨hi, rfl⟩
theorem pr_int_of {M : Mem} {w : Str} (h : numB w = true) : pr .int_ M [.str w] = some (.int (intOf w), M) := by
  obtain ⟨h1, h2⟩ := numB_int h
  have := pr_int_num (M := M) h1
  rw [h2, intOf_num h1]
  exact this
def ascB : List Int → Bool
  | a :: b :: r => decide (a < b) && ascB (b :: r)
  | _ => true
theorem ascB_get : ∀ {ns : List Int}, ascB ns = true ↔ ∀ k, (h : k + 1 < ns.length) → ns[k] < ns[k + 1]
  | [] => by simp [ascB]
  | [a] => by simp [ascB]
  | a :: b :: r => by
    simp only [ascB, Bool.and_eq_true, decide_eq_true_eq, ascB_get (ns := b :: r)]
    constructor
    · rintro ⟨h1, h2⟩ k hk
      cases k with
      | zero => exact h1
      | succ k => exact h2 k (by simpa using hk)
    · intro h
      exact ⟨h 0 (by simp), fun k hk => h (k + 1) (by simpa using hk)⟩
noncomputable def tailC (w : Str) (g : Sg) (b : List Str) : Option Cnd := if b = [] ∨ 8 < b.length then none else if b.all numB = false then none else if ascB (b.map intOf) = false then none else some ⟨w, g, b.map intOf⟩
noncomputable def condOf : List Str → Option Cnd
  | w :: s :: x :: r => if wordB w = false then none
    else if s = ">=" ∨ s = "<=" ∨ s = "=" then (if r = [] ∧ numB x = true then some ⟨w, if s = ">=" then .ge else if s = "<=" then .le else .eq, [intOf x]⟩ else none)
    else if s = "not" ∧ x = "in" then tailC w .nin r else if s = "in" then tailC w .in_ (x :: r) else none
  | _ => none
theorem boolsOf_bl : ∀ bs : List Bool, boolsOf (bs.map .bl) = some bs
  | [] => rfl
  | b :: bs => by simp [boolsOf, boolsOf_bl bs]
theorem pr_all_bl {M : Mem} {α : Type} {p : α → Bool} {xs : List α} : pr .all M [.list (xs.map fun x => .bl (p x))] = some (.bl (xs.all p), M) := by
  show prAll M [.list (xs.map fun x => .bl (p x))] = _
  have e : xs.map (fun x => D.bl (p x)) = (xs.map p).map .bl := by simp
  rw [e]
  simp only [prAll, asL, boolsOf_bl, okB, List.all_map]
  rfl
theorem all_comp {n : Nat} {b : List Str} {M : Mem} (hb : ∀ w ∈ b, Wd w) (env : DP.Env) (he : env.length = 6) : compLoop (.items (b.map .str)) (compF (DP.run fs (n + 1)) [3] (.nm 3) (.call i_number_like [(.v 3)]) env) (b.map .str) M = .ok (b.map fun w => .bl (numB w)) M := by
  refine compLoop_on D.str (fun w => .bl (numB w)) b fun x hx => ?_
  obtain ⟨a, b, c, d, e, f, rfl⟩ := six he
  have h2 := run_numB (n := n) (M := M) (hb x hx).s (by have := (hb x hx).l; omega)
  simp [compF, h2]
theorem int_comp {call : Nat → List D → Mem → Res D} {b : List Str} {M : Mem} (hb : b.all numB = true) (env : DP.Env) (he : env.length = 6) : compLoop (.items (b.map .str)) (compF call [3] (.nm 3) (.pr .int_ [(.v 3)]) env) (b.map .str) M = .ok (b.map fun w => .int (intOf w)) M := by
  refine compLoop_on D.str (fun w => .int (intOf w)) b fun x hx => ?_
  obtain ⟨a, b, c, d, e, f, rfl⟩ := six he
  have h2 := pr_int_of (M := M) (List.all_eq_true.mp hb x hx)
  simp [compF, h2]
theorem asc_loop {call : Nat → List D → Mem → Res D} {ns : List Int} {M : Mem} (h8 : ns.length ≤ 1000) (a b c d : Option D) : ∃ e, DP.exec call (.for_ (.nm 5) .rng2 [(.c (.int (1))), (.pr .len [(.v 4)])] lpB)
      [a, b, c, d, some (.list (ns.map .int)), none] M = .done (if ascB ns then .nx else .rt .non) [a, b, c, d, some (.list (ns.map .int)), e] M := by
  obtain ⟨env', hf, e, rfl⟩ := all_loop (ys := rngD 1 ((ns.length : Int) - 1).toNat) (p := fun k : Nat => decide (ns[k]! < ns[k + 1]!)) (g := fun k : Nat => D.int (1 + k)) (r := .non) (M := M) (f := fun x env2 M2 => match store env2 x (.nm 5) with
        | none => .bad
        | some env3 => DP.execs call lpB env3 M2) (fun env => ∃ e, env = [a, b, c, d, some (.list (ns.map .int)), e]) (List.range ((ns.length : Int) - 1).toNat) [a, b, c, d, some (.list (ns.map .int)), none] ⟨_, rfl⟩ (by
    rintro k hk env ⟨e, rfl⟩
    rw [List.mem_range] at hk
    refine ⟨[a, b, c, d, some (.list (ns.map .int)), some (.int (1 + k))], ?_, _, rfl⟩
    have hA : atI (ns.map D.int) (1 + (k : Int) - 1) = some (.int ns[k]!) := by
      rw [show (1 + (k : Int) - 1) = (k : Int) by omega, atI_nat]
      simp [show k < ns.length by omega]
    have hB : atI (ns.map D.int) (1 + (k : Int)) = some (.int ns[k + 1]!) := by
      rw [show (1 + (k : Int)) = ((k + 1 : Nat) : Int) by omega, atI_nat]
      simp [show k + 1 < ns.length by omega]
    generalize ns[k]! = x at *
    generalize ns[k + 1]! = y at *
    by_cases q : x < y
    · have q2 : ¬ y ≤ x := by omega
      simp [hA, hB, q, q2]
    · have q2 : y ≤ x := by omega
      simp [hA, hB, q, q2])
  have hs : (List.range ((ns.length : Int) - 1).toNat).all (fun k : Nat => decide (ns[k]! < ns[k + 1]!)) = ascB ns := by
    rw [Bool.eq_iff_iff, List.all_eq_true, ascB_get]
    constructor
    · intro h k hk
      have := h k (List.mem_range.mpr (by omega))
      simpa [hk, show k < ns.length by omega] using this
    · intro h k hk
      rw [List.mem_range] at hk
      have := h k (by omega)
      simpa [show k + 1 < ns.length by omega, show k < ns.length by omega] using this
  rw [hs] at hf
  refine ⟨e, for_wr (ds := [.int 1, .int ns.length]) (w := .items (rngD 1 ((ns.length : Int) - 1).toNat)) (by simp) (walk_rng2 (by omega)) hf⟩
theorem eq_nilW {M : Mem} {b : List Str} (hb : ∀ w ∈ b, Wd w) : pr .eq M [.list (b.map .str), .list []] = some (.bl b.isEmpty, M) := eq_nil fun s hs => (hb s hs).ok
/-- the rest of a condition with in or not in -/
abbrev condR : List S := [
    .ife (.or_ (.pr .eq [(.v 2), (.pr .list [])]) (.pr .gt [(.pr .len [(.v 2)]), (.c (.int (8)))])) [.ret (.c .non)] [],
    .ife (.pr .not_ [(.pr .all [(.comp false [3] (.nm 3) .seq [(.v 2)] none (.call i_number_like [(.v 3)]))])]) [.ret (.c .non)] [],
    .asg (.nm 4) (.comp false [3] (.nm 3) .seq [(.v 2)] none (.pr .int_ [(.v 3)])),
    .for_ (.nm 5) .rng2 [(.c (.int (1))), (.pr .len [(.v 4)])] lpB,
    .ret (.pr .tup [(.pr .idx [(.v 0), (.c (.int (0)))]), (.v 1), (.pr .tuple_ [(.v 4)])])]
theorem condR_1 {C : Nat → List D → Mem → Res D} {R : List S} {b : List Str} {M : Mem} {x0 x1 : Option D} (hb : ∀ w ∈ b, Wd w) : fin M (DP.execs C (.ife (.or_ (.pr .eq [(.v 2), (.pr .list [])]) (.pr .gt [(.pr .len [(.v 2)]), (.c (.int (8)))])) [.ret (.c .non)] [] :: R) [x0, x1, some (.list (b.map .str)), none, none, none] M) =
    if b = [] ∨ 8 < b.length then .ok .non M else fin M (DP.execs C R [x0, x1, some (.list (b.map .str)), none, none, none] M) := by
  have hE := eq_nilW (M := M) hb
  by_cases h0 : b = []
  · subst h0
    have hE : pr .eq M [.list [], .list []] = some (.bl true, M) := by simpa using hE
    simp [hE]
  have h0' : b.isEmpty = false := by simpa using h0
  rw [h0'] at hE
  by_cases h8 : 8 < b.length
  · have h8' : (8 : Int) < b.length := by omega
    rw [if_pos (.inr h8)]
    simp [hE, h8']
  have h8' : ¬ (8 : Int) < b.length := by omega
  rw [if_neg (by simp [h0, h8])]
  simp [hE, h8']
theorem condR_2 {n : Nat} {R : List S} {b : List Str} {M : Mem} {x0 x1 : Option D} (hb : ∀ w ∈ b, Wd w) (h8 : b.length ≤ 8) : fin M (DP.execs (DP.run fs (n + 1)) (.ife (.pr .not_ [(.pr .all [(.comp false [3] (.nm 3) .seq [(.v 2)] none (.call i_number_like [(.v 3)]))])]) [.ret (.c .non)] [] :: R) [x0, x1, some (.list (b.map .str)), none, none, none] M) =
    if b.all numB = false then .ok .non M else fin M (DP.execs (DP.run fs (n + 1)) R [x0, x1, some (.list (b.map .str)), none, none, none] M) := by
  have hsz : b.length ≤ sizeLine := by simp [sizeLine]; omega
  have c1 := all_comp (n := n) (M := M) hb
  have ha := pr_all_bl (M := M) (p := numB) (xs := b)
  cases hn : b.all numB with
  | false =>
    rw [hn] at ha
    simp [c1, hsz, ha]
  | true =>
    rw [hn] at ha
    simp [c1, hsz, ha]
theorem condR_3 {C : Nat → List D → Mem → Res D} {F : S} {b : List Str} {M : Mem} {w g : Str} {xs : List D} {e : Option D} {q : Bool} (hx : xs[0]? = some (.str w)) (hn : b.all numB = true) (h8 : b.length ≤ 8)
    (lp : DP.exec C F [some (.list xs), some (.str g), some (.list (b.map .str)), none, some (.list (b.map fun w => .int (intOf w))), none] M = .done (if q then .nx else .rt .non) [some (.list xs), some (.str g), some (.list (b.map .str)), none, some (.list (b.map fun w => .int (intOf w))), e] M) :
    fin M (DP.execs C [.asg (.nm 4) (.comp false [3] (.nm 3) .seq [(.v 2)] none (.pr .int_ [(.v 3)])), F, .ret (.pr .tup [(.pr .idx [(.v 0), (.c (.int (0)))]), (.v 1), (.pr .tuple_ [(.v 4)])])] [some (.list xs), some (.str g), some (.list (b.map .str)), none, none, none] M) =
    .ok (if q then .tup [.str w, .str g, .tup (b.map fun w => .int (intOf w))] else .non) M := by
  have hsz : b.length ≤ sizeLine := by simp [sizeLine]; omega
  have c2 := int_comp (call := C) (M := M) hn
  cases q with
  | false =>
    simp only [Bool.false_eq_true, if_false] at lp
    simp [hsz, c2, lp]
  | true =>
    simp only [if_true] at lp
    simp [hsz, c2, lp, hx]
theorem condR_run {n : Nat} {w : Str} {g : Sg} {b : List Str} {M : Mem} {xs : List D} (hx : xs[0]? = some (.str w)) (hb : ∀ w ∈ b, Wd w) : fin M (DP.execs (DP.run fs (n + 1)) condR [some (.list xs), some (.str g.s), some (.list (b.map .str)), none, none, none] M) = .ok (oD Cnd.d (tailC w g b)) M := by
  unfold tailC
  rw [condR_1 hb]
  by_cases h0 : b = [] ∨ 8 < b.length
  · rw [if_pos h0, if_pos h0]; rfl
  rw [if_neg h0, if_neg h0]
  have h8 : b.length ≤ 8 := by
    have : ¬ 8 < b.length := fun h => h0 (.inr h)
    omega
  rw [condR_2 hb h8]
  by_cases hn : b.all numB = false
  · rw [if_pos hn, if_pos hn]; rfl
  rw [if_neg hn, if_neg hn]
  have hn' : b.all numB = true := by simpa using hn
  obtain ⟨e, lp⟩ := asc_loop (call := DP.run fs (n + 1)) (ns := b.map intOf) (M := M) (by simp; omega) (some (.list xs)) (some (.str g.s)) (some (.list (b.map .str))) none
  rw [List.map_map] at lp
  rw [condR_3 hx hn' h8 lp]
  cases hs : ascB (b.map intOf) with
  | false => rfl
  | true =>
    simp [oD, Cnd.d]
/-- the head of a condition, the rest as it is -/
abbrev condP (R : List S) : List S :=
    .ife (.or_ (.pr .lt [(.pr .len [(.v 0)]), (.c (.int (3)))]) (.pr .not_ [(.call i_word_like [(.pr .idx [(.v 0), (.c (.int (0)))])])])) [.ret (.c .non)] [] ::
    .ife (.pr .in_ [(.pr .idx [(.v 0), (.c (.int (1)))]), (.pr .tup [(.c (.str ">=")), (.c (.str "<=")), (.c (.str "="))])]) [.ife (.or_ (.pr .ne [(.pr .len [(.v 0)]), (.c (.int (3)))]) (.pr .not_ [(.call i_number_like [(.pr .idx [(.v 0), (.c (.int (2)))])])])) [.ret (.c .non)] [], .ret (.pr .tup [(.pr .idx [(.v 0), (.c (.int (0)))]), (.pr .idx [(.v 0), (.c (.int (1)))]), (.pr .tup [(.pr .int_ [(.pr .idx [(.v 0), (.c (.int (2)))])])])])] [] ::
    .asg (.nm 1) (.c (.str "in")) ::
    .asg (.nm 2) (.pr (.slice true false) [(.v 0), (.c (.int (2)))]) ::
    .ife (.and_ (.pr .eq [(.pr .idx [(.v 0), (.c (.int (1)))]), (.c (.str "not"))]) (.pr .eq [(.pr .idx [(.v 0), (.c (.int (2)))]), (.c (.str "in"))])) [.asg (.nm 1) (.c (.str "not in")), .asg (.nm 2) (.pr (.slice true false) [(.v 0), (.c (.int (3)))])] [.ife (.pr .ne [(.pr .idx [(.v 0), (.c (.int (1)))]), (.c (.str "in"))]) [.ret (.c .non)] []] :: R
theorem condP_run {C : Nat → List D → Mem → Res D} {R : List S} {w s x : Str} {r : List Str} {M : Mem} {bw : Bool} (hbw : C i_word_like [.str w] M = .ok (.bl bw) M) (hbx : C i_number_like [.str x] M = .ok (.bl (numB x)) M) (Ws : Wd s) (Wx : Wd x) (he : bw = wordB w)
    (hR : ∀ g b, (g = .nin ∧ b = r) ∨ (g = .in_ ∧ b = x :: r) → fin M (DP.execs C R [some (.list (.str w :: .str s :: .str x :: r.map .str)), some (.str (Sg.s g)), some (.list (b.map .str)), none, none, none] M) = .ok (oD Cnd.d (tailC w g b)) M) :
    fin M (DP.execs C (condP R) [some (.list (.str w :: .str s :: .str x :: r.map .str)), none, none, none, none, none] M) = .ok (oD Cnd.d (condOf (w :: s :: x :: r))) M := by
  have h3 : ¬ ((r.length : Int) + 1 + 1 + 1 < 3) := by omega
  subst he
  cases hb : wordB w with
  | false =>
    rw [hb] at hbw
    simp [condP, hbw, h3, condOf, hb, oD]
  | true =>
    rw [hb] at hbw
    have hin : pr .in_ M [.str s, .tup [(.str ">="), (.str "<="), (.str "=")]] = some (.bl (decide (s ∈ ([">=", "<=", "="] : List Str))), M) := in_strs (ss := [">=", "<=", "="]) Ws.ok (by
      intro t ht
      simp only [List.mem_cons, List.not_mem_nil, or_false] at ht
      rcases ht with rfl | rfl | rfl <;> exact strOk_lit rfl)
    by_cases hs : s = ">=" ∨ s = "<=" ∨ s = "="
    · have hs' : s ∈ ([">=", "<=", "="] : List Str) := by simpa using hs
      have hcond : condOf (w :: s :: x :: r) = if r = [] ∧ numB x = true then some ⟨w, if s = ">=" then .ge else if s = "<=" then .le else .eq, [intOf x]⟩ else none := by
        simp only [condOf, hb, Bool.true_eq_false, if_false, if_pos hs]
      rw [hcond]
      rw [decide_eq_true hs'] at hin
      cases r with
      | cons y r =>
        have h4 : ¬ ((r.length : Int) + 1 + 1 + 1 + 1 < 3) := by omega
        have h5 : ¬ ((r.length : Int) + 1 + 1 + 1 + 1 = 3) := by omega
        simp [condP, hbw, h4, h5, hin, oD]
      | nil =>
        cases hx : numB x with
        | false =>
          rw [hx] at hbx
          simp [condP, hbw, hin, hbx, oD]
        | true =>
          rw [hx] at hbx
          have h4 := pr_int_of (M := M) hx
          have hg : (if s = ">=" then Sg.ge else if s = "<=" then .le else .eq).s = s := by
            rcases hs with rfl | rfl | rfl <;> rfl
          simp [condP, hbw, hin, hbx, h4, oD, Cnd.d, hg]
    · have hs' : s ∉ ([">=", "<=", "="] : List Str) := by simpa using hs
      rw [decide_eq_false hs'] at hin
      have hcond : condOf (w :: s :: x :: r) = if s = "not" ∧ x = "in" then tailC w .nin r else if s = "in" then tailC w .in_ (x :: r) else none := by
        simp only [condOf, hb, Bool.true_eq_false, if_false, if_neg hs]
      rw [hcond]
      have e1 := pr_eq_str (M := M) (a := s) (b := "not") Ws.ok (strOk_lit rfl)
      have e2 := pr_eq_str (M := M) (a := x) (b := "in") Wx.ok (strOk_lit rfl)
      have e3 := pr_ne_str (M := M) (a := s) (b := "in") Ws.ok (strOk_lit rfl)
      by_cases q : s = "not" ∧ x = "in"
      · rw [if_pos q]
        obtain ⟨rfl, rfl⟩ := q
        rw [← hR .nin r (.inl ⟨rfl, rfl⟩)]
        simp only [decide_true] at e1 e2
        simp [condP, hbw, h3, hin, e1, e2, Sg.s]
      · rw [if_neg q]
        by_cases q3 : s = "in"
        · rw [if_pos q3]
          subst q3
          rw [← hR .in_ (x :: r) (.inr ⟨rfl, rfl⟩)]
          have e4 : decide (Str.ofString "in" = Str.ofString "not") = false := by decide
          simp only [e4] at e1
          simp only [decide_true, Bool.not_true] at e3
          simp [condP, hbw, h3, hin, e1, e3, Sg.s]
        · rw [if_neg q3]
          by_cases a : s = "not"
          · have b : x ≠ "in" := fun b => q ⟨a, b⟩
            subst a
            simp only [decide_true] at e1
            simp only [decide_eq_false b] at e2
            simp only [decide_eq_false q3, Bool.not_false] at e3
            simp [condP, hbw, h3, hin, e1, e2, e3, oD]
          · simp only [decide_eq_false a] at e1
            simp only [decide_eq_false q3, Bool.not_false] at e3
            simp [condP, hbw, h3, hin, e1, e3, oD]
theorem run_condB {n : Nat} {ws : List Str} {M : Mem} (hw : ∀ w ∈ ws, Wd w) : DP.run fs (n + 2) i_read_condition [.list (ws.map .str)] M = .ok (oD Cnd.d (condOf ws)) M := by
  rw [run_at (d := ⟨1, 6, b_read_condition⟩) rfl rfl]
  match ws, hw with
  | [], _ => simp [b_read_condition, condOf, oD]
  | [a], _ => simp [b_read_condition, condOf, oD]
  | [a, b], _ => simp [b_read_condition, condOf, oD]
  | w :: s :: x :: r, hw =>
    have Ww := hw w (by simp)
    have Ws := hw s (by simp)
    have Wx := hw x (by simp)
    refine condP_run (R := condR) (run_wordB (n := n) (M := M) Ww.ok (by have := Ww.l; omega)) (run_numB (n := n) (M := M) Wx.s (by have := Wx.l; omega)) Ws Wx rfl fun g b h => condR_run rfl fun y hy => ?_
    rcases h with ⟨_, rfl⟩ | ⟨_, rfl⟩
    · exact hw y (by simp [hy])
    · exact hw y (by
        rcases List.mem_cons.mp hy with e | h
        · simp [e]
        · simp [h])
end K01

/-! conditions and forms, whatever the words -/
namespace K01
open PySem PySem.Spec PyProof.Rows L2 DP
theorem oD_none {α : Type} {f : α → D} : oD f none = .non := rfl
theorem oD_some {α : Type} {f : α → D} {a : α} : oD f (some a) = f a := rfl
theorem tailC_ok {w : Str} {g : Sg} {b : List Str} {c : Cnd} (hw : IsW w) (hg : g.many = true) (h : tailC w g b = some c) : c.Ok ∧ w :: (g.ws ++ b) = c.ws := by
  unfold tailC at h
  split at h
  · cases h
  rename_i h0
  split at h
  · cases h
  rename_i hn
  split at h
  · cases h
  rename_i ha
  cases h
  have hn : ∀ x ∈ b, numB x = true := by simpa using hn
  have ha : ascB (b.map intOf) = true := by simpa using ha
  have h0 : b ≠ [] ∧ ¬ 8 < b.length := by simpa using h0
  refine ⟨⟨hw, fun i hi => ?_, ?_, ?_, fun z => ?_, ascB_get.mp ha⟩, ?_⟩
  · obtain ⟨x, hx, rfl⟩ := List.mem_map.mp hi
    exact (numB_int (hn x hx)).1
  · have := List.length_pos_iff.mpr h0.1
    simp; omega
  · simp; omega
  · rw [hg] at z; cases z
  · show w :: (g.ws ++ b) = w :: (g.ws ++ (b.map intOf).map numS)
    congr 2
    rw [List.map_map]
    conv => lhs; rw [← List.map_id b]
    exact List.map_congr_left fun x hx => (numB_int (hn x hx)).2
theorem condOf_ok {ws : List Str} {c : Cnd} (h : condOf ws = some c) : c.Ok ∧ ws = c.ws := by
  unfold condOf at h
  split at h
  · rename_i w s x r
    split at h
    · cases h
    rename_i hb
    have hw : IsW w := wordB_iff.mp (by simpa using hb)
    split at h
    · rename_i hs
      split at h
      · rename_i hx
        obtain ⟨rfl, hx⟩ := hx
        obtain ⟨n1, n2⟩ := numB_int hx
        cases h
        refine ⟨⟨hw, fun i hi => ?_, by simp, by simp, fun _ => rfl, fun k hk => by simp at hk⟩, ?_⟩
        · simp only [List.mem_singleton] at hi
          rw [hi]; exact n1
        · rcases hs with rfl | rfl | rfl <;> simp [Cnd.ws, Sg.ws, ← n2] <;> rfl
      · cases h
    · split at h
      · rename_i q
        obtain ⟨rfl, rfl⟩ := q
        obtain ⟨a, b⟩ := tailC_ok hw rfl h
        exact ⟨a, by rw [← b]; rfl⟩
      · split at h
        · rename_i q
          subst q
          obtain ⟨a, b⟩ := tailC_ok hw rfl h
          exact ⟨a, by rw [← b]; rfl⟩
        · cases h
  · cases h
def oPy (o : Option Cnd) : PyData := match o with
  | none => .none
  | some c => c.py
theorem pys_oc {M : Mem} : ∀ os : List (Option Cnd), pys M 0 (os.map (oD Cnd.d)) = some (os.map oPy)
  | [] => rfl
  | none :: os => by simp [pys, py, oD, oPy, pys_oc os]
  | some c :: os => by
    have h1 : py M 0 c.d = some c.py := by
      have := pys_cnds (M := M) [c]
      simp only [List.map_cons, List.map_nil, pys] at this
      cases e : py M 0 c.d with
      | none => rw [e] at this; cases this
      | some p => rw [e] at this; simp at this; rw [this]
    simp [pys, oD, oPy, h1, pys_oc os]
theorem lay_oc : ∀ os : List (Option Cnd), (∀ c, some c ∈ os → c.Ok) → PyData.canLayAll0 (os.map oPy) = true
  | [], _ => by simp [PyData.canLayAll0]
  | none :: os, h => by
    simp only [List.map_cons, PyData.canLayAll0, Bool.and_eq_true]
    exact ⟨by simp [oPy, PyData.canLay0], lay_oc os fun c m => h c (List.mem_cons_of_mem _ m)⟩
  | some c :: os, h => by
    have := lay_cnds [c] (fun x hx => by
      rw [List.mem_singleton.mp hx]
      exact h c List.mem_cons_self)
    simp only [List.map_cons, List.map_nil, PyData.canLayAll0, Bool.and_eq_true] at this
    simp only [List.map_cons, PyData.canLayAll0, Bool.and_eq_true]
    exact ⟨this.1, lay_oc os fun c m => h c (List.mem_cons_of_mem _ m)⟩
theorem dep_oc : ∀ os : List (Option Cnd), PyData.depthAll (os.map oPy) ≤ 5
  | [] => by simp [PyData.depthAll]
  | none :: os => by
    have := dep_oc os
    simp [PyData.depthAll, oPy, PyData.depth]; omega
  | some c :: os => by
    have h1 := dep_cnds [c]
    have h2 := dep_oc os
    simp only [List.map_cons, List.map_nil, PyData.depthAll] at h1
    simp only [List.map_cons, PyData.depthAll, oPy]
    omega
theorem non_inO {M : Mem} {os : List (Option Cnd)} (h : ∀ c, some c ∈ os → c.Ok) : pr .in_ M [.non, .list (os.map (oD Cnd.d))] = some (.bl (os.any Option.isNone), M) := by
  show prIn M [.non, .list (os.map (oD Cnd.d))] = _
  have e : inB M [.non, .list (os.map (oD Cnd.d))] = (match pys M 0 (os.map (oD Cnd.d)) with
      | some zs => if SeqAt.shaped .none = true ∧ SeqAt.shaped (.list zs) = true then some (zs.any fun z => PyData.eqv z .none) else none
      | none => none) := rfl
  have s1 : SeqAt.shaped .none = true := by
    unfold SeqAt.shaped
    rw [Bool.and_eq_true]
    exact ⟨by show PyData.canLay0 .none = true; simp [PyData.canLay0], decide_eq_true (by rw [PyData.depth]; omega)⟩
  have s2 : SeqAt.shaped (.list (os.map oPy)) = true := by
    unfold SeqAt.shaped
    rw [Bool.and_eq_true]
    refine ⟨by show PyData.canLay0 (.list _) = true; rw [PyData.canLay0]; exact lay_oc os h, decide_eq_true ?_⟩
    have := dep_oc os
    simp only [PyData.depth]; omega
  unfold prIn
  rw [e, pys_oc]
  simp only [s1, s2, and_self, if_true, okB]
  congr 3
  rw [List.any_map]
  congr 1
  funext o
  cases o with
  | none => rfl
  | some c => rfl
theorem pstep_len (sg : Str) : ∀ (ws : List Str) (G : List (List Str)), G ≠ [] → (ws.foldl (pstep sg) G).length ≤ G.length + ws.length
  | [], G, _ => by simp
  | w :: ws, G, h => by
    have h1 : (pstep sg G w).length ≤ G.length + 1 ∧ pstep sg G w ≠ [] := by
      unfold pstep
      split
      · simp
      · have := List.length_pos_iff.mpr h
        simp
        try omega
    have := pstep_len sg ws (pstep sg G w) h1.2
    rw [List.foldl_cons, List.length_cons]
    omega
theorem pstep_mem {P : Str → Prop} (sg : Str) : ∀ (ws : List Str) (G : List (List Str)), (∀ w ∈ ws, P w) → (∀ g ∈ G, ∀ w ∈ g, P w) → ∀ g ∈ ws.foldl (pstep sg) G, ∀ w ∈ g, P w
  | [], G, _, h => h
  | x :: ws, G, hw, h => by
    rw [List.foldl_cons]
    refine pstep_mem sg ws _ (fun w m => hw w (List.mem_cons_of_mem _ m)) ?_
    have hx := hw x List.mem_cons_self
    unfold pstep
    split
    · intro g hg
      rcases List.mem_append.mp hg with m | m
      · exact h g m
      · rw [List.mem_singleton.mp m]; simp
    · intro g hg
      rcases List.mem_append.mp hg with m | m
      · exact h g (List.dropLast_subset _ m)
      · rw [List.mem_singleton.mp m]
        intro w hw2
        rcases List.mem_append.mp hw2 with m2 | m2
        · cases e : G.getLast? with
          | none => rw [e] at m2; simp at m2
          | some g2 =>
            rw [e] at m2
            exact h g2 (List.mem_of_getLast? e) w m2
        · rw [List.mem_singleton.mp m2]; exact hx
theorem groups_mem {P : Str → Prop} {sg : Str} {ws : List Str} (h : ∀ w ∈ ws, P w) : ∀ g ∈ groups sg ws, ∀ w ∈ g, P w := pstep_mem sg ws [[]] h (by simp)
theorem groups_len (sg : Str) (ws : List Str) : (groups sg ws).length ≤ ws.length + 1 := by
  have := pstep_len sg ws [[]] (by simp)
  simp only [List.length_singleton] at this
  unfold groups
  omega
noncomputable def condsOf (sg : Str) (lo hi : Nat) (ws : List Str) : Option (List Cnd) :=
  if ((groups sg ws).map condOf).length < lo ∨ hi < ((groups sg ws).map condOf).length ∨ ((groups sg ws).map condOf).any Option.isNone = true then none else some ((groups sg ws).filterMap condOf)
theorem filt_all : ∀ (os : List (List Str)), (os.map condOf).any Option.isNone = false → (os.filterMap condOf).map some = os.map condOf
  | [], _ => rfl
  | g :: os, h => by
    simp only [List.map_cons, List.any_cons, Bool.or_eq_false_iff] at h
    cases e : condOf g with
    | none => rw [e] at h; exact absurd h.1 (by simp)
    | some c => simp [e, filt_all os h.2]
theorem conds_comp {C : Nat → List D → Mem → Res D} {G : List (List Str)} {M : Mem} (hC : ∀ g ∈ G, C i_read_condition [.list (g.map .str)] M = .ok (oD Cnd.d (condOf g)) M) (a b c d : Option D) (e f : Option D) : compLoop (.items (G.map fun g => .list (g.map .str))) (compF C [5] (.nm 5) (.call i_read_condition [(.v 5)]) [a, b, c, d, e, f]) (G.map fun g => .list (g.map .str)) M = .ok (G.map fun g => oD Cnd.d (condOf g)) M := by
  refine compLoop_on (fun g : List Str => D.list (g.map .str)) (fun g => oD Cnd.d (condOf g)) G fun g hg => ?_
  simp [compF, hC g hg]
theorem run_condsB {n : Nat} {M : Mem} {sg : Str} {ws : List Str} {lo hi : Nat} (hs : PyData.strOk sg = true) (hw : ∀ w ∈ ws, Wd w) (hl : ws.length ≤ 1000) :
    DP.run fs (n + 3) i_read_conditions [.list (ws.map .str), .str sg, .int lo, .int hi] M = .ok (oD (fun cs => .tup (cs.map Cnd.d)) (condsOf sg lo hi ws)) M := by
  have hp := run_parted (n := n + 1) (M := M) hs (by omega : ws.length ≤ 10000) fun w hw' => (hw w hw').ok
  have hc := conds_comp (C := DP.run fs (n + 2)) (G := groups sg ws) (M := M) (fun g hg => run_condB (n := n) fun w hw' => groups_mem hw g hg w hw') (some (.list (ws.map .str))) (some (.str sg)) (some (.int lo)) (some (.int hi)) none none
  have hin := non_inO (M := M) (os := (groups sg ws).map condOf) (fun c hc => by
    obtain ⟨g, _, e⟩ := List.mem_map.mp hc
    exact (condOf_ok e).1)
  have hG := groups_len sg ws
  have hsz : (groups sg ws).length ≤ sizeLine := by simp [sizeLine]; omega
  have hfa := filt_all (groups sg ws)
  unfold condsOf
  rw [run_at (d := ⟨4, 6, b_read_conditions⟩) rfl rfl]
  rw [List.map_map] at hin
  have e2 : (oD Cnd.d ∘ condOf) = fun g => oD Cnd.d (condOf g) := rfl
  rw [e2] at hin
  have hlen : ((groups sg ws).map condOf).length = (groups sg ws).length := by simp
  rw [hlen]
  have hD : ((groups sg ws).map condOf).any Option.isNone = false → (groups sg ws).map (fun g => oD Cnd.d (condOf g)) = ((groups sg ws).filterMap condOf).map Cnd.d := fun h => by
    have := congrArg (List.map (oD Cnd.d)) (hfa h)
    rw [List.map_map, List.map_map] at this
    rw [show (groups sg ws).map (fun g => oD Cnd.d (condOf g)) = (groups sg ws).map (oD Cnd.d ∘ condOf) from rfl, ← this]
    rfl
  generalize hg : groups sg ws = G at *
  by_cases h1 : G.length < lo
  · have h1' : (G.length : Int) < lo := by omega
    simp [b_read_conditions, hp, hc, hsz, h1, h1', oD_none]
  have h1' : ¬ (G.length : Int) < lo := by omega
  by_cases h2 : hi < G.length
  · have h2' : (hi : Int) < G.length := by omega
    simp [b_read_conditions, hp, hc, hsz, h1', h2, h2', oD_none]
  have h2' : ¬ (hi : Int) < G.length := by omega
  cases h3 : (G.map condOf).any Option.isNone with
  | true =>
    rw [h3] at hin
    rw [if_pos (.inr (.inr rfl))]
    simp [b_read_conditions, hp, hc, hsz, h1', h2', hin, oD_none]
  | false =>
    rw [h3] at hin
    rw [if_neg (by simp only [h1, h2, Bool.false_eq_true, or_self, not_false_eq_true])]
    have hl2 : (G.filterMap condOf).length = G.length := by
      have := congrArg List.length (hfa h3)
      simpa using this
    rw [hD h3] at hin hc
    rw [← hl2] at hsz h1' h2'
    simp [b_read_conditions, hp, hc, hsz, h1', h2', hin, oD_some]
end K01

/-! forms and lines, whatever the words -/
namespace K01
open PySem PySem.Spec PyProof.Rows L2 DP
noncomputable def plainOf (ws : List Str) : Option Bas := match ws with
  | [a, p, x, q, b] => if p = "+" ∧ q = "<=" then (if wordB a = true ∧ numB x = true ∧ wordB b = true then some (.order a (intOf x) b) else none) else (condOf [a, p, x, q, b]).map .is
  | ws => (condOf ws).map .is
theorem oD_isN {o : Option Cnd} : (oD Cnd.d o).isN = o.isNone := by cases o <;> rfl
theorem oD_isB {o : Option Bas} : (oD Bas.d o).isN = o.isNone := by
  cases o with
  | none => rfl
  | some b => exact bas_isN
theorem oD_isF {o : Option Frm} : (oD Frm.d o).isN = o.isNone := by
  cases o with
  | none => rfl
  | some b => exact frm_isN
theorem oD_isCs {o : Option (List Cnd)} : (oD (fun cs => D.tup (cs.map Cnd.d)) o).isN = o.isNone := by cases o <;> rfl
theorem cd_isN {c : Cnd} : c.d.isN = false := rfl
theorem plain_tail {C : Nat → List D → Mem → Res D} {ws : List Str} {M : Mem} (hc : C i_read_condition [.list (ws.map .str)] M = .ok (oD Cnd.d (condOf ws)) M) :
    fin M (DP.execs C [.asg (.nm 1) (.call i_read_condition [(.v 0)]), .ret (.ite (.pr .isN [(.v 1)]) (.c .non) (.pr .tup [(.c (.str "is")), (.v 1)]))] [some (.list (ws.map .str)), none] M) = .ok (oD Bas.d ((condOf ws).map .is)) M := by
  have hN := oD_isN (o := condOf ws)
  cases h : condOf ws with
  | none =>
    rw [h] at hc hN
    simp [hc, hN, oD_none]
  | some c =>
    rw [h] at hc hN
    simp [hc, oD_some, Bas.d, cd_isN]
theorem run_plainB {n : Nat} {M : Mem} {ws : List Str} (hw : ∀ w ∈ ws, Wd w) : DP.run fs (n + 3) i_read_plain [.list (ws.map .str)] M = .ok (oD Bas.d (plainOf ws)) M := by
  have hc := run_condB (n := n) (M := M) hw
  have ht := plain_tail (C := DP.run fs (n + 2)) (M := M) hc
  rw [run_at (d := ⟨1, 2, b_read_plain⟩) rfl rfl]
  by_cases hl : ws.length = 5
  · obtain ⟨a, p, x, q, b, rfl⟩ : ∃ a p x q b, ws = [a, p, x, q, b] := by
      match ws, hl with
      | [a, p, x, q, b], _ => exact ⟨a, p, x, q, b, rfl⟩
    have Wa := hw a (by simp)
    have Wp := hw p (by simp)
    have Wx := hw x (by simp)
    have Wq := hw q (by simp)
    have Wb := hw b (by simp)
    have e1 := pr_eq_str (M := M) (a := p) (b := "+") Wp.ok (strOk_lit rfl)
    have e2 := pr_eq_str (M := M) (a := q) (b := "<=") Wq.ok (strOk_lit rfl)
    have h1 := run_wordB (n := n + 1) (M := M) Wa.ok (by have := Wa.l; omega)
    have h2 := run_numB (n := n + 1) (M := M) Wx.s (by have := Wx.l; omega)
    have h3 := run_wordB (n := n + 1) (M := M) Wb.ok (by have := Wb.l; omega)
    by_cases hpq : p = "+" ∧ q = "<="
    · obtain ⟨rfl, rfl⟩ := hpq
      have e : plainOf [a, "+", x, "<=", b] = if wordB a = true ∧ numB x = true ∧ wordB b = true then some (.order a (intOf x) b) else none := by
        simp only [plainOf, and_self, if_true]
      rw [e]
      simp only [decide_true] at e1 e2
      by_cases ha : wordB a = true
      · rw [ha] at h1
        by_cases hx : numB x = true
        · rw [hx] at h2
          have h4 := pr_int_of (M := M) hx
          by_cases hb : wordB b = true
          · rw [hb] at h3
            simp [b_read_plain, e1, e2, h1, h2, h3, h4, ha, hx, hb, oD_some, Bas.d]
          · have hb : wordB b = false := by simpa using hb
            rw [hb] at h3
            simp [b_read_plain, e1, e2, h1, h2, h3, hb, oD_none]
        · have hx : numB x = false := by simpa using hx
          rw [hx] at h2
          simp [b_read_plain, e1, e2, h1, h2, hx, oD_none]
      · have ha : wordB a = false := by simpa using ha
        rw [ha] at h1
        simp [b_read_plain, e1, e2, h1, ha, oD_none]
    · have e : plainOf [a, p, x, q, b] = (condOf [a, p, x, q, b]).map .is := by
        simp only [plainOf, if_neg hpq]
      rw [e, ← ht]
      by_cases hp : p = "+"
      · have hq : q ≠ "<=" := fun hq => hpq ⟨hp, hq⟩
        subst hp
        simp only [decide_true] at e1
        rw [decide_eq_false hq] at e2
        simp [b_read_plain, e1, e2]
      · rw [decide_eq_false hp] at e1
        simp [b_read_plain, e1]
  · have e : plainOf ws = (condOf ws).map .is := by
      unfold plainOf
      split
      · simp at hl
      · rfl
    have hl' : ¬ (ws.length : Int) = 5 := by omega
    rw [e, ← ht]
    simp [b_read_plain, hl']
noncomputable def ifOf : List (List Str) → Option Frm
  | [a, b] => (match condsOf "and" 1 8 a, plainOf b with
    | some cs, some q => some (.ifs cs q)
    | _, _ => none)
  | _ => none
noncomputable def atOf : List Str → Option Frm
  | m :: i :: o :: c :: cs => if (m = "most" ∨ m = "least") ∧ o = "of" then (match condsOf "," 1 8 (c :: cs) with
      | some l => if numB i = true then some (.at_ (decide (m = "most")) (intOf i) l) else none
      | none => none)
    else none
  | _ => none
noncomputable def formOf : List Str → Option Frm
  | [] => none
  | w :: r => if w = "either" then (condsOf "or" 2 13 r).map .either
    else if w = "if" then ifOf (groups "then" r)
    else if w = "at" then atOf r
    else (plainOf (w :: r)).map .bas
theorem Wd.lit {a : String} (h : (a.toList.all fun c => decide (c.toNat < 1000)) = true) (hl : a.toList.length ≤ 1000) : Wd (Str.ofString a) := ⟨fun c hc => by
  rw [TL.tl_ofString] at hc
  obtain ⟨x, hx, rfl⟩ := List.mem_map.mp hc
  exact of_decide_eq_true (List.all_eq_true.mp h x hx), by rw [TL.len_tl, TL.tl_ofString]; simpa using hl⟩
/-- left with this value, the memory as it was -/
def Rt (r : SRes) (d : D) (M : Mem) : Prop := ∃ env', r = .done (.rt d) env' M
theorem form_head {C : Nat → List D → Mem → Res D} {B0 B1 B2 R : List S} {M : Mem} {w : Str} {r : List D} {d : D} {x y z : Bool} (hne : pr .ne M [.list (.str w :: r), .list []] = some (.bl true, M)) (e1 : pr .eq M [.str w, .str "either"] = some (.bl x, M)) (e2 : pr .eq M [.str w, .str "if"] = some (.bl y, M)) (e3 : pr .eq M [.str w, .str "at"] = some (.bl z, M))
    (h : Rt (DP.execs C (if x then B0 else if y then B1 else if z then B2 else R) [some (.list (.str w :: r)), some (.str w), none, none, none] M) d M) :
    fin M (DP.execs C (.asg (.nm 1) (.ite (.pr .ne [(.v 0), (.pr .list [])]) (.pr .idx [(.v 0), (.c (.int (0)))]) (.c (.str ""))) :: .ife (.pr .eq [(.v 1), (.c (.str "either"))]) B0 [] :: .ife (.pr .eq [(.v 1), (.c (.str "if"))]) B1 [] :: .ife (.pr .eq [(.v 1), (.c (.str "at"))]) B2 [] :: R) [some (.list (.str w :: r)), none, none, none, none] M) = .ok d M := by
  obtain ⟨env', h⟩ := h
  cases x with
  | true =>
    simp only [if_true] at h
    simp [hne, e1, h]
  | false =>
    cases y with
    | true =>
      simp only [Bool.false_eq_true, if_false, if_true] at h
      simp [hne, e1, e2, h]
    | false =>
      cases z with
      | true =>
        simp only [Bool.false_eq_true, if_false, if_true] at h
        simp [hne, e1, e2, e3, h]
      | false =>
        simp only [Bool.false_eq_true, if_false] at h
        simp [hne, e1, e2, e3, h]
theorem form_if {C : Nat → List D → Mem → Res D} {r : List Str} {M : Mem} {x0 : List D} {G : List (List Str)} (hx : pr (.slice true false) M [.list x0, .int 1] = some (.list (r.map .str), M)) (hp : C i_parted [.list (r.map .str), .str "then"] M = .ok (.list (G.map fun g => .list (g.map .str))) M)
    (h1 : ∀ a b, G = [a, b] → C i_read_conditions [.list (a.map .str), .str "and", .int 1, .int 8] M = .ok (oD (fun cs => .tup (cs.map Cnd.d)) (condsOf "and" 1 8 a)) M ∧ C i_read_plain [.list (b.map .str)] M = .ok (oD Bas.d (plainOf b)) M) (y1 : Option D) :
    Rt (DP.execs C [.asg (.nm 3) (.call i_parted [(.pr (.slice true false) [(.v 0), (.c (.int (1)))]), (.c (.str "then"))]), .ife (.pr .ne [(.pr .len [(.v 3)]), (.c (.int (2)))]) [.ret (.c .non)] [], .asg (.nm 2) (.call i_read_conditions [(.pr .idx [(.v 3), (.c (.int (0)))]), (.c (.str "and")), (.c (.int (1))), (.c (.int (8)))]), .asg (.nm 4) (.call i_read_plain [(.pr .idx [(.v 3), (.c (.int (1)))])]), .ret (.ite (.or_ (.pr .isN [(.v 2)]) (.pr .isN [(.v 4)])) (.c .non) (.pr .tup [(.c (.str "if")), (.v 2), (.v 4)]))]
      [some (.list x0), y1, none, none, none] M) (oD Frm.d (ifOf G)) M := by
  match G, h1, hp with
  | [], _, hp => simp [Rt, hx, hp, oD_none, ifOf]
  | [a], _, hp => simp [Rt, hx, hp, oD_none, ifOf]
  | a :: b :: c :: G, _, hp =>
    have : ¬ ((G.length : Int) + 1 + 1 + 1 = 2) := by omega
    simp [Rt, hx, hp, oD_none, ifOf, this]
  | [a, b], h1, hp =>
    obtain ⟨k1, k2⟩ := h1 a b rfl
    have n1 := oD_isCs (o := condsOf "and" 1 8 a)
    have n2 := oD_isB (o := plainOf b)
    simp only [ifOf]
    cases e1 : condsOf "and" 1 8 a with
    | none =>
      rw [e1] at k1 n1
      simp [Rt, hx, hp, k1, k2, oD_none, ifOf]
    | some cs =>
      rw [e1] at k1 n1
      cases e2 : plainOf b with
      | none =>
        rw [e2] at k2 n2
        simp [Rt, hx, hp, k1, k2, oD_none, ifOf, oD_some, cnd_isN]
      | some q =>
        rw [e2] at k2 n2
        simp [Rt, hx, hp, k1, k2, oD_some, Frm.d, bas_isN, cnd_isN]
theorem groups_bd0 (sg : Str) : ∀ (ws : List Str) (G : List (List Str)) (k : Nat), (∀ g ∈ G, g.length ≤ k) → ∀ g ∈ ws.foldl (pstep sg) G, g.length ≤ k + ws.length
  | [], G, k, h => by simpa using h
  | w :: ws, G, k, h => by
    intro g hg
    rw [List.foldl_cons] at hg
    have := groups_bd0 sg ws (pstep sg G w) (k + 1) (by
      intro g hg
      unfold pstep at hg
      split at hg
      · rcases List.mem_append.mp hg with m | m
        · have := h g m; omega
        · rw [List.mem_singleton.mp m]; simp
      · rcases List.mem_append.mp hg with m | m
        · have := h g (List.dropLast_subset _ m); omega
        · rw [List.mem_singleton.mp m]
          cases e : G.getLast? with
          | none => simp
          | some g2 =>
            have := h g2 (List.mem_of_getLast? e)
            simp
            try omega) g hg
    rw [List.length_cons]; omega
theorem groups_bd {sg : Str} (ws : List Str) : ∀ g ∈ groups sg ws, g.length ≤ ws.length := by
  have := groups_bd0 sg ws [[]] 0 (by simp)
  intro g hg
  have := this g hg
  omega
theorem form_at {C : Nat → List D → Mem → Res D} {r : List Str} {M : Mem} (hw : ∀ w ∈ r, Wd w) (hC : ∀ b, b.length ≤ r.length → (∀ w ∈ b, Wd w) → C i_read_conditions [.list (b.map .str), .str ",", .int 1, .int 8] M = .ok (oD (fun cs => .tup (cs.map Cnd.d)) (condsOf "," 1 8 b)) M)
    (hN : ∀ i, Wd i → C i_number_like [.str i] M = .ok (.bl (numB i)) M) (y1 : Option D) (w : Str) :
    Rt (DP.execs C [.ife (.or_ (.pr .lt [(.pr .len [(.v 0)]), (.c (.int (5)))]) (.or_ (.pr .notIn [(.pr .idx [(.v 0), (.c (.int (1)))]), (.pr .tup [(.c (.str "most")), (.c (.str "least"))])]) (.pr .ne [(.pr .idx [(.v 0), (.c (.int (3)))]), (.c (.str "of"))]))) [.ret (.c .non)] [], .asg (.nm 2) (.call i_read_conditions [(.pr (.slice true false) [(.v 0), (.c (.int (4)))]), (.c (.str ",")), (.c (.int (1))), (.c (.int (8)))]), .ret (.ite (.or_ (.pr .isN [(.v 2)]) (.pr .not_ [(.call i_number_like [(.pr .idx [(.v 0), (.c (.int (2)))])])])) (.c .non) (.pr .tup [(.pr .idx [(.v 0), (.c (.int (1)))]), (.pr .int_ [(.pr .idx [(.v 0), (.c (.int (2)))])]), (.v 2)]))]
      [some (.list (.str w :: r.map .str)), y1, none, none, none] M) (oD Frm.d (atOf r)) M := by
  match r, hw, hC with
  | [], _, _ => simp [Rt, oD_none, atOf]
  | [a], _, _ => simp [Rt, oD_none, atOf]
  | [a, b], _, _ => simp [Rt, oD_none, atOf]
  | [a, b, c], _, _ => simp [Rt, oD_none, atOf]
  | m :: i :: o :: c :: cs, hw, hC =>
    have hlen : ¬ ((cs.length : Int) + 1 + 1 + 1 + 1 + 1 < 5) := by omega
    have Wm := hw m (by simp)
    have Wi := hw i (by simp)
    have Wo := hw o (by simp)
    have hin : pr .notIn M [.str m, .tup [(.str "most"), (.str "least")]] = some (.bl (!decide (m ∈ (["most", "least"] : List Str))), M) := notIn_strs (ss := ["most", "least"]) Wm.ok (by
      intro t ht
      simp only [List.mem_cons, List.not_mem_nil, or_false] at ht
      rcases ht with rfl | rfl <;> exact strOk_lit rfl)
    have hmem : (m ∈ (["most", "least"] : List Str)) ↔ (m = "most" ∨ m = "least") := by simp
    have e2 := pr_ne_str (M := M) (a := o) (b := "of") Wo.ok (strOk_lit rfl)
    by_cases hm : m = "most" ∨ m = "least"
    · rw [decide_eq_true (hmem.mpr hm)] at hin
      by_cases ho : o = "of"
      · subst ho
        simp only [decide_true] at e2
        have k := hC (c :: cs) (by simp) (fun w hw2 => hw w (by
          simp only [List.mem_cons] at hw2 ⊢
          rcases hw2 with h | h <;> simp [Rt, h]))
        simp only [List.map_cons] at k
        have kn := hN i Wi
        simp only [atOf, hm, and_self, if_true]
        cases e : condsOf "," 1 8 (c :: cs) with
        | none =>
          rw [e] at k
          simp [Rt, hlen, hin, e2, k, oD_none]
        | some l =>
          rw [e] at k
          cases hn : numB i with
          | false =>
            rw [hn] at kn
            simp [Rt, hlen, hin, e2, k, kn, oD_none, oD_some, cnd_isN]
          | true =>
            rw [hn] at kn
            have ki := pr_int_of (M := M) hn
            have hs : mostS (decide (m = "most")) = m := by
              rcases hm with rfl | rfl
              · rfl
              · have : decide (Str.ofString "least" = Str.ofString "most") = false := by decide
                rw [this]; rfl
            simp [Rt, hlen, hin, e2, k, kn, ki, oD_some, cnd_isN, Frm.d, hs]
      · rw [decide_eq_false ho] at e2
        simp [Rt, hlen, hin, e2, ho, oD_none, atOf]
    · rw [decide_eq_false (fun h => hm (hmem.mp h))] at hin
      simp [Rt, hlen, hin, hm, oD_none, atOf]
theorem run_formB {n : Nat} {M : Mem} {ws : List Str} (hw : ∀ w ∈ ws, Wd w) (hl : ws.length ≤ 900) : DP.run fs (n + 4) i_read_form [.list (ws.map .str)] M = .ok (oD Frm.d (formOf ws)) M := by
  have hp := run_plainB (n := n) (M := M) hw
  have hne := ne_nil (M := M) (ss := ws) fun s hs => (hw s hs).ok
  rw [run_at (d := ⟨1, 5, b_read_form⟩) rfl rfl]
  cases ws with
  | nil =>
    have e1 := eq_lit (M := M) (a := "") (b := "either") rfl rfl
    have e2 := eq_lit (M := M) (a := "") (b := "if") rfl rfl
    have e3 := eq_lit (M := M) (a := "") (b := "at") rfl rfl
    have hz : plainOf [] = none := rfl
    rw [hz] at hp
    simp only [List.map_nil, List.isEmpty_nil, Bool.not_true] at hp hne
    simp [b_read_form, hne, e1, e2, e3, hp, oD_none, formOf]
  | cons w r =>
    have Ww := hw w (by simp)
    have hr : ∀ x ∈ r, Wd x := fun x hx => hw x (by simp [hx])
    have hlr : r.length ≤ 899 := by simp at hl; omega
    simp only [List.map_cons, List.isEmpty_cons, Bool.not_false] at hne hp
    have e2 := pr_eq_str (M := M) (a := w) (b := "if") Ww.ok (strOk_lit rfl)
    have e3 := pr_eq_str (M := M) (a := w) (b := "at") Ww.ok (strOk_lit rfl)
    have hsl : pr (.slice true false) M [.list (.str w :: r.map .str), .int 1] = some (.list (r.map .str), M) := by simp
    have e1 := pr_eq_str (M := M) (a := w) (b := "either") Ww.ok (strOk_lit rfl)
    refine form_head hne e1 e2 e3 ?_
    rw [formOf]
    by_cases h1 : w = "either"
    · have k : DP.run fs (n + 3) i_read_conditions [.list (r.map .str), .str "or", .int 2, .int 13] M = .ok (oD (fun cs => .tup (cs.map Cnd.d)) (condsOf "or" 2 13 r)) M := run_condsB (n := n) (M := M) (sg := "or") (lo := 2) (hi := 13) (strOk_lit rfl) hr (by omega)
      rw [if_pos h1, if_pos (decide_eq_true h1)]
      cases e : condsOf "or" 2 13 r with
      | none =>
        rw [e] at k
        simp [Rt, k, oD_none]
      | some cs =>
        rw [e] at k
        simp [Rt, k, oD_some, cnd_isN, Frm.d]
    rw [if_neg h1, if_neg (by simpa using h1)]
    by_cases h2 : w = "if"
    · rw [if_pos h2, if_pos (decide_eq_true h2)]
      exact form_if (C := DP.run fs (n + 3)) (x0 := .str w :: r.map .str) hsl (run_parted (n := n + 2) (strOk_lit rfl) (by omega) fun w hw => (hr w hw).ok) (G := groups "then" r) (fun a b hg => by
        have hgm := groups_mem (P := Wd) (sg := "then") hr
        rw [hg] at hgm
        have hgl := groups_bd (sg := "then") r
        rw [hg] at hgl
        refine ⟨run_condsB (n := n) (lo := 1) (hi := 8) (strOk_lit rfl) (hgm a (by simp)) ?_, run_plainB (n := n) (hgm b (by simp))⟩
        have := hgl a (by simp)
        omega) (some (.str w))
    rw [if_neg h2, if_neg (by simpa using h2)]
    by_cases h3 : w = "at"
    · rw [if_pos h3, if_pos (decide_eq_true h3)]
      exact form_at (C := DP.run fs (n + 3)) (M := M) hr (fun b hb hw => run_condsB (n := n) (lo := 1) (hi := 8) (strOk_lit rfl) hw (by omega)) (fun i hi => run_numB (n := n + 2) hi.s (by have := hi.l; omega)) (some (.str w)) w
    rw [if_neg h3, if_neg (by simpa using h3)]
    have hB : (oD Frm.d ((plainOf (w :: r)).map .bas)) = oD Bas.d (plainOf (w :: r)) := by cases plainOf (w :: r) <;> rfl
    rw [hB]
    simp [Rt, hp]
end K01

/-! lines, whatever the words -/
namespace K01
open PySem PySem.Spec PyProof.Rows L2 DP
def wordsB (ws : List Str) : Bool := !ws.isEmpty && decide (ws.length ≤ 4) && ws.all wordB
theorem run_wordsB {n : Nat} {M : Mem} {ws : List Str} (hw : ∀ w ∈ ws, Wd w) : DP.run fs (n + 2) i_words_like [.list (ws.map .str)] M = .ok (.bl (wordsB ws)) M := by
  have he := eq_nilW (M := M) hw
  rw [run_at (d := ⟨1, 2, b_words_like⟩) rfl rfl]
  cases h0 : ws.isEmpty with
  | true =>
    rw [h0] at he
    simp [b_words_like, he, wordsB, h0]
  | false =>
    rw [h0] at he
    by_cases h4 : 4 < ws.length
    · have h4' : (4 : Int) < ws.length := by omega
      have h4'' : ¬ ws.length ≤ 4 := by omega
      simp [b_words_like, he, wordsB, h0, h4', h4'']
    · have h4' : ¬ (4 : Int) < ws.length := by omega
      have h4'' : ws.length ≤ 4 := by omega
      have hsz : ws.length ≤ sizeLine := by simp [sizeLine]; omega
      have c1 : compLoop (.items (ws.map .str)) (compF (DP.run fs (n + 1)) [1] (.nm 1) (.call i_word_like [(.v 1)]) [some (.list (ws.map .str)), none]) (ws.map .str) M = .ok (ws.map fun w => .bl (wordB w)) M := by
        refine compLoop_on D.str (fun w => .bl (wordB w)) ws fun w hw' => ?_
        have := run_wordB (n := n) (M := M) (hw w hw').ok (by have := (hw w hw').l; omega)
        simp [compF, this]
      have ha := pr_all_bl (M := M) (p := wordB) (xs := ws)
      simp [b_words_like, he, h4', c1, hsz, ha, wordsB, h0, h4'']
noncomputable def lineOf : List Str → Option Lin
  | [] => none
  | k :: r => if k = "end" then (if r = [] then some .fin_ else none) else match r with
    | [] => none
    | w :: r2 => if wordB w = false then none
      else if k = "close" then (if r2 = [] then some (.close w) else none)
      else if k = "name" then (match r2 with
        | [x, y] => if numB x = true ∧ numB y = true then some (.name w (intOf x) (intOf y)) else none
        | _ => none)
      else match r2 with
        | c :: v :: r3 => if c ≠ ":" then none
          else if k = "block" then (if wordsB (v :: r3) = true then some (.block w (v :: r3)) else none)
          else if k = "row" ∨ k = "must" then (formOf (v :: r3)).map (.frm (decide (k = "must")) w)
          else if wordB v = true ∧ wordsB r3 = true then some (.use (decide (k = "mustuse")) w v r3) else none
        | _ => none
def LW : List Str := ["name", "row", "must", "use", "mustuse", "block", "end", "close"]
theorem LW_ok : ∀ s ∈ LW, PyData.strOk s = true := by
  intro s hs
  simp only [LW, List.mem_cons, List.not_mem_nil, or_false] at hs
  rcases hs with h | h | h | h | h | h | h | h <;> (rw [h]; exact strOk_lit rfl)
/-- the last part of line_of: text words colon ... -/
theorem line_of_tail {n : Nat} {M : Mem} {k w c v : Str} {r3 : List Str} (hk : k ∈ ([("row" : Str), "must", "use", "mustuse", "block"] : List Str)) (hb : wordB w = true) (hw : ∀ x ∈ w :: c :: v :: r3, Wd x) (hl : r3.length ≤ 890) :
    DP.run fs (n + 5) i_line_of [.list ((k :: w :: c :: v :: r3).map .str)] M = .ok (oD Lin.d (lineOf (k :: w :: c :: v :: r3))) M := by
  have Ww := hw w (by simp)
  have Wc := hw c (by simp)
  have Wv := hw v (by simp)
  have hv3 : ∀ x ∈ v :: r3, Wd x := fun x hx => hw x (by
    simp only [List.mem_cons] at hx ⊢
    rcases hx with h | h <;> simp [h])
  have h3 : ∀ x ∈ r3, Wd x := fun x hx => hw x (by simp [hx])
  have b1 := run_wordB (n := n + 3) (M := M) Ww.ok (by have := Ww.l; omega)
  rw [hb] at b1
  have hkl : ∃ a : String, k = Str.ofString a ∧ a ∈ ["row", "must", "use", "mustuse", "block"] := by
    simp only [List.mem_cons, List.not_mem_nil, or_false] at hk
    rcases hk with h | h | h | h | h
    · exact ⟨_, h, by simp⟩
    · exact ⟨_, h, by simp⟩
    · exact ⟨_, h, by simp⟩
    · exact ⟨_, h, by simp⟩
    · exact ⟨_, h, by simp⟩
  obtain ⟨a, rfl, ha⟩ := hkl
  have hal : (a.toList.all fun c => decide (c.toNat < 1000)) = true := by
    simp only [List.mem_cons, List.not_mem_nil, or_false] at ha
    rcases ha with h | h | h | h | h <;> subst h <;> rfl
  have e1 := eq_lit (M := M) (a := a) (b := "end") hal rfl
  have e2 := eq_lit (M := M) (a := a) (b := "close") hal rfl
  have e3 := eq_lit (M := M) (a := a) (b := "name") hal rfl
  have e4 := eq_lit (M := M) (a := a) (b := "block") hal rfl
  have e5 : pr .in_ M [.str (Str.ofString a), .tup [(.str "row"), (.str "must")]] = some (.bl (decide (a ∈ ["row", "must"])), M) := lit_in (M := M) a ["row", "must"] hal (by simp)
  have hq : ¬ ((r3.length : Int) + 1 + 1 + 1 + 1 < 2) := by omega
  have hq2 : ¬ ((r3.length : Int) + 1 + 1 + 1 + 1 < 4) := by omega
  have ec := pr_ne_str (M := M) (a := c) (b := ":") Wc.ok (strOk_lit rfl)
  have n1 : a ≠ "end" := by rintro rfl; simp at ha
  have n2 : a ≠ "close" := by rintro rfl; simp at ha
  have n3 : a ≠ "name" := by rintro rfl; simp at ha
  rw [decide_eq_false n1] at e1
  rw [decide_eq_false n2] at e2
  rw [decide_eq_false n3] at e3
  have hL : lineOf (Str.ofString a :: w :: c :: v :: r3) = if c ≠ ":" then none
          else if a = "block" then (if wordsB (v :: r3) = true then some (.block w (v :: r3)) else none)
          else if a = "row" ∨ a = "must" then (formOf (v :: r3)).map (.frm (decide (a = "must")) w)
          else if wordB v = true ∧ wordsB r3 = true then some (.use (decide (a = "mustuse")) w v r3) else none := by
    simp only [lineOf, ofString_eq, n1, n2, n3, if_false, hb, Bool.true_eq_false]
  rw [hL]
  rw [run_at (d := ⟨1, 3, b_line_of⟩) rfl rfl]
  by_cases hc : c = ":"
  · subst hc
    simp only [decide_true, Bool.not_true] at ec
    simp only [ne_eq, not_true, if_false]
    by_cases hblk : a = "block"
    · subst hblk
      simp only [decide_true] at e4
      have k1 := run_wordsB (n := n + 2) (M := M) hv3
      simp only [List.map_cons] at k1
      cases hws : wordsB (v :: r3) with
      | false =>
        rw [hws] at k1
        simp [b_line_of, e1, b1, e2, e3, e4, hq, hq2, ec, k1, oD_none]
      | true =>
        rw [hws] at k1
        simp [b_line_of, e1, b1, e2, e3, e4, hq, hq2, ec, k1, oD_some, Lin.d]
    · rw [if_neg hblk]
      rw [decide_eq_false hblk] at e4
      by_cases hrm : a = "row" ∨ a = "must"
      · rw [if_pos hrm]
        have hrm' : a ∈ ["row", "must"] := by simpa using hrm
        rw [decide_eq_true hrm'] at e5
        have k1 := run_formB (n := n) (M := M) hv3 (by simp; omega)
        simp only [List.map_cons] at k1
        have hN := oD_isF (o := formOf (v :: r3))
        have hs : rowS (decide (a = "must")) = Str.ofString a := by
          rcases hrm with rfl | rfl <;> rfl
        cases hf : formOf (v :: r3) with
        | none =>
          rw [hf] at k1
          simp [b_line_of, e1, b1, e2, e3, e4, e5, hq, hq2, ec, k1, oD_none]
        | some f =>
          rw [hf] at k1
          simp [b_line_of, e1, b1, e2, e3, e4, e5, hq, hq2, ec, k1, oD_some, Lin.d, frm_isN, hs]
      · rw [if_neg hrm]
        have hrm' : a ∉ ["row", "must"] := by simpa using hrm
        rw [decide_eq_false hrm'] at e5
        have k1 := run_wordB (n := n + 3) (M := M) Wv.ok (by have := Wv.l; omega)
        have k2 := run_wordsB (n := n + 2) (M := M) h3
        have hs : useS (decide (a = "mustuse")) = Str.ofString a := by
          simp only [List.mem_cons, List.not_mem_nil, or_false] at ha
          rcases ha with h | h | h | h | h
          · exact absurd (.inl h) hrm
          · exact absurd (.inr h) hrm
          · subst h; rfl
          · subst h; rfl
          · exact absurd h hblk
        cases hv : wordB v with
        | false =>
          rw [hv] at k1
          simp [b_line_of, e1, b1, e2, e3, e4, e5, hq, hq2, ec, k1, oD_none]
        | true =>
          rw [hv] at k1
          cases hws : wordsB r3 with
          | false =>
            rw [hws] at k2
            simp [b_line_of, e1, b1, e2, e3, e4, e5, hq, hq2, ec, k1, k2, oD_none]
          | true =>
            rw [hws] at k2
            simp [b_line_of, e1, b1, e2, e3, e4, e5, hq, hq2, ec, k1, k2, oD_some, Lin.d, hs]
  · rw [decide_eq_false hc] at ec
    rw [if_pos hc]
    simp [b_line_of, e1, b1, e2, e3, hq, hq2, ec, oD_none]
theorem run_lineB {n : Nat} {M : Mem} {k : Str} {r : List Str} (hk : k ∈ LW) (hw : ∀ x ∈ r, Wd x) (hl : r.length ≤ 890) : DP.run fs (n + 5) i_line_of [.list ((k :: r).map .str)] M = .ok (oD Lin.d (lineOf (k :: r))) M := by
  have hkl : ∃ a : String, k = Str.ofString a ∧ a ∈ ["name", "row", "must", "use", "mustuse", "block", "end", "close"] := by
    simp only [LW, List.mem_cons, List.not_mem_nil, or_false] at hk
    rcases hk with h | h | h | h | h | h | h | h <;> exact ⟨_, h, by simp⟩
  obtain ⟨a, rfl, ha⟩ := hkl
  have hal : (a.toList.all fun c => decide (c.toNat < 1000)) = true := by
    simp only [List.mem_cons, List.not_mem_nil, or_false] at ha
    rcases ha with h | h | h | h | h | h | h | h <;> subst h <;> rfl
  have e1 := eq_lit (M := M) (a := a) (b := "end") hal rfl
  have e2 := eq_lit (M := M) (a := a) (b := "close") hal rfl
  have e3 := eq_lit (M := M) (a := a) (b := "name") hal rfl
  have e4 := eq_lit (M := M) (a := a) (b := "block") hal rfl
  by_cases n1 : a = "end"
  · subst n1
    simp only [decide_true] at e1
    rw [run_at (d := ⟨1, 3, b_line_of⟩) rfl rfl]
    have hL : lineOf (Str.ofString "end" :: r) = if r = [] then some .fin_ else none := by simp only [lineOf, if_true]
    rw [hL]
    cases r with
    | nil => simp [b_line_of, e1, oD_some, Lin.d]
    | cons x r =>
      have : ¬ ((r.length : Int) + 1 + 1 = 1) := by omega
      simp [b_line_of, e1, oD_none, this]
  rw [decide_eq_false n1] at e1
  match r, hw, hl with
  | [], _, _ =>
    rw [run_at (d := ⟨1, 3, b_line_of⟩) rfl rfl]
    have hL : lineOf [Str.ofString a] = none := by simp only [lineOf, ofString_eq, n1, if_false]
    rw [hL]
    simp [b_line_of, e1, oD_none]
  | w :: r2, hw, hl =>
    have Ww := hw w (by simp)
    have b1 := run_wordB (n := n + 3) (M := M) Ww.ok (by have := Ww.l; omega)
    have hq : ¬ ((r2.length : Int) + 1 + 1 < 2) := by omega
    cases hb : wordB w with
    | false =>
      rw [hb] at b1
      rw [run_at (d := ⟨1, 3, b_line_of⟩) rfl rfl]
      have hL : lineOf (Str.ofString a :: w :: r2) = none := by simp only [lineOf, ofString_eq, n1, if_false, hb, if_true]
      rw [hL]
      simp [b_line_of, e1, b1, hq, oD_none]
    | true =>
      rw [hb] at b1
      by_cases n2 : a = "close"
      · subst n2
        simp only [decide_true] at e2
        rw [run_at (d := ⟨1, 3, b_line_of⟩) rfl rfl]
        have hL : lineOf (Str.ofString "close" :: w :: r2) = if r2 = [] then some (.close w) else none := by simp only [lineOf, ofString_eq, n1, if_false, hb, Bool.true_eq_false, if_true]
        rw [hL]
        cases r2 with
        | nil => simp [b_line_of, e1, b1, e2, oD_some, Lin.d]
        | cons x r =>
          have h1 : ¬ ((r.length : Int) + 1 + 1 + 1 = 2) := by omega
          have h2 : ¬ ((r.length : Int) + 1 + 1 + 1 < 2) := by omega
          simp [b_line_of, e1, b1, e2, oD_none, h1, h2]
      rw [decide_eq_false n2] at e2
      by_cases n3 : a = "name"
      · subst n3
        simp only [decide_true] at e3
        rw [run_at (d := ⟨1, 3, b_line_of⟩) rfl rfl]
        match r2, hw, hq with
        | [], _, _ => simp [b_line_of, e1, b1, e2, e3, oD_none, lineOf, ofString_eq, hb]
        | [x], _, _ => simp [b_line_of, e1, b1, e2, e3, oD_none, lineOf, ofString_eq, hb]
        | x :: y :: z :: r, _, _ =>
          have h1 : ¬ ((r.length : Int) + 1 + 1 + 1 + 1 + 1 = 4) := by omega
          have h2 : ¬ ((r.length : Int) + 1 + 1 + 1 + 1 + 1 < 2) := by omega
          simp [b_line_of, e1, b1, e2, e3, oD_none, lineOf, ofString_eq, hb, h1, h2]
        | [x, y], hw, _ =>
          have Wx := hw x (by simp)
          have Wy := hw y (by simp)
          have k1 := run_numB (n := n + 3) (M := M) Wx.s (by have := Wx.l; omega)
          have k2 := run_numB (n := n + 3) (M := M) Wy.s (by have := Wy.l; omega)
          have hL : lineOf [Str.ofString "name", w, x, y] = if numB x = true ∧ numB y = true then some (.name w (intOf x) (intOf y)) else none := by
            simp only [lineOf, ofString_eq, n1, n2, if_false, hb, Bool.true_eq_false, if_true]
          rw [hL]
          cases hx : numB x with
          | false =>
            rw [hx] at k1
            simp [b_line_of, e1, b1, e2, e3, k1, oD_none]
          | true =>
            rw [hx] at k1
            have i1 := pr_int_of (M := M) hx
            cases hy : numB y with
            | false =>
              rw [hy] at k2
              simp [b_line_of, e1, b1, e2, e3, k1, k2, oD_none]
            | true =>
              rw [hy] at k2
              have i2 := pr_int_of (M := M) hy
              simp [b_line_of, e1, b1, e2, e3, k1, k2, i1, i2, oD_some, Lin.d]
      rw [decide_eq_false n3] at e3
      match r2, hw, hl, hq with
      | [], _, _, _ =>
        rw [run_at (d := ⟨1, 3, b_line_of⟩) rfl rfl]
        simp [b_line_of, e1, b1, e2, e3, oD_none, lineOf, ofString_eq, hb, n1, n2, n3]
      | [x], _, _, _ =>
        rw [run_at (d := ⟨1, 3, b_line_of⟩) rfl rfl]
        simp [b_line_of, e1, b1, e2, e3, oD_none, lineOf, ofString_eq, hb, n1, n2, n3]
      | c :: v :: r3, hw, hl, _ =>
        refine line_of_tail ?_ hb hw (by simp at hl; omega)
        simp only [List.mem_cons, List.not_mem_nil, or_false] at ha
        rcases ha with h | h | h | h | h | h | h | h
        · exact absurd h n3
        all_goals first | (subst h; simp; done) | (exact absurd h n1) | (exact absurd h n2)
end K01

namespace K01
open PySem PySem.Spec PyProof.Rows L2 DP
def Sig (c : Nat) : Prop := (97 ≤ c ∧ c ≤ 122) ∨ (48 ≤ c ∧ c ≤ 57) ∨ c = 58 ∨ c = 43 ∨ c = 60 ∨ c = 62 ∨ c = 61 ∨ c = 44 ∨ c = 45
structure PW (s : Str) : Prop where
  ne : TL.tl s ≠ []
  al : ∀ c ∈ TL.tl s, Sig c
theorem IsW.pw {w : Str} (h : IsW w) : PW w := by
  obtain ⟨c, cs, e, _⟩ := h.hd
  refine ⟨by rw [e]; simp, fun c hc => ?_⟩
  rcases h.al c hc with q | q
  · exact .inl q
  · exact .inr (.inl q)
theorem num_pw (i : Int) : PW (numS i) := by
  refine ⟨by rw [tl_int]; exact intL_ne i, fun c hc => ?_⟩
  rcases intL_in (tl_int i ▸ hc) with q | q
  · exact .inr (.inr (by omega))
  · exact .inr (.inl q)
instance (c : Nat) : Decidable (Sig c) := by unfold Sig; infer_instance
theorem lit_pw {a : String} (h1 : a.toList ≠ []) (h2 : (a.toList.all fun c => decide (Sig c.toNat)) = true) : PW (Str.ofString a) := by
  refine ⟨by rw [TL.tl_ofString]; simpa using h1, fun c hc => ?_⟩
  rw [TL.tl_ofString] at hc
  obtain ⟨x, hx, rfl⟩ := List.mem_map.mp hc
  exact of_decide_eq_true (List.all_eq_true.mp h2 x hx)
theorem cnd_pw {c : Cnd} (h : c.Ok) : ∀ s ∈ c.ws, PW s := by
  intro s hs
  rcases List.mem_cons.mp hs with e | hs
  · rw [e]; exact h.w.pw
  · rcases List.mem_append.mp hs with hs | hs
    · cases hg : c.g <;> rw [hg] at hs <;> simp only [Sg.ws, List.mem_cons, List.not_mem_nil, or_false] at hs
      · rw [hs]; exact lit_pw (by decide) (by decide)
      · rw [hs]; exact lit_pw (by decide) (by decide)
      · rw [hs]; exact lit_pw (by decide) (by decide)
      · rw [hs]; exact lit_pw (by decide) (by decide)
      · rcases hs with e | e <;> rw [e] <;> exact lit_pw (by decide) (by decide)
    · obtain ⟨i, _, rfl⟩ := List.mem_map.mp hs
      exact num_pw i
theorem weave_pw {sg : Str} (hs : PW sg) : ∀ {G : List (List Str)}, (∀ g ∈ G, ∀ s ∈ g, PW s) → ∀ s ∈ weave sg G, PW s
  | [], _, s, h => by simp [weave] at h
  | [g], hG, s, h => by rw [weave] at h; exact hG g List.mem_cons_self s h
  | g :: g2 :: gs, hG, s, h => by
    rw [weave] at h
    · rcases List.mem_append.mp h with h | h
      · exact hG g List.mem_cons_self s h
      · rcases List.mem_cons.mp h with h | h
        · rw [h]; exact hs
        · exact weave_pw hs (fun x m => hG x (List.mem_cons_of_mem _ m)) s h
    · simp
theorem wv_pw {sg : Str} (hs : PW sg) {cs : List Cnd} (h : ∀ c ∈ cs, c.Ok) : ∀ s ∈ wv sg cs, PW s :=
  weave_pw hs fun g hg => by obtain ⟨c, hm, rfl⟩ := List.mem_map.mp hg; exact cnd_pw (h c hm)
theorem bas_pw {b : Bas} (h : b.Ok) : ∀ s ∈ b.ws, PW s := by
  cases b with
  | is c => exact cnd_pw h
  | order a i b =>
    intro s hs
    simp only [Bas.ws, List.mem_cons, List.not_mem_nil, or_false] at hs
    rcases hs with e | e | e | e | e <;> rw [e]
    · exact h.1.pw
    · exact lit_pw (by decide) (by decide)
    · exact num_pw i
    · exact lit_pw (by decide) (by decide)
    · exact h.2.2.pw
theorem frm_pw {f : Frm} (h : f.Ok) : ∀ s ∈ f.ws, PW s := by
  cases f with
  | bas b => exact bas_pw h
  | either cs =>
    intro s hs
    rcases List.mem_cons.mp hs with e | hs
    · rw [e]; exact lit_pw (by decide) (by decide)
    · exact wv_pw (lit_pw (by decide) (by decide)) h.c s hs
  | ifs cs b =>
    intro s hs
    rcases List.mem_cons.mp hs with e | hs
    · rw [e]; exact lit_pw (by decide) (by decide)
    · rcases List.mem_append.mp hs with hs | hs
      · exact wv_pw (lit_pw (by decide) (by decide)) h.1.c s hs
      · rcases List.mem_cons.mp hs with e | hs
        · rw [e]; exact lit_pw (by decide) (by decide)
        · exact bas_pw h.2 s hs
  | at_ m i cs =>
    intro s hs
    simp only [Frm.ws, List.mem_cons] at hs
    rcases hs with e | e | e | e | hs
    · rw [e]; exact lit_pw (by decide) (by decide)
    · rw [e]; cases m <;> exact lit_pw (by decide) (by decide)
    · rw [e]; exact num_pw i
    · rw [e]; exact lit_pw (by decide) (by decide)
    · exact wv_pw (lit_pw (by decide) (by decide)) h.2.c s hs
theorem lin_pw {l : Lin} (h : l.Ok) : ∀ s ∈ l.ws, PW s := by
  intro s hs
  cases l with
  | fin_ => simp only [Lin.ws, List.mem_cons, List.not_mem_nil, or_false] at hs; rw [hs]; exact lit_pw (by decide) (by decide)
  | close w =>
    simp only [Lin.ws, List.mem_cons, List.not_mem_nil, or_false] at hs
    rcases hs with e | e <;> rw [e]
    · exact lit_pw (by decide) (by decide)
    · exact IsW.pw h
  | name w a b =>
    simp only [Lin.ws, List.mem_cons, List.not_mem_nil, or_false] at hs
    rcases hs with e | e | e | e <;> rw [e]
    · exact lit_pw (by decide) (by decide)
    · exact h.1.pw
    · exact num_pw a
    · exact num_pw b
  | frm m w f =>
    simp only [Lin.ws, List.mem_cons] at hs
    rcases hs with e | e | e | hs
    · rw [e]; cases m <;> exact lit_pw (by decide) (by decide)
    · rw [e]; exact h.1.pw
    · rw [e]; exact lit_pw (by decide) (by decide)
    · exact frm_pw h.2 s hs
  | use m w v ws =>
    simp only [Lin.ws, List.mem_cons] at hs
    rcases hs with e | e | e | e | hs
    · rw [e]; cases m <;> exact lit_pw (by decide) (by decide)
    · rw [e]; exact h.1.pw
    · rw [e]; exact lit_pw (by decide) (by decide)
    · rw [e]; exact h.2.1.pw
    · exact (h.2.2.w s hs).pw
  | block w ws =>
    simp only [Lin.ws, List.mem_cons] at hs
    rcases hs with e | e | e | hs
    · rw [e]; exact lit_pw (by decide) (by decide)
    · rw [e]; exact h.1.pw
    · rw [e]; exact lit_pw (by decide) (by decide)
    · exact (h.2.w s hs).pw
/-! ### words with blanks between -/
theorem sig_ne {c : Nat} (h : Sig c) : c ≠ 32 ∧ c ≠ 10 := by unfold Sig at h; omega
structure Txt1 (L : List Nat) : Prop where
  hd : ∃ c r, L = c :: r ∧ Sig c
  la : ∃ c r, L = r ++ [c] ∧ Sig c
  al : ∀ c ∈ L, Sig c ∨ c = 32
  nd : ∀ i, (L.drop i).take 2 ≠ [32, 32]
theorem nd_app {p q : List Nat} (hp : ∀ c ∈ p, c ≠ 32) (hq : ∀ i, (q.drop i).take 2 ≠ [32, 32]) (hh : ∃ c r, q = c :: r ∧ c ≠ 32) : ∀ i, ((p ++ 32 :: q).drop i).take 2 ≠ [32, 32] := by
  induction p with
  | nil =>
    intro i
    cases i with
    | zero =>
      obtain ⟨c, r, rfl, hc⟩ := hh
      simp [hc]
    | succ i => simpa using hq i
  | cons a p ih =>
    intro i
    cases i with
    | zero =>
      have := hp a List.mem_cons_self
      cases p <;> simp [this]
    | succ i => simpa using ih (fun c m => hp c (List.mem_cons_of_mem _ m)) i
theorem nd_free {p : List Nat} (hp : ∀ c ∈ p, c ≠ 32) : ∀ i, (p.drop i).take 2 ≠ [32, 32] := fun i h => by
  have : 32 ∈ (p.drop i).take 2 := by rw [h]; simp
  exact hp 32 (List.mem_of_mem_drop (List.mem_of_mem_take this)) rfl
theorem txt1 : ∀ {ss : List Str}, ss ≠ [] → (∀ s ∈ ss, PW s) → Txt1 (TL.joinL [32] (ss.map TL.tl))
  | [], h, _ => absurd rfl h
  | [s], _, h => by
    have hs := h s List.mem_cons_self
    have e : TL.joinL [32] (([s] : List Str).map TL.tl) = TL.tl s := rfl
    rw [e]
    have ne := hs.ne
    refine ⟨?_, ?_, fun c m => .inl (hs.al c m), nd_free fun c m => (sig_ne (hs.al c m)).1⟩
    · cases q : TL.tl s with
      | nil => exact absurd q ne
      | cons c r => exact ⟨c, r, rfl, hs.al c (by rw [q]; exact List.mem_cons_self)⟩
    · exact ⟨(TL.tl s).getLast ne, (TL.tl s).dropLast, (List.dropLast_concat_getLast ne).symm, hs.al _ (List.getLast_mem ne)⟩
  | s :: s2 :: ss, _, h => by
    have hs := h s List.mem_cons_self
    have ih := txt1 (ss := s2 :: ss) (by simp) fun x m => h x (List.mem_cons_of_mem _ m)
    have e : TL.joinL [32] ((s :: s2 :: ss).map TL.tl) = TL.tl s ++ 32 :: TL.joinL [32] ((s2 :: ss).map TL.tl) := by
      simp [TL.joinL]
    rw [e]
    have ne := hs.ne
    refine ⟨?_, ?_, ?_, nd_app (fun c m => (sig_ne (hs.al c m)).1) ih.nd ?_⟩
    · cases q : TL.tl s with
      | nil => exact absurd q ne
      | cons c r => exact ⟨c, _, rfl, hs.al c (by rw [q]; exact List.mem_cons_self)⟩
    · obtain ⟨c, r, e, hc⟩ := ih.la
      exact ⟨c, TL.tl s ++ 32 :: r, by rw [e]; simp, hc⟩
    · intro c hc
      rcases List.mem_append.mp hc with hc | hc
      · exact .inl (hs.al c hc)
      · rcases List.mem_cons.mp hc with hc | hc
        · exact .inr hc
        · exact ih.al c hc
    · obtain ⟨c, r, e, hc⟩ := ih.hd
      exact ⟨c, r, e, (sig_ne hc).1⟩
def Lin.t (l : Lin) : Str := Str.join " " l.ws
theorem lin_ne (l : Lin) : l.ws ≠ [] := by cases l <;> simp [Lin.ws]
theorem lin_txt {l : Lin} (h : l.Ok) : Txt1 (TL.tl l.t) := by
  have := txt1 (lin_ne l) (lin_pw h)
  unfold Lin.t
  rw [TL.tl_join]
  exact this
theorem strip_same {x : Str} (h : Txt1 (TL.tl x)) : Txt.stripChars x " " = x := by
  obtain ⟨c, r, e, hc⟩ := h.hd
  obtain ⟨c2, r2, e2, hc2⟩ := h.la
  have g : ∀ c, Sig c → ((" " : Str).cps.contains c) = false := fun c h => by
    have := (sig_ne h).1
    show (Array.contains #[32] c) = false
    simp [Array.contains, Array.elem]
    omega
  have e' : x.cps.toList = c :: r := e
  have e2' : x.cps.toList = r2 ++ [c2] := e2
  have l0 : stripLo (" " : Str).cps.contains true x = 0 := by
    simp only [stripLo, if_true, e', List.takeWhile_cons, g c hc]
    rfl
  unfold Txt.stripChars Txt.stripBy
  rw [if_pos]
  unfold stripSame
  rw [l0]
  have h0 : stripHi (" " : Str).cps.contains true x 0 = x.length := by
    simp only [stripHi, if_true, List.drop_zero, e2', List.reverse_append, List.reverse_cons, List.reverse_nil, List.nil_append, List.singleton_append, List.takeWhile_cons, g c2 hc2]
    rfl
  rw [h0]
  simp
theorem no_dbl {x : Str} (h : Txt1 (TL.tl x)) {M : Mem} : pr .in_ M [.str "  ", .str x] = some (.bl false, M) := by
  have e : inB M [.str "  ", .str x] = some (!(Builtin.Str.occurrences x "  " 0 x.length 1).isEmpty) := rfl
  have o : Builtin.Str.occurrences x "  " 0 x.length 1 = [] := by
    refine PySem.W.occ_nil_of_no _ _ 1 fun i _ => ?_
    rw [StrLaws.subAt_eq]
    have := h.nd i
    rw [beq_eq_false_iff_ne]
    exact this
  rw [o] at e
  show prIn M [.str "  ", .str x] = _
  unfold prIn
  rw [e]; rfl
theorem line_sign {c : Nat} (h : Sig c ∨ c = 32) : c ∈ ("abcdefghijklmnopqrstuvwxyz0123456789 :+<>=,-" : Str).cps.toList := by
  have e : ("abcdefghijklmnopqrstuvwxyz0123456789 :+<>=,-" : Str).cps.toList = (List.range 26).map (· + 97) ++ (List.range 10).map (· + 48) ++ [32, 58, 43, 60, 62, 61, 44, 45] := by decide
  rw [e]
  simp only [List.mem_append, List.mem_map, List.mem_range, List.mem_cons, List.not_mem_nil, or_false]
  unfold Sig at h
  rcases h with (h | h | h) | h
  · exact .inl (.inl ⟨c - 97, by omega, by omega⟩)
  · exact .inl (.inr ⟨c - 48, by omega, by omega⟩)
  · right; omega
  · right; omega
theorem lt256_sp : (" " : Str).cps.all (· < 256) = true := by
  rw [← Array.all_toList]
  rfl
theorem run_read_line {n : Nat} {M : Mem} {l : Lin} {k : Int} (h : l.Ok) (hl : l.t.length ≤ 800) : DP.run fs (n + 6) i_read_line [.str l.t, .int k] M = .ok l.d M := by
  have T := lin_txt h
  have hsz : l.t.length ≤ sizeLine := by simp [sizeLine]; omega
  have h1 : pr .strip M [.str l.t, .str " "] = some (.str l.t, M) := by
    have : pr .strip M [.str l.t, .str " "] = some (.str (Txt.stripChars l.t " "), M) := if_pos hsz
    rw [this, strip_same T]
  obtain ⟨c, r, e, hc⟩ := T.hd
  obtain ⟨c2, r2, e2, hc2⟩ := T.la
  have hok : PyData.strOk l.t = true := strOk_of fun c m => by
    rcases T.al c m with q | q
    · unfold Sig at q; omega
    · omega
  have h2 : pr .eq M [.str l.t, .str ""] = some (.bl false, M) := by rw [eq_empty hok, e]; simp
  have h3 := no_dbl T (M := M)
  have h4 : pr .idx M [.str l.t, .int 0] = some (.str ⟨#[c]⟩, M) := pr_idx_str hsz (by
    rw [atI_0]; show (TL.tl l.t)[0]? = _; rw [e]; rfl)
  have h5 : pr .idx M [.str l.t, .int (-1)] = some (.str ⟨#[c2]⟩, M) := pr_idx_str hsz (by
    show atI (TL.tl l.t) (-1) = _; rw [e2]; exact atI_last)
  have sp : ∀ c, Sig c → pr .eq M [.str ⟨#[c]⟩, .str " "] = some (.bl false, M) := fun c h => by
    rw [pr_eq_str (strOk_of fun x hx => by
      rw [show TL.tl ⟨#[c]⟩ = [c] from rfl] at hx
      rw [List.mem_singleton.mp hx]; unfold Sig at h; omega) (strOk_lit rfl), decide_eq_false]
    intro q
    have := congrArg TL.tl q
    rw [TL.tl_ofString] at this
    have : c = 32 := by injection this
    exact (sig_ne h).1 this
  have h6 := sp c hc
  have h7 := sp c2 hc2
  have h8 : pr .split M [.str l.t, .str " "] = some (.list (l.ws.map .str), M) := by
    have : pr .split M [.str l.t, .str " "] = some (.list ((Txt.split l.t " ").map .str), M) := if_pos ⟨rfl, by simp [sizeLine]; omega⟩
    rw [this]
    have := TL.split_join (y := " ") (s := 32) (S := []) rfl lt256_sp (lin_ne l) (fun p hp hm => (sig_ne ((lin_pw h p hp).al _ hm)).1 rfl)
    rw [TL.join_eq] at this
    rw [show Txt.split l.t " " = l.ws from this]
  have h9 := run_line_of (n := n) (M := M) h
  have h10 : ∃ a, l.ws[0]? = some a ∧ pr .notIn M [.str a, .tup [(.str "name"), (.str "row"), (.str "must"), (.str "use"), (.str "mustuse"), (.str "block"), (.str "end"), (.str "close")]] = some (.bl false, M) := by
    have q : ∀ a, a ∈ ["name", "row", "must", "use", "mustuse", "block", "end", "close"] → (a.toList.all fun c => decide (c.toNat < 1000)) = true → pr .notIn M [.str a, .tup [(.str "name"), (.str "row"), (.str "must"), (.str "use"), (.str "mustuse"), (.str "block"), (.str "end"), (.str "close")]] = some (.bl false, M) := fun a h hq => by
      have := lit_notIn (M := M) a ["name", "row", "must", "use", "mustuse", "block", "end", "close"] hq (by simp)
      rw [decide_eq_true h] at this
      exact this
    cases l with
    | fin_ => exact ⟨_, rfl, q "end" (by simp) rfl⟩
    | close w => exact ⟨_, rfl, q "close" (by simp) rfl⟩
    | name w a b => exact ⟨_, rfl, q "name" (by simp) rfl⟩
    | frm m w f => exact ⟨_, rfl, by cases m; exact q "row" (by simp) rfl; exact q "must" (by simp) rfl⟩
    | use m w v ws => exact ⟨_, rfl, by cases m; exact q "use" (by simp) rfl; exact q "mustuse" (by simp) rfl⟩
    | block w ws => exact ⟨_, rfl, q "block" (by simp) rfl⟩
  obtain ⟨a, ha, h10⟩ := h10
  rw [run_at (d := ⟨2, 5, b_read_line⟩) rfl rfl]
  have c1 : compLoop (.items (l.t.cps.toList.map fun c => .str ⟨#[c]⟩)) (compF (DP.run fs (n + 5)) [2] (.nm 2) (.pr .in_ [(.v 2), (.c (.str "abcdefghijklmnopqrstuvwxyz0123456789 :+<>=,-"))]) [some (.str l.t), some (.int k), none, none, none]) (l.t.cps.toList.map fun c => .str ⟨#[c]⟩) M = .ok (l.t.cps.toList.map fun _ => .bl true) M := by
    refine compLoop_on (fun c => D.str ⟨#[c]⟩) (fun _ => .bl true) _ fun c m => ?_
    have := line_sign (T.al c m)
    simp [compF, this]
  have hall : pr .all M [.list (l.t.cps.toList.map fun _ => .bl true)] = some (.bl true, M) := pr_all (by simp)
  have hsz2 : l.t.cps.size ≤ sizeLine := hsz
  simp [b_read_line, h1, h2, h3, h4, h5, h6, h7, h8, h9, ha, h10, c1, hall, hsz2, lin_isN]
end K01

/-! a line's text -/
namespace K01
open PySem PySem.Spec PyProof.Rows L2 DP
def badT (k : Int) (what : Str) : Exn := ⟨0, [("what", .str what), ("line", .int k)]⟩
theorem contains_sp (c : Nat) : (" " : Str).cps.contains c = decide (c = 32) := by
  show (Array.contains #[32] c) = _
  simp [Array.contains, Array.elem]
  rfl
theorem tw_all {p : Nat → Bool} : ∀ {l : List Nat}, (∀ c ∈ l, p c = true) → l.takeWhile p = l
  | [], _ => rfl
  | c :: l, h => by rw [List.takeWhile_cons, h c List.mem_cons_self, if_pos rfl, tw_all fun x m => h x (List.mem_cons_of_mem _ m)]
/-- strip(" ") is empty exactly of blanks alone -/
theorem strip_nil {x : Str} : TL.tl (Txt.stripChars x " ") = [] ↔ ∀ c ∈ TL.tl x, c = 32 := by
  have hp : ∀ c, (" " : Str).cps.contains c = true ↔ c = 32 := fun c => by rw [contains_sp]; simp
  unfold Txt.stripChars Txt.stripBy
  generalize hg : (" " : Str).cps.contains = p at *
  have hlo : stripLo p true x = ((TL.tl x).takeWhile p).length := rfl
  have hdr : (TL.tl x).drop ((TL.tl x).takeWhile p).length = (TL.tl x).dropWhile p := by
    conv => lhs; arg 2; rw [← List.takeWhile_append_dropWhile (p := p) (l := TL.tl x)]
    exact List.drop_left
  have hhi : stripHi p true x (stripLo p true x) = x.length - (((TL.tl x).dropWhile p).reverse.takeWhile p).length := by
    rw [hlo]
    show x.length - (((TL.tl x).drop ((TL.tl x).takeWhile p).length).reverse.takeWhile p).length = _
    rw [hdr]
  have hlen := TL.len_tl x
  have hsum : ((TL.tl x).takeWhile p).length + ((TL.tl x).dropWhile p).length = (TL.tl x).length := by
    rw [← List.length_append, List.takeWhile_append_dropWhile]
  constructor
  · intro h c hc
    cases hd : (TL.tl x).dropWhile p with
    | nil =>
      have : (TL.tl x).takeWhile p = TL.tl x := by
        have := List.takeWhile_append_dropWhile (p := p) (l := TL.tl x)
        rw [hd, List.append_nil] at this
        exact this
      rw [← this] at hc
      exact (hp c).mp (List.all_eq_true.mp List.all_takeWhile c hc)
    | cons d r =>
      exfalso
      have hd0 : p d = false := by
        have := List.head?_dropWhile_not p (TL.tl x)
        rw [hd] at this
        simpa using this
      have hlt : (((TL.tl x).dropWhile p).reverse.takeWhile p).length < ((TL.tl x).dropWhile p).length := by
        rcases Nat.lt_or_ge (((TL.tl x).dropWhile p).reverse.takeWhile p).length ((TL.tl x).dropWhile p).length with h | h
        · exact h
        · exfalso
          have e := (List.takeWhile_prefix p (l := ((TL.tl x).dropWhile p).reverse)).eq_of_length_le (by rw [List.length_reverse]; exact h)
          have := List.all_eq_true.mp (List.all_takeWhile (p := p) (l := ((TL.tl x).dropWhile p).reverse)) d (by rw [e, hd]; simp)
          rw [hd0] at this
          cases this
      split at h
      · rw [h] at hd
        simp at hd
      · unfold stripped at h
        rw [TL.tl_strSub, hhi, hlo, hdr] at h
        have := congrArg List.length h
        rw [List.length_take] at this
        rw [hd] at hlt this hsum
        simp only [List.length_cons, List.length_nil] at hlt this hsum
        omega
  · intro h
    have ht : (TL.tl x).takeWhile p = TL.tl x := by
      exact tw_all fun c hc => (hp c).mpr (h c hc)
    have hd : (TL.tl x).dropWhile p = [] := by
      have := List.takeWhile_append_dropWhile (p := p) (l := TL.tl x)
      rw [ht] at this
      exact List.append_right_eq_self.mp this
    split
    · rename_i q
      unfold stripSame at q
      rw [hlo, ht] at q
      simp only [Bool.and_eq_true, beq_iff_eq] at q
      exact List.length_eq_zero_iff.mp q.1
    · unfold stripped
      rw [TL.tl_strSub, hlo, hdr, hd]
      simp
def signB (c : Nat) : Bool := decide (c ∈ ("abcdefghijklmnopqrstuvwxyz0123456789 :+<>=,-" : Str).cps.toList)
/-- two blanks behind one another -/
def dblB (x : Str) : Bool := !(Builtin.Str.occurrences x "  " 0 x.length 1).isEmpty
theorem dblB_iff {x : Str} : dblB x = true ↔ ∃ i, ((TL.tl x).drop i).take 2 = [32, 32] := by
  unfold dblB
  rw [StrLaws.found_iff]
  have hl : ("  " : Str).length = 2 := rfl
  have hc : ("  " : Str).cps.toList = [32, 32] := rfl
  have hx := TL.len_tl x
  constructor
  · rintro ⟨i, _, h⟩
    rw [StrLaws.subAt_eq, hl, hc, beq_iff_eq] at h
    exact ⟨i, h⟩
  · rintro ⟨i, h⟩
    refine ⟨i, ?_, ?_⟩
    · have := congrArg List.length h
      rw [List.length_take, List.length_drop] at this
      simp only [List.length_cons, List.length_nil] at this
      rw [hl]; omega
    · rw [StrLaws.subAt_eq, hl, hc, beq_iff_eq]
      exact h
theorem run_pre {n : Nat} {M : Mem} {x : Str} (h1 : ∀ c ∈ TL.tl x, c < 1000) (hl : x.length ≤ 1000) :
    pr .eq M [.str (Txt.stripChars x " "), .str ""] = some (.bl (decide (∀ c ∈ TL.tl x, c = 32)), M) := by
  have hok : PyData.strOk (Txt.stripChars x " ") = true := strOk_of fun c hc => by
    refine h1 c ?_
    unfold Txt.stripChars Txt.stripBy at hc
    split at hc
    · exact hc
    · unfold stripped at hc
      rw [TL.tl_strSub] at hc
      exact List.mem_of_mem_drop (List.mem_of_mem_take hc)
  rw [eq_empty hok]
  congr 2
  rw [D.bl.injEq, decide_eq_decide]
  exact strip_nil
/-- a line's text: what is told -/
inductive Told where
  | bad (what : Str) | ok (l : Lin)
def Told.res (k : Int) (M : Mem) : Told → Res D
  | .bad w => .exc (badT k w) M
  | .ok l => .ok l.d M
/-- the words of a line -/
noncomputable def readW (ws : List Str) : Told := match ws with
  | [] => .bad "word"
  | k :: r => if k ∈ LW then (match lineOf (k :: r) with
      | some l => .ok l
      | none => .bad "form") else .bad "word"
theorem sign_comp {C : Nat → List D → Mem → Res D} {x : Str} {M : Mem} (a b c d e : Option D) : compLoop (.items (x.cps.toList.map fun c => .str ⟨#[c]⟩)) (compF C [2] (.nm 2) (.pr .in_ [(.v 2), (.c (.str "abcdefghijklmnopqrstuvwxyz0123456789 :+<>=,-"))]) [a, b, c, d, e]) (x.cps.toList.map fun c => .str ⟨#[c]⟩) M = .ok (x.cps.toList.map fun c => .bl (signB c)) M := by
  refine compLoop_on (fun c => D.str ⟨#[c]⟩) (fun c => .bl (signB c)) _ fun c m => ?_
  simp [compF, signB]
theorem run_rl_empty {n : Nat} {M : Mem} {x : Str} {k : Int} (h1 : ∀ c ∈ TL.tl x, c = 32) (hl : x.length ≤ 1000) : DP.run fs (n + 6) i_read_line [.str x, .int k] M = .exc (badT k "empty") M := by
  have hsz : x.length ≤ sizeLine := by simp [sizeLine]; omega
  have hp := run_pre (n := n) (M := M) (x := x) (fun c hc => by rw [h1 c hc]; omega) hl
  rw [decide_eq_true h1] at hp
  have hs : pr .strip M [.str x, .str " "] = some (.str (Txt.stripChars x " "), M) := if_pos hsz
  rw [run_at (d := ⟨2, 5, b_read_line⟩) rfl rfl]
  simp [b_read_line, hs, hp, exnOf, badT]
/-- a fault of signs -/
structure SignBad (x : Str) : Prop where
  s : ∀ c ∈ TL.tl x, c < 1000
  ne : ∃ c ∈ TL.tl x, c ≠ 32
  bad : (∃ c ∈ TL.tl x, signB c = false) ∨ dblB x = true ∨ (∃ r, TL.tl x = 32 :: r) ∨ ∃ r, TL.tl x = r ++ [32]
theorem run_rl_sign {n : Nat} {M : Mem} {x : Str} {k : Int} (h : SignBad x) (hl : x.length ≤ 1000) : DP.run fs (n + 6) i_read_line [.str x, .int k] M = .exc (badT k "sign") M := by
  have hsz : x.length ≤ sizeLine := by simp [sizeLine]; omega
  have hsz2 : x.cps.size ≤ sizeLine := hsz
  have hp := run_pre (n := n) (M := M) h.s hl
  have hq : ¬ ∀ c ∈ TL.tl x, c = 32 := fun q => by
    obtain ⟨c, hc, hn⟩ := h.ne
    exact hn (q c hc)
  rw [decide_eq_false hq] at hp
  have hs : pr .strip M [.str x, .str " "] = some (.str (Txt.stripChars x " "), M) := if_pos hsz
  have ha := pr_all_bl (M := M) (p := signB) (xs := x.cps.toList)
  have hd : pr .in_ M [.str "  ", .str x] = some (.bl (dblB x), M) := rfl
  rw [run_at (d := ⟨2, 5, b_read_line⟩) rfl rfl]
  have c1 := sign_comp (C := DP.run fs (n + 5)) (x := x) (M := M) (some (.str x)) (some (.int k)) none none none
  cases hall : x.cps.toList.all signB with
  | false =>
    rw [hall] at ha
    simp [b_read_line, hs, hp, c1, hsz2, ha, exnOf, badT]
  | true =>
    rw [hall] at ha
    have hall' := List.all_eq_true.mp hall
    cases hdd : dblB x with
    | true =>
      rw [hdd] at hd
      simp [b_read_line, hs, hp, c1, hsz2, ha, hd, exnOf, badT]
    | false =>
      rw [hdd] at hd
      have h32 : pr .eq M [.str ⟨#[32]⟩, .str " "] = some (.bl true, M) := by
        rw [show (⟨#[32]⟩ : Str) = Str.ofString " " from TL.ext_tl rfl]
        exact eq_lit rfl rfl
      have ec : ∀ c, c < 1000 → pr .eq M [.str ⟨#[c]⟩, .str " "] = some (.bl (decide (c = 32)), M) := fun c hc => by
        rw [pr_eq_str (strOk_of fun y hy => by
          rw [show TL.tl ⟨#[c]⟩ = [c] from rfl] at hy
          rw [List.mem_singleton.mp hy]; exact hc) (strOk_lit rfl)]
        congr 2
        rw [D.bl.injEq, decide_eq_decide]
        constructor
        · intro q
          have := congrArg TL.tl q
          rw [TL.tl_ofString] at this
          injection this
        · rintro rfl
          exact TL.ext_tl rfl
      rcases h.bad with ⟨c, hc, hf⟩ | hb | ⟨r, hr⟩ | ⟨r, hr⟩
      · rw [hall' c hc] at hf; cases hf
      · rw [hdd] at hb; cases hb
      · have h4 : pr .idx M [.str x, .int 0] = some (.str ⟨#[32]⟩, M) := pr_idx_str hsz (by
          rw [atI_0]; show (TL.tl x)[0]? = _; rw [hr]; rfl)
        simp [b_read_line, hs, hp, c1, hsz2, ha, hd, h4, h32, exnOf, badT]
      · obtain ⟨c0, r0, h0⟩ : ∃ c0 r0, TL.tl x = c0 :: r0 := by
          cases r with
          | nil => exact ⟨32, [], hr⟩
          | cons a r => exact ⟨a, r ++ [32], by rw [hr]; rfl⟩
        have h4 : pr .idx M [.str x, .int 0] = some (.str ⟨#[c0]⟩, M) := pr_idx_str hsz (by
          rw [atI_0]; show (TL.tl x)[0]? = _; rw [h0]; rfl)
        have h5 : pr .idx M [.str x, .int (-1)] = some (.str ⟨#[32]⟩, M) := pr_idx_str hsz (by
          show atI (TL.tl x) (-1) = _; rw [hr]; exact atI_last)
        have e0 := ec c0 (h.s c0 (by rw [h0]; exact List.mem_cons_self))
        by_cases q : c0 = 32
        · rw [decide_eq_true q] at e0
          simp [b_read_line, hs, hp, c1, hsz2, ha, hd, h4, e0, exnOf, badT]
        · rw [decide_eq_false q] at e0
          simp [b_read_line, hs, hp, c1, hsz2, ha, hd, h4, e0, h5, h32, exnOf, badT]
theorem PW.wd {w : Str} (h : PW w) (hl : w.length ≤ 1000) : Wd w := ⟨fun c hc => by
  have := h.al c hc
  unfold Sig at this; omega, hl⟩
theorem join_mem_len {ws : List Str} {w : Str} (h : w ∈ ws) : w.length ≤ (Str.join " " ws).length := by
  rw [TL.len_tl, TL.len_tl (Str.join " " ws), TL.tl_join]
  induction ws with
  | nil => cases h
  | cons a ws ih =>
    cases ws with
    | nil =>
      rw [List.mem_singleton.mp h]
      exact Nat.le_refl _
    | cons b ws =>
      have e : TL.joinL (TL.tl " ") ((a :: b :: ws).map TL.tl) = TL.tl a ++ (TL.tl " " ++ TL.joinL (TL.tl " ") ((b :: ws).map TL.tl)) := by simp [TL.joinL]
      rw [e, List.length_append, List.length_append]
      rcases List.mem_cons.mp h with q | q
      · rw [q]; omega
      · have := ih q; omega
theorem join_count {ws : List Str} (h : ∀ w ∈ ws, PW w) : ws.length ≤ (Str.join " " ws).length + 1 := by
  rw [TL.len_tl, TL.tl_join]
  induction ws with
  | nil => simp
  | cons a ws ih =>
    cases ws with
    | nil => simp
    | cons b ws =>
      have e : TL.joinL (TL.tl " ") ((a :: b :: ws).map TL.tl) = TL.tl a ++ (TL.tl " " ++ TL.joinL (TL.tl " ") ((b :: ws).map TL.tl)) := by simp [TL.joinL]
      have := ih fun w m => h w (List.mem_cons_of_mem _ m)
      rw [e, List.length_append, List.length_append, List.length_cons]
      have h1 : (TL.tl (" " : Str)).length = 1 := rfl
      omega
theorem run_rl_words {n : Nat} {M : Mem} {ws : List Str} {k : Int} (hne : ws ≠ []) (hw : ∀ w ∈ ws, PW w) (hl : (Str.join " " ws).length ≤ 800) : DP.run fs (n + 6) i_read_line [.str (Str.join " " ws), .int k] M = (readW ws).res k M := by
  have T := txt1 hne hw
  have hT : TL.tl (Str.join " " ws) = TL.joinL [32] (ws.map TL.tl) := TL.tl_join " " ws
  rw [← hT] at T
  have hwd : ∀ w ∈ ws, Wd w := fun w m => (hw w m).wd (by have := join_mem_len m; omega)
  have hcnt := join_count hw
  have h8 : Txt.split (Str.join " " ws) " " = ws := by
    have := TL.split_join (y := " ") (s := 32) (S := []) rfl lt256_sp hne (fun p hp hm => (sig_ne ((hw p hp).al _ hm)).1 rfl)
    rw [TL.join_eq] at this
    exact this
  generalize Str.join " " ws = x at *
  have hsz : x.length ≤ sizeLine := by simp [sizeLine]; omega
  have hsz2 : x.cps.size ≤ sizeLine := hsz
  have h1 : pr .strip M [.str x, .str " "] = some (.str x, M) := by
    have : pr .strip M [.str x, .str " "] = some (.str (Txt.stripChars x " "), M) := if_pos hsz
    rw [this, strip_same T]
  obtain ⟨c, r, e, hc⟩ := T.hd
  obtain ⟨c2, r2, e2, hc2⟩ := T.la
  have hok : PyData.strOk x = true := strOk_of fun c m => by
    rcases T.al c m with q | q
    · unfold Sig at q; omega
    · omega
  have h2 : pr .eq M [.str x, .str ""] = some (.bl false, M) := by rw [eq_empty hok, e]; simp
  have h3 := no_dbl T (M := M)
  have h4 : pr .idx M [.str x, .int 0] = some (.str ⟨#[c]⟩, M) := pr_idx_str hsz (by
    rw [atI_0]; show (TL.tl x)[0]? = _; rw [e]; rfl)
  have h5 : pr .idx M [.str x, .int (-1)] = some (.str ⟨#[c2]⟩, M) := pr_idx_str hsz (by
    show atI (TL.tl x) (-1) = _; rw [e2]; exact atI_last)
  have sp : ∀ c, Sig c → pr .eq M [.str ⟨#[c]⟩, .str " "] = some (.bl false, M) := fun c h => by
    rw [pr_eq_str (strOk_of fun x hx => by
      rw [show TL.tl ⟨#[c]⟩ = [c] from rfl] at hx
      rw [List.mem_singleton.mp hx]; unfold Sig at h; omega) (strOk_lit rfl), decide_eq_false]
    intro q
    have := congrArg TL.tl q
    rw [TL.tl_ofString] at this
    have : c = 32 := by injection this
    exact (sig_ne h).1 this
  have h6 := sp c hc
  have h7 := sp c2 hc2
  have h8' : pr .split M [.str x, .str " "] = some (.list (ws.map .str), M) := by
    have : pr .split M [.str x, .str " "] = some (.list ((Txt.split x " ").map .str), M) := if_pos ⟨rfl, by simp [sizeLine]; omega⟩
    rw [this, h8]
  have c1 := sign_comp (C := DP.run fs (n + 5)) (x := x) (M := M) (some (.str x)) (some (.int k)) none none none
  have ha := pr_all_bl (M := M) (p := signB) (xs := x.cps.toList)
  have hall : x.cps.toList.all signB = true := List.all_eq_true.mpr fun c m => decide_eq_true (line_sign (T.al c m))
  rw [hall] at ha
  cases ws with
  | nil => exact absurd rfl hne
  | cons w r =>
    have hin : pr .notIn M [.str w, .tup [(.str "name"), (.str "row"), (.str "must"), (.str "use"), (.str "mustuse"), (.str "block"), (.str "end"), (.str "close")]] = some (.bl (!decide (w ∈ LW)), M) := notIn_strs (ss := LW) (hwd w (by simp)).ok LW_ok
    rw [run_at (d := ⟨2, 5, b_read_line⟩) rfl rfl]
    by_cases hk : w ∈ LW
    · rw [decide_eq_true hk] at hin
      have h9 := run_lineB (n := n) (M := M) (k := w) (r := r) hk (fun x m => hwd x (List.mem_cons_of_mem _ m)) (by simp at hcnt; omega)
      simp only [List.map_cons] at h9 h8'
      simp only [readW, if_pos hk]
      cases hf : lineOf (w :: r) with
      | none =>
        rw [hf] at h9
        simp [b_read_line, h1, h2, h3, h4, h5, h6, h7, h8', c1, hsz2, ha, hin, h9, oD_none, exnOf, badT, Told.res]
      | some l =>
        rw [hf] at h9
        simp [b_read_line, h1, h2, h3, h4, h5, h6, h7, h8', c1, hsz2, ha, hin, h9, oD_some, lin_isN, Told.res]
    · rw [decide_eq_false hk] at hin
      simp only [List.map_cons] at h8'
      simp only [readW, if_neg hk]
      simp [b_read_line, h1, h2, h3, h4, h5, h6, h7, h8', c1, hsz2, ha, hin, exnOf, badT, Told.res]
end K01

namespace K01
open PySem PySem.Spec PyProof.Rows L2 DP
structure LsOk (ls : List Lin) : Prop where
  l : ∀ l ∈ ls, l.Ok
  t : ∀ l ∈ ls, l.t.length ≤ 800
  lo : 1 ≤ ls.length
  hi : ls.length ≤ 600
def textOf (ls : List Lin) : Str := Str.join "\n" (ls.map Lin.t)
theorem joinL_len {k : Nat} : ∀ {ps : List (List Nat)}, (∀ p ∈ ps, p.length ≤ k) → (TL.joinL [10] ps).length ≤ ps.length * (k + 1)
  | [], _ => by simp [TL.joinL]
  | [p], h => by have := h p List.mem_cons_self; simp [TL.joinL]; omega
  | p :: q :: r, h => by
    have h1 := h p List.mem_cons_self
    have h2 := joinL_len (ps := q :: r) fun x m => h x (List.mem_cons_of_mem _ m)
    simp only [TL.joinL, List.length_append, List.length_cons, List.length_nil, Nat.add_mul] at h2 ⊢
    omega
theorem text_len {ls : List Lin} (h : LsOk ls) : (textOf ls).length ≤ 480600 := by
  unfold textOf
  rw [TL.len_tl, TL.tl_join]
  have := joinL_len (k := 800) (ps := (ls.map Lin.t).map TL.tl) (by
    intro p hp
    obtain ⟨s, hs, rfl⟩ := List.mem_map.mp hp
    obtain ⟨l, hl, rfl⟩ := List.mem_map.mp hs
    rw [← TL.len_tl]; exact h.t l hl)
  have e : TL.tl ("\n" : Str) = [10] := rfl
  rw [e]
  have hi := h.hi
  simp only [List.length_map] at this
  omega
theorem join_last : ∀ {ss : List Str}, ss ≠ [] → (∀ s ∈ ss, Txt1 (TL.tl s)) → (∃ c r, TL.joinL [10] (ss.map TL.tl) = r ++ [c] ∧ c ≠ 10)
  | [], h, _ => absurd rfl h
  | [s], _, h => by
    obtain ⟨c, r, e, hc⟩ := (h s List.mem_cons_self).la
    exact ⟨c, r, e, (sig_ne hc).2⟩
  | s :: s2 :: ss, _, h => by
    obtain ⟨c, r, e, hc⟩ := join_last (ss := s2 :: ss) (by simp) fun x m => h x (List.mem_cons_of_mem _ m)
    have q : TL.joinL [10] ((s :: s2 :: ss).map TL.tl) = TL.tl s ++ ([10] ++ TL.joinL [10] ((s2 :: ss).map TL.tl)) := rfl
    exact ⟨c, TL.tl s ++ ([10] ++ r), by rw [q, e]; simp, hc⟩
theorem text_last {ls : List Lin} (h : LsOk ls) : ∃ c r, TL.tl (textOf ls) = r ++ [c] ∧ c ≠ 10 := by
  unfold textOf
  rw [TL.tl_join]
  refine join_last (by
    have := h.lo
    cases ls with
    | nil => simp at this
    | cons => simp) fun s hs => ?_
  obtain ⟨l, hl, rfl⟩ := List.mem_map.mp hs
  exact lin_txt (h.l l hl)
theorem rmsuf_no {x : Str} (h : ∃ c r, TL.tl x = r ++ [c] ∧ c ≠ 10) : Txt.removesuffix x "\n" = x := by
  obtain ⟨c, r, e, hc⟩ := h
  have e' : x.cps.toList = r ++ [c] := e
  have el : x.length = r.length + 1 := by rw [TL.len_tl, e]; simp
  rw [StrLaws.removesuffix_eq, StrLaws.subAt_eq, e', el]
  have e1 : ("\n" : Str).length = 1 := rfl
  have e2 : ("\n" : Str).cps.toList = [10] := rfl
  rw [e1, e2, if_neg]
  simp [hc]
theorem rmsuf_yes {x : Str} : Txt.removesuffix (x ++ "\n") "\n" = x := by
  have e : (x ++ ("\n" : Str)).cps.toList = TL.tl x ++ [10] := TL.tl_append x "\n"
  have el : (x ++ ("\n" : Str)).length = (TL.tl x).length + 1 := by rw [TL.len_tl]; rw [show TL.tl (x ++ ("\n" : Str)) = TL.tl x ++ [10] from e]; simp
  rw [StrLaws.removesuffix_eq, StrLaws.subAt_eq, e, el]
  have e1 : ("\n" : Str).length = 1 := rfl
  have e2 : ("\n" : Str).cps.toList = [10] := rfl
  rw [e1, e2, if_pos]
  · apply TL.ext_tl
    rw [TL.tl_mk]
    simp
  · simp
theorem lt256_nl : ("\n" : Str).cps.all (· < 256) = true := by
  rw [← Array.all_toList]
  rfl
theorem split_text {ls : List Lin} (h : LsOk ls) : Txt.split (textOf ls) "\n" = ls.map Lin.t := by
  have := TL.split_join (y := "\n") (s := 10) (S := []) rfl lt256_nl (parts := ls.map Lin.t) (by
    have := h.lo
    cases ls with
    | nil => simp at this
    | cons => simp) (fun p hp hm => by
      obtain ⟨l, hl, rfl⟩ := List.mem_map.mp hp
      rcases (lin_txt (h.l l hl)).al _ hm with q | q
      · exact (sig_ne q).2 rfl
      · omega)
  rw [TL.join_eq] at this
  exact this
theorem text_ok {ls : List Lin} (h : LsOk ls) : PyData.strOk (textOf ls) = true := strOk_of fun c hc => by
  have q : ∀ {ss : List Str}, (∀ s ∈ ss, ∀ c ∈ TL.tl s, c < 1000) → ∀ c ∈ TL.joinL [10] (ss.map TL.tl), c < 1000 := by
    intro ss
    induction ss with
    | nil => intro _ c hc; simp [TL.joinL] at hc
    | cons s ss ih =>
      intro h c hc
      cases ss with
      | nil => exact h s List.mem_cons_self c hc
      | cons s2 ss =>
        have e : TL.joinL [10] ((s :: s2 :: ss).map TL.tl) = TL.tl s ++ ([10] ++ TL.joinL [10] ((s2 :: ss).map TL.tl)) := rfl
        rw [e] at hc
        rcases List.mem_append.mp hc with hc | hc
        · exact h s List.mem_cons_self c hc
        · rcases List.mem_append.mp hc with hc | hc
          · rw [List.mem_singleton.mp hc]; omega
          · exact ih (fun x m => h x (List.mem_cons_of_mem _ m)) c hc
  unfold textOf at hc
  rw [TL.tl_join] at hc
  refine q (ss := ls.map Lin.t) ?_ c hc
  intro s hs c hc
  obtain ⟨l, hl, rfl⟩ := List.mem_map.mp hs
  rcases (lin_txt (h.l l hl)).al _ hc with q | q
  · unfold Sig at q; omega
  · omega
theorem run_text_lines {n : Nat} {M : Mem} {ls : List Lin} {x : Str} (h : LsOk ls) (hx : Txt.removesuffix x "\n" = textOf ls) (hl : x.length ≤ 480601) (h0 : TL.tl x ≠ []) (hok : PyData.strOk x = true) :
    DP.run fs (n + 1) i_text_lines [.str x, .int 600, .int 800] M = .ok (.list ((ls.map Lin.t).map .str)) M := by
  have hl2 := text_len h
  have h1 : pr .rmsuf M [.str x, .str "\n"] = some (.str (textOf ls), M) := by
    rw [← hx]; exact if_pos (by simp [sizeLine]; omega)
  have h2 : pr .split M [.str (textOf ls), .str "\n"] = some (.list ((ls.map Lin.t).map .str), M) := by
    rw [← split_text h]; exact if_pos ⟨rfl, by simp [sizeLine]; omega⟩
  have h3 : pr .eq M [.str x, .str ""] = some (.bl false, M) := by rw [eq_empty hok, decide_eq_false h0]
  have h4 : ¬ (600 : Int) < ls.length := by have := h.hi; omega
  rw [run_at (d := ⟨3, 5, b_text_lines⟩) rfl rfl]
  obtain ⟨env', hf, ⟨e, rfl⟩⟩ := for_nx2 (call := DP.run fs n) (M := M) (t := .nm 4) (k := .seq) (src := [(.v 3)]) (env := [some (.str x), some (.int 600), some (.int 800), some (.list ((ls.map Lin.t).map .str)), none])
      (body := [.ife (.pr .gt [(.pr .len [(.v 4)]), (.v 2)]) [.never] []]) (ds := [.list ((ls.map Lin.t).map .str)]) (fun env => ∃ e, env = [some (.str x), some (.int 600), some (.int 800), some (.list ((ls.map Lin.t).map .str)), e]) ⟨_, rfl⟩
      (by simp) walk_list (by
      rintro y hy env ⟨e, rfl⟩
      obtain ⟨s, hs, rfl⟩ := List.mem_map.mp hy
      obtain ⟨l, hl, rfl⟩ := List.mem_map.mp hs
      have h5 := h.t l hl
      have h6 : pr .len M [.str l.t] = some (.int l.t.length, M) := pr_len_str (by simp [sizeLine]; omega)
      have h7 : ¬ (800 : Int) < l.t.length := by omega
      refine ⟨_, [some (.str x), some (.int 600), some (.int 800), some (.list ((ls.map Lin.t).map .str)), some (.str l.t)], rfl, ?_, _, rfl⟩
      simp [h6, h7])
  simp at h2 hf
  simp [b_text_lines, h1, h2, h3, h4, hf]
theorem run_text_lines0 {n : Nat} {M : Mem} : DP.run fs (n + 1) i_text_lines [.str "", .int 600, .int 800] M = .ok (.list []) M := by
  have h3 := eq_lit (M := M) (a := "") (b := "") rfl rfl
  rw [run_at (d := ⟨3, 5, b_text_lines⟩) rfl rfl]
  simp [b_text_lines, h3]
theorem trim_loc {M M' : Mem} : trim M (.loc M.length) M' = M' := by
  unfold trim
  rw [if_neg]
  rintro ⟨h, _⟩
  simp [below] at h
abbrev rlB : List S := [.ex (.meth .append "list" (.v 1) [(.call i_read_line [(.v 3), (.pr .add [(.v 2), (.c (.int (1)))])])])]
theorem rl_step {n : Nat} {M : Mem} {a : Option D} {acc : List D} {k : Int} {l : Lin} (h : l.Ok) (hl : l.t.length ≤ 800) (hacc : acc.length < sizeLine) :
    DP.execs (DP.run fs (n + 6)) rlB [a, some (.loc M.length), some (.int k), some (.str l.t)] (M ++ [.lst acc]) = .done .nx [a, some (.loc M.length), some (.int k), some (.str l.t)] (M ++ [.lst (acc ++ [l.d])]) := by
  have hm : (M ++ [Cell.lst acc])[M.length]? = some (.lst acc) := by rw [List.getElem?_append_right (Nat.le_refl _)]; simp
  have h1 := run_read_line (n := n) (M := M ++ [.lst acc]) (k := k + 1) h hl
  have hty : (D.loc M.length).ty (M ++ [.lst acc]) = some "list" := ty_loc hm
  have h2 := append_loc (d := l.d) hm hacc
  simp [rlB, h1, hty, h2]
theorem rl_loop {n : Nat} {M : Mem} {a : Option D} {ys : List D} : ∀ (ls : List Lin) (k : Nat) (acc : List D) (b c : Option D), (∀ l ∈ ls, l.Ok) → (∀ l ∈ ls, l.t.length ≤ 800) → acc.length + ls.length ≤ 1000 →
    ∃ b' c', forLoop (.items ys) (fun x env2 M2 => match store env2 x (.tp [2, 3]) with
        | none => .bad
        | some env3 => DP.execs (DP.run fs (n + 6)) rlB env3 M2) (enumD k (ls.map (D.str ∘ Lin.t))) [a, some (.loc M.length), b, c] (M ++ [.lst acc]) = .done .nx [a, some (.loc M.length), b', c'] (M ++ [.lst (acc ++ ls.map Lin.d)])
  | [], k, acc, b, c, _, _, _ => ⟨b, c, by simp [enumD, forLoop, Walk.Ok]⟩
  | l :: ls, k, acc, b, c, h1, h2, h3 => by
    rw [List.length_cons] at h3
    obtain ⟨b', c', e⟩ := rl_loop (n := n) (M := M) (a := a) (ys := ys) ls (k + 1) (acc ++ [l.d]) (some (.int k)) (some (.str l.t)) (fun x m => h1 x (List.mem_cons_of_mem _ m)) (fun x m => h2 x (List.mem_cons_of_mem _ m)) (by simp; omega)
    refine ⟨b', c', ?_⟩
    have s := rl_step (n := n) (M := M) (a := a) (k := (k : Int)) (h1 l List.mem_cons_self) (h2 l List.mem_cons_self) (show acc.length < sizeLine by simp [sizeLine]; omega)
    rw [List.map_cons, enumD, forLoop, if_pos (by trivial)]
    have st : store [a, some (.loc M.length), b, c] (.tup [.int (k : Int), (D.str ∘ Lin.t) l]) (.tp [2, 3]) = some [a, some (.loc M.length), some (.int k), some (.str l.t)] := rfl
    simp only [st, s]
    rw [e]
    simp
end K01

/-! texts of lines -/
namespace K01
open PySem PySem.Spec PyProof.Rows L2 DP
structure TextOk (xs : List Str) : Prop where
  c : ∀ s ∈ xs, ∀ c ∈ TL.tl s, c < 1000 ∧ c ≠ 10
  t : ∀ s ∈ xs, s.length ≤ 800
  lo : 1 ≤ xs.length
  hi : xs.length ≤ 600
def joinN (xs : List Str) : Str := Str.join "\n" xs
theorem TextOk.len {xs : List Str} (h : TextOk xs) : (joinN xs).length ≤ 480600 := by
  unfold joinN
  rw [TL.len_tl, TL.tl_join]
  have := joinL_len (k := 800) (ps := xs.map TL.tl) (by
    intro p hp
    obtain ⟨s, hs, rfl⟩ := List.mem_map.mp hp
    rw [← TL.len_tl]; exact h.t s hs)
  have e : TL.tl ("\n" : Str) = [10] := rfl
  rw [e]
  have hi := h.hi
  simp only [List.length_map] at this
  omega
theorem TextOk.split {xs : List Str} (h : TextOk xs) : Txt.split (joinN xs) "\n" = xs := by
  have := TL.split_join (y := "\n") (s := 10) (S := []) rfl lt256_nl (parts := xs) (by
    have := h.lo
    cases xs with
    | nil => simp at this
    | cons => simp) (fun p hp hm => (h.c p hp _ hm).2 rfl)
  rw [TL.join_eq] at this
  exact this
theorem joinL_all {P : Nat → Prop} (h10 : P 10) : ∀ {ss : List Str}, (∀ s ∈ ss, ∀ c ∈ TL.tl s, P c) → ∀ c ∈ TL.joinL [10] (ss.map TL.tl), P c
  | [], _, c, hc => by simp [TL.joinL] at hc
  | [s], h, c, hc => h s List.mem_cons_self c hc
  | s :: s2 :: ss, h, c, hc => by
    have e : TL.joinL [10] ((s :: s2 :: ss).map TL.tl) = TL.tl s ++ ([10] ++ TL.joinL [10] ((s2 :: ss).map TL.tl)) := rfl
    rw [e] at hc
    rcases List.mem_append.mp hc with hc | hc
    · exact h s List.mem_cons_self c hc
    · rcases List.mem_append.mp hc with hc | hc
      · rw [List.mem_singleton.mp hc]; exact h10
      · exact joinL_all h10 (fun x m => h x (List.mem_cons_of_mem _ m)) c hc
theorem TextOk.ok {xs : List Str} (h : TextOk xs) : PyData.strOk (joinN xs) = true := strOk_of fun c hc => by
  unfold joinN at hc
  rw [TL.tl_join] at hc
  exact joinL_all (P := fun c => c < 1000) (by omega) (fun s hs c m => (h.c s hs c m).1) c hc
/-- the text, told with or without a last line feed -/
structure TextOf (xs : List Str) (x : Str) : Prop where
  rm : Txt.removesuffix x "\n" = joinN xs
  len : x.length ≤ 480601
  ne : TL.tl x ≠ []
  ok : PyData.strOk x = true
theorem textOf_nl {xs : List Str} (h : TextOk xs) : TextOf xs (joinN xs ++ "\n") := by
  have e : TL.tl (joinN xs ++ ("\n" : Str)) = TL.tl (joinN xs) ++ [10] := TL.tl_append _ "\n"
  refine ⟨rmsuf_yes, ?_, by rw [e]; simp, ?_⟩
  · have := h.len
    rw [TL.len_tl] at this
    rw [TL.len_tl, e]; simp; omega
  · refine strOk_of fun c hc => ?_
    rw [e] at hc
    rcases List.mem_append.mp hc with hc | hc
    · unfold joinN at hc
      rw [TL.tl_join] at hc
      exact joinL_all (P := fun c => c < 1000) (by omega) (fun s hs c m => (h.c s hs c m).1) c hc
    · rw [List.mem_singleton.mp hc]; omega
theorem joinL_last : ∀ {ss : List Str}, ss ≠ [] → (∀ s ∈ ss, ∀ c ∈ TL.tl s, c ≠ 10) → (∀ s, ss.getLast? = some s → TL.tl s ≠ []) → ∃ c r, TL.joinL [10] (ss.map TL.tl) = r ++ [c] ∧ c ≠ 10
  | [], h, _, _ => absurd rfl h
  | [s], _, h, hl => by
    have ne := hl s rfl
    exact ⟨(TL.tl s).getLast ne, (TL.tl s).dropLast, (List.dropLast_concat_getLast ne).symm, h s List.mem_cons_self _ (List.getLast_mem ne)⟩
  | s :: s2 :: ss, _, h, hl => by
    obtain ⟨c, r, e, hc⟩ := joinL_last (ss := s2 :: ss) (by simp) (fun x m => h x (List.mem_cons_of_mem _ m)) fun s e => hl s (by simpa using e)
    have q : TL.joinL [10] ((s :: s2 :: ss).map TL.tl) = TL.tl s ++ ([10] ++ TL.joinL [10] ((s2 :: ss).map TL.tl)) := rfl
    exact ⟨c, TL.tl s ++ ([10] ++ r), by rw [q, e]; simp, hc⟩
theorem textOf_no {xs : List Str} (h : TextOk xs) (hl : ∀ s, xs.getLast? = some s → TL.tl s ≠ []) : TextOf xs (joinN xs) := by
  have hne : xs ≠ [] := by
    have := h.lo
    cases xs with
    | nil => simp at this
    | cons => simp
  have q : ∃ c r, TL.tl (joinN xs) = r ++ [c] ∧ c ≠ 10 := by
    unfold joinN
    rw [TL.tl_join]
    exact joinL_last hne (fun s hs c m => (h.c s hs c m).2) hl
  refine ⟨rmsuf_no q, by have := h.len; omega, ?_, h.ok⟩
  obtain ⟨c, r, e, _⟩ := q
  rw [e]; simp
theorem run_textL0 {C : Nat → List D → Mem → Res D} {M : Mem} {xs : List Str} {x : Str} (B1 B2 : List S) (h : TextOk xs) (hx : TextOf xs x) :
    fin M (DP.execs C [.ife (.pr .eq [(.v 0), (.c (.str ""))]) [.ret (.pr .list [])] [], .asg (.nm 3) (.meth .split "str" (.meth .rmsuf "str" (.v 0) [(.c (.str "\n"))]) [(.c (.str "\n"))]), .ife (.pr .gt [(.pr .len [(.v 3)]), (.v 1)]) B1 [], .for_ (.nm 4) .seq [(.v 3)] [.ife (.pr .gt [(.pr .len [(.v 4)]), (.v 2)]) B2 []], .ret (.v 3)]
      [some (.str x), some (.int 600), some (.int 800), none, none] M) = .ok (.list (xs.map .str)) M := by
  have hl2 := h.len
  have hl := hx.len
  have h1 : pr .rmsuf M [.str x, .str "\n"] = some (.str (joinN xs), M) := by
    rw [← hx.rm]; exact if_pos (by simp [sizeLine]; omega)
  have h2 : pr .split M [.str (joinN xs), .str "\n"] = some (.list (xs.map .str), M) := by
    have : pr .split M [.str (joinN xs), .str "\n"] = some (.list ((Txt.split (joinN xs) "\n").map .str), M) := if_pos ⟨rfl, by simp [sizeLine]; omega⟩
    rw [this, h.split]
  have h3 : pr .eq M [.str x, .str ""] = some (.bl false, M) := by rw [eq_empty hx.ok, decide_eq_false hx.ne]
  have h4 : ¬ (600 : Int) < xs.length := by have := h.hi; omega
  obtain ⟨env', hf, ⟨e, rfl⟩⟩ := for_nx2 (call := C) (M := M) (t := .nm 4) (k := .seq) (src := [(.v 3)]) (env := [some (.str x), some (.int 600), some (.int 800), some (.list (xs.map .str)), none])
      (body := [.ife (.pr .gt [(.pr .len [(.v 4)]), (.v 2)]) B2 []]) (ds := [.list (xs.map .str)]) (fun env => ∃ e, env = [some (.str x), some (.int 600), some (.int 800), some (.list (xs.map .str)), e]) ⟨_, rfl⟩
      (by simp) walk_list (by
      rintro y hy env ⟨e, rfl⟩
      obtain ⟨s, hs, rfl⟩ := List.mem_map.mp hy
      have h5 := h.t s hs
      have h6 : pr .len M [.str s] = some (.int s.length, M) := pr_len_str (by simp [sizeLine]; omega)
      have h7 : ¬ (800 : Int) < s.length := by omega
      refine ⟨_, [some (.str x), some (.int 600), some (.int 800), some (.list (xs.map .str)), some (.str s)], rfl, ?_, _, rfl⟩
      simp [h6, h7])
  simp [h1, h2, h3, h4, hf]
theorem run_textL {n : Nat} {M : Mem} {xs : List Str} {x : Str} (h : TextOk xs) (hx : TextOf xs x) :
    DP.run fs (n + 1) i_text_lines [.str x, .int 600, .int 800] M = .ok (.list (xs.map .str)) M := by
  rw [run_at (d := ⟨3, 5, b_text_lines⟩) rfl rfl]
  exact run_textL0 _ _ h hx
/-! the reader's loop -/
theorem rl_bad {n : Nat} {M : Mem} {a : Option D} {ys : List D} {T : Str} {w : Str} {rest : List Str} (hT : ∀ k M, DP.run fs (n + 6) i_read_line [.str T, .int k] M = .exc (badT k w) M) : ∀ (ls : List Lin) (k : Nat) (acc : List D) (b c : Option D), (∀ l ∈ ls, l.Ok) → (∀ l ∈ ls, l.t.length ≤ 800) → acc.length + ls.length ≤ 1000 →
    ∃ env' M', forLoop (.items ys) (fun x env2 M2 => match store env2 x (.tp [2, 3]) with
        | none => .bad
        | some env3 => DP.execs (DP.run fs (n + 6)) rlB env3 M2) (enumD k ((ls.map Lin.t ++ T :: rest).map .str)) [a, some (.loc M.length), b, c] (M ++ [.lst acc]) = .done (.ex (badT ((k + ls.length : Nat) + 1) w)) env' M' ∧ ∃ c, M' = M ++ [c]
  | [], k, acc, b, c, _, _, _ => by
    refine ⟨[a, some (.loc M.length), some (.int k), some (.str T)], M ++ [.lst acc], ?_, _, rfl⟩
    have hm : (M ++ [Cell.lst acc])[M.length]? = some (.lst acc) := by rw [List.getElem?_append_right (Nat.le_refl _)]; simp
    have hty : (D.loc M.length).ty (M ++ [.lst acc]) = some "list" := ty_loc hm
    have st : store [a, some (.loc M.length), b, c] (.tup [.int (k : Int), .str T]) (.tp [2, 3]) = some [a, some (.loc M.length), some (.int k), some (.str T)] := rfl
    rw [List.map_nil, List.nil_append, List.map_cons, enumD, forLoop, if_pos (by trivial)]
    simp only [st]
    simp [rlB, hty, hT]
  | l :: ls, k, acc, b, c, h1, h2, h3 => by
    rw [List.length_cons] at h3
    obtain ⟨env', M', e, hM⟩ := rl_bad (a := a) (ys := ys) (rest := rest) hT ls (k + 1) (acc ++ [l.d]) (some (.int k)) (some (.str l.t)) (fun x m => h1 x (List.mem_cons_of_mem _ m)) (fun x m => h2 x (List.mem_cons_of_mem _ m)) (by simp; omega)
    refine ⟨env', M', ?_, hM⟩
    have s := rl_step (n := n) (M := M) (a := a) (k := (k : Int)) (h1 l List.mem_cons_self) (h2 l List.mem_cons_self) (show acc.length < sizeLine by simp [sizeLine]; omega)
    rw [List.map_cons, List.cons_append, List.map_cons, enumD, forLoop, if_pos (by trivial)]
    have st : store [a, some (.loc M.length), b, c] (.tup [.int (k : Int), .str l.t]) (.tp [2, 3]) = some [a, some (.loc M.length), some (.int k), some (.str l.t)] := rfl
    simp only [st, s]
    rw [e]
    simp only [List.length_cons]
    congr 4
    omega
/-- the first bad line is told -/
theorem run_lines_bad {n : Nat} {M : Mem} {ls : List Lin} {T w x : Str} {rest : List Str} (hT : ∀ k M, DP.run fs (n + 6) i_read_line [.str T, .int k] M = .exc (badT k w) M) (h : TextOk (ls.map Lin.t ++ T :: rest)) (hx : TextOf (ls.map Lin.t ++ T :: rest) x) (h1 : ∀ l ∈ ls, l.Ok) :
    ∃ c, DP.run fs (n + 7) i_read_lines [.str x] M = .exc (badT ((ls.length : Int) + 1) w) (M ++ [c]) := by
  have h2 : ∀ l ∈ ls, l.t.length ≤ 800 := fun l hl => h.t _ (List.mem_append_left _ (List.mem_map.mpr ⟨l, hl, rfl⟩))
  have hi := h.hi
  simp only [List.length_append, List.length_map, List.length_cons] at hi
  obtain ⟨env', M', e, c, rfl⟩ := rl_bad (n := n) (M := M) (a := some (.str x)) (ys := enumD 0 ((ls.map Lin.t ++ T :: rest).map .str)) (rest := rest) hT ls 0 [] none none h1 h2 (by simp; omega)
  refine ⟨c, ?_⟩
  rw [run_at (d := ⟨1, 4, b_read_lines⟩) rfl rfl]
  have ht := fun M => run_textL (n := n + 5) (M := M) h hx
  have hf : DP.exec (DP.run fs (n + 6)) (.for_ (.tp [2, 3]) .enum [(.call i_text_lines [(.v 0), (.c (.int (600))), (.c (.int (800)))])] rlB) [some (.str x), some (.loc M.length), none, none] (M ++ [.lst []]) = .done (.ex (badT ((ls.length : Int) + 1) w)) env' (M ++ [c]) := by
    rw [ex_for]
    have hs : evs (DP.run fs (n + 6)) [(.call i_text_lines [(.v 0), (.c (.int (600))), (.c (.int (800)))])] [some (.str x), some (.loc M.length), none, none] (M ++ [.lst []]) = .ok [.list ((ls.map Lin.t ++ T :: rest).map .str)] (M ++ [.lst []]) := by
      simp [ht]
    rw [hs]
    simp only [Res.sb, walk_enum, walk_xs]
    rw [Nat.zero_add] at e
    exact e
  have hm : pr .listM M [] = some (.loc M.length, M ++ [.lst []]) := pr_listM (by simp [sizeLine])
  simp only [rlB] at hf
  simp [b_read_lines, hm, hf]
end K01

namespace K01
open PySem PySem.Spec PyProof.Rows L2 DP
abbrev JL (ss : List Str) : List Nat := TL.joinL [32] (ss.map TL.tl)
theorem J_cons {s : Str} {ss : List Str} (h : ss ≠ []) : JL (s :: ss) = TL.tl s ++ 32 :: JL ss := by
  cases ss with
  | nil => exact absurd rfl h
  | cons => simp [JL, TL.joinL]
theorem J_app : ∀ {a b : List Str}, a ≠ [] → b ≠ [] → JL (a ++ b) = JL a ++ 32 :: JL b
  | [], _, h, _ => absurd rfl h
  | [s], b, _, h => by rw [List.singleton_append, J_cons h]; rfl
  | s :: s2 :: ss, b, _, h => by
    rw [List.cons_append, J_cons (by simp), J_app (a := s2 :: ss) (by simp) h, J_cons (s := s) (ss := s2 :: ss) (by simp), List.append_assoc]
    rfl
theorem weave_ne {sg : Str} : ∀ {G : List (List Str)}, G ≠ [] → (∀ g ∈ G, g ≠ []) → weave sg G ≠ []
  | [], h, _ => absurd rfl h
  | [g], _, h => h g List.mem_cons_self
  | g :: g2 :: gs, _, _ => by rw [weave] <;> simp
theorem J_weave {sg : Str} : ∀ {G : List (List Str)}, G ≠ [] → (∀ g ∈ G, g ≠ []) → JL (weave sg G) = TL.joinL (32 :: (TL.tl sg ++ [32])) (G.map JL)
  | [], h, _ => absurd rfl h
  | [g], _, _ => rfl
  | g :: g2 :: gs, _, h => by
    have hg := fun x m => h x (List.mem_cons_of_mem g m)
    rw [weave, J_app (h g List.mem_cons_self) (by simp), J_cons (weave_ne (by simp) hg), J_weave (by simp) hg]
    · simp [TL.joinL]
    · simp
def cT (c : Cnd) : Str := Str.join " " c.ws
def Bas.t (b : Bas) : Str := Str.join " " b.ws
def Frm.t (f : Frm) : Str := Str.join " " f.ws
def wT (sep : Str) (cs : List Cnd) : Str := Str.join sep (cs.map cT)
theorem tl_lit (a : String) : TL.tl (Str.ofString a) = a.toList.map Char.toNat := TL.tl_ofString a
theorem cT_eq {c : Cnd} (h : c.Ok) : Txt.join " " (c.w :: c.g.s :: c.ns.map numS) = cT c := by
  rw [TL.join_eq]
  apply TL.ext_tl
  unfold cT
  rw [TL.tl_join, TL.tl_join]
  show JL _ = JL _
  have hn : c.ns.map numS ≠ [] := by
    have := h.lo
    cases q : c.ns with
    | nil => rw [q] at this; simp at this
    | cons => simp
  unfold Cnd.ws
  cases c.g
  · rfl
  · rfl
  · rfl
  · rfl
  · show JL (c.w :: ("not in" : Str) :: c.ns.map numS) = JL (c.w :: ("not" : Str) :: ("in" : Str) :: c.ns.map numS)
    rw [J_cons (by simp), J_cons hn, J_cons (by simp), J_cons (by simp), J_cons hn]
    simp [tl_lit]
theorem wv_J {sg : Str} {cs : List Cnd} (h : cs ≠ []) : JL (wv sg cs) = TL.tl (wT (" " ++ sg ++ " ") cs) := by
  unfold wv wT
  rw [J_weave (by simpa using h) (by
    intro g hg
    obtain ⟨c, _, rfl⟩ := List.mem_map.mp hg
    simp [Cnd.ws]), TL.tl_join, TL.tl_append, TL.tl_append]
  have e : TL.tl (" " : Str) = [32] := rfl
  rw [e, List.map_map, List.map_map]
  have e2 : (JL ∘ Cnd.ws) = (TL.tl ∘ cT) := by
    funext c
    show JL c.ws = TL.tl (cT c)
    unfold cT
    rw [TL.tl_join]; rfl
  rw [e2]
  simp
theorem wv_ne {sg : Str} {cs : List Cnd} (h : cs ≠ []) : wv sg cs ≠ [] := weave_ne (by simpa using h) (by
    intro g hg
    obtain ⟨c, _, rfl⟩ := List.mem_map.mp hg
    simp [Cnd.ws])
theorem tl_t {ss : List Str} : TL.tl (Str.join " " ss) = JL ss := TL.tl_join " " ss
theorem t_order {a b : Str} {i : Int} : (Bas.order a i b).t = a ++ " + " ++ numS i ++ " <= " ++ b := by
  apply TL.ext_tl
  show TL.tl (Str.join " " [a, "+", numS i, "<=", b]) = _
  rw [tl_t, J_cons (by simp), J_cons (by simp), J_cons (by simp), J_cons (by simp)]
  simp only [TL.tl_append]
  simp [tl_lit, JL, TL.joinL]
theorem t_either {cs : List Cnd} (h : cs ≠ []) : (Frm.either cs).t = "either " ++ wT " or " cs := by
  apply TL.ext_tl
  show TL.tl (Str.join " " (("either" : Str) :: wv "or" cs)) = _
  have e : (" " : Str) ++ "or" ++ " " = " or " := rfl
  rw [tl_t, J_cons (wv_ne h), wv_J h, e, TL.tl_append]
  simp [tl_lit]
theorem bas_ne (b : Bas) : b.ws ≠ [] := by cases b <;> simp [Bas.ws, Cnd.ws]
theorem t_if {cs : List Cnd} {b : Bas} (h : cs ≠ []) : (Frm.ifs cs b).t = "if " ++ wT " and " cs ++ " then " ++ b.t := by
  apply TL.ext_tl
  show TL.tl (Str.join " " (("if" : Str) :: (wv "and" cs ++ ("then" : Str) :: b.ws))) = _
  have e : (" " : Str) ++ "and" ++ " " = " and " := rfl
  rw [tl_t, J_cons (by simp), J_app (wv_ne h) (by simp), J_cons (bas_ne b), wv_J h, e]
  simp only [TL.tl_append]
  unfold Bas.t
  rw [tl_t]
  simp [tl_lit]
theorem t_at {m : Bool} {i : Int} {cs : List Cnd} (h : cs ≠ []) : (Frm.at_ m i cs).t = "at " ++ mostS m ++ " " ++ numS i ++ " of " ++ wT " , " cs := by
  apply TL.ext_tl
  show TL.tl (Str.join " " (("at" : Str) :: mostS m :: numS i :: ("of" : Str) :: wv "," cs)) = _
  have e : (" " : Str) ++ "," ++ " " = " , " := rfl
  rw [tl_t, J_cons (by simp), J_cons (by simp), J_cons (by simp), J_cons (wv_ne h), wv_J h, e]
  simp only [TL.tl_append]
  simp [tl_lit]
theorem frm_ne {f : Frm} : f.ws ≠ [] := by
  cases f with
  | bas b => exact bas_ne b
  | _ => simp [Frm.ws]
theorem l_frm {m : Bool} {w : Str} {f : Frm} : (Lin.frm m w f).t = rowS m ++ " " ++ w ++ " : " ++ f.t := by
  apply TL.ext_tl
  show TL.tl (Str.join " " (rowS m :: w :: (":" : Str) :: f.ws)) = _
  rw [tl_t, J_cons (by simp), J_cons (by simp), J_cons frm_ne]
  simp only [TL.tl_append]
  unfold Frm.t
  rw [tl_t]
  simp [tl_lit]
theorem l_close {w : Str} : (Lin.close w).t = "close " ++ w := by
  apply TL.ext_tl
  show TL.tl (Str.join " " [("close" : Str), w]) = _
  rw [tl_t, J_cons (by simp), TL.tl_append]
  simp [tl_lit, JL, TL.joinL]
theorem l_name {w : Str} {a b : Int} : (Lin.name w a b).t = "name " ++ w ++ " " ++ numS a ++ " " ++ numS b := by
  apply TL.ext_tl
  show TL.tl (Str.join " " [("name" : Str), w, numS a, numS b]) = _
  rw [tl_t, J_cons (by simp), J_cons (by simp), J_cons (by simp)]
  simp only [TL.tl_append]
  simp [tl_lit, JL, TL.joinL]
theorem l_use {m : Bool} {w v : Str} {ws : List Str} (h : ws ≠ []) : (Lin.use m w v ws).t = useS m ++ " " ++ w ++ " : " ++ v ++ " " ++ Str.join " " ws := by
  apply TL.ext_tl
  show TL.tl (Str.join " " (useS m :: w :: (":" : Str) :: v :: ws)) = _
  rw [tl_t, J_cons (by simp), J_cons (by simp), J_cons (by simp), J_cons h]
  simp only [TL.tl_append, tl_t]
  simp [tl_lit]
theorem l_block {w : Str} {ws : List Str} (h : ws ≠ []) : (Lin.block w ws).t = "block " ++ w ++ " : " ++ Str.join " " ws := by
  apply TL.ext_tl
  show TL.tl (Str.join " " (("block" : Str) :: w :: (":" : Str) :: ws)) = _
  rw [tl_t, J_cons (by simp), J_cons (by simp), J_cons h]
  simp only [TL.tl_append, tl_t]
  simp [tl_lit]
/-! ### sizes -/
theorem len_app (a b : Str) : (a ++ b).length = a.length + b.length := by rw [TL.len_tl, TL.tl_append, List.length_append, ← TL.len_tl, ← TL.len_tl]
theorem join_len {k j : Nat} {sep : Str} (hs : sep.length ≤ j) : ∀ {ss : List Str}, (∀ s ∈ ss, s.length ≤ k) → (Str.join sep ss).length ≤ ss.length * (k + j)
  | [], _ => by simp [Str.join, Str.empty, Str.length]
  | [s], h => by have := h s List.mem_cons_self; show s.length ≤ _; simp; omega
  | s :: s2 :: ss, h => by
    have h1 := h s List.mem_cons_self
    have h2 := join_len hs (ss := s2 :: ss) fun x m => h x (List.mem_cons_of_mem _ m)
    show (s ++ sep ++ Str.join sep (s2 :: ss)).length ≤ _
    rw [len_app, len_app]
    simp only [List.length_cons, Nat.add_mul] at h2 ⊢
    omega
theorem num_len {i : Int} (h : NumOk i) : (numS i).length ≤ 32 := by rw [TL.len_tl, tl_int]; exact intL_len h
theorem cT_len {c : Cnd} (h : c.Ok) : (cT c).length ≤ 400 := by
  have := join_len (k := 32) (j := 1) (sep := " ") (Nat.le_refl 1) (ss := c.ws) (by
    intro s hs
    rcases List.mem_cons.mp hs with e | hs
    · rw [e]; have := h.w.ln; omega
    · rcases List.mem_append.mp hs with hs | hs
      · cases hg : c.g <;> rw [hg] at hs <;> simp only [Sg.ws, List.mem_cons, List.not_mem_nil, or_false] at hs
        · rw [hs]; decide
        · rw [hs]; decide
        · rw [hs]; decide
        · rw [hs]; decide
        · rcases hs with e | e <;> rw [e] <;> decide
      · obtain ⟨i, hi, rfl⟩ := List.mem_map.mp hs
        exact num_len (h.n i hi))
  have hl := h.len
  unfold cT
  omega
theorem wT_len {sep : Str} {cs : List Cnd} (hs : sep.length ≤ 5) (h : ∀ c ∈ cs, c.Ok) (hl : cs.length ≤ 13) : (wT sep cs).length ≤ 5265 := by
  have := join_len (k := 400) hs (ss := cs.map cT) (by
    intro s hs
    obtain ⟨c, hc, rfl⟩ := List.mem_map.mp hs
    exact cT_len (h c hc))
  rw [List.length_map] at this
  unfold wT
  omega
theorem bT_len {b : Bas} (h : b.Ok) : b.t.length ≤ 400 := by
  cases b with
  | is c => exact cT_len h
  | order a i b =>
    rw [t_order]
    have h1 := h.1.ln
    have h2 := num_len h.2.1
    have h3 := h.2.2.ln
    have e1 : (" + " : Str).length = 3 := rfl
    have e2 : (" <= " : Str).length = 4 := rfl
    simp only [len_app]
    omega
theorem cs_ne {cs : List Cnd} {lo hi : Nat} (h : CsOk cs lo hi) (h0 : 1 ≤ lo) : cs ≠ [] := by
  have := h.lo
  rintro rfl
  simp at this
  omega
theorem mostS_len (m : Bool) : (mostS m).length ≤ 5 := by cases m <;> decide
theorem rowS_len (m : Bool) : (rowS m).length ≤ 5 := by cases m <;> decide
theorem useS_len (m : Bool) : (useS m).length ≤ 7 := by cases m <;> decide
theorem fT_len {f : Frm} (h : f.Ok) : f.t.length ≤ 6000 := by
  cases f with
  | bas b => have := bT_len h; show b.t.length ≤ 6000; omega
  | either cs =>
    rw [t_either (cs_ne h (by omega)), len_app]
    have := wT_len (sep := " or ") (by decide) h.c h.hi
    have e : ("either " : Str).length = 7 := rfl
    omega
  | ifs cs b =>
    rw [t_if (cs_ne h.1 (by omega))]
    have h8 := h.1.hi
    have := wT_len (sep := " and ") (by decide) h.1.c (by omega)
    have := bT_len h.2
    have e : ("if " : Str).length = 3 := rfl
    have e : (" then " : Str).length = 6 := rfl
    simp only [len_app]
    omega
  | at_ m i cs =>
    rw [t_at (cs_ne h.2 (by omega))]
    have h8 := h.2.hi
    have := wT_len (sep := " , ") (by decide) h.2.c (by omega)
    have := num_len h.1
    have := mostS_len m
    have e : ("at " : Str).length = 3 := rfl
    have e : (" " : Str).length = 1 := rfl
    have e : (" of " : Str).length = 4 := rfl
    simp only [len_app]
    omega
theorem ws_len {ws : List Str} (h : WsOk ws) : (Str.join " " ws).length ≤ 52 := by
  have := join_len (k := 12) (j := 1) (sep := " ") (Nat.le_refl 1) (ss := ws) (fun s hs => (h.w s hs).ln)
  have := h.hi
  omega
end K01

namespace K01
open PySem PySem.Spec PyProof.Rows L2 DP
theorem sl_eq : sizeLine = 16777216 := rfl
theorem joinSize_le {s : Str} {k : Nat} : ∀ {ys : List Str}, (∀ y ∈ ys, y.length ≤ k) → joinSize s ys ≤ ys.length * (k + s.length)
  | [], _ => by simp [joinSize]
  | y :: ys, h => by
    have h1 := h y List.mem_cons_self
    have h2 := joinSize_le (s := s) (ys := ys) fun x m => h x (List.mem_cons_of_mem _ m)
    simp only [joinSize, List.map_cons, List.sum_cons, List.length_cons, Nat.add_mul, Nat.one_mul] at h2 ⊢
    omega
theorem cond_join {c : Cnd} (h : c.Ok) {M : Mem} : pr .join M [.str " ", .list (.str c.w :: .str c.g.s :: c.ns.map (D.str ∘ numS))] = some (.str (cT c), M) := by
  have e : (.str c.w :: .str c.g.s :: c.ns.map (D.str ∘ numS)) = (c.w :: c.g.s :: c.ns.map numS).map D.str := by simp
  have := joinSize_le (s := " ") (k := 32) (ys := c.w :: c.g.s :: c.ns.map numS) (by
    intro s hs
    simp only [List.mem_cons, List.mem_map] at hs
    rcases hs with e | e | ⟨i, hi, rfl⟩
    · rw [e]; have := h.w.ln; omega
    · rw [e]; cases c.g <;> decide
    · exact num_len (h.n i hi))
  have h8 := h.hi
  have e1 : (" " : Str).length = 1 := rfl
  simp only [List.length_cons, List.length_map, e1] at this
  rw [e, pr_join (by omega), cT_eq h]
theorem cs_join {cs : List Cnd} {sep : Str} (h : ∀ c ∈ cs, c.Ok) (hl : cs.length ≤ 13) (hs : sep.length ≤ 5) {M : Mem} : pr .join M [.str sep, .list (cs.map (fun c => .str (cT c)))] = some (.str (wT sep cs), M) := by
  have e : cs.map (fun c => D.str (cT c)) = (cs.map cT).map D.str := by simp
  have := joinSize_le (s := sep) (k := 400) (ys := cs.map cT) (by
    intro s hs
    obtain ⟨c, hc, rfl⟩ := List.mem_map.mp hs
    exact cT_len (h c hc))
  rw [List.length_map] at this
  have : cs.length * (400 + sep.length) ≤ 13 * 405 := Nat.mul_le_mul hl (by omega)
  rw [e, pr_join (by omega), TL.join_eq]
  rfl
theorem pr_str_num {M : Mem} {i : Int} (h : NumOk i) : pr .str_ M [.int i] = some (.str (numS i), M) := pr_str_int h.log
theorem str_comp {call : Nat → List D → Mem → Res D} {M : Mem} {ns : List Int} {i : Nat} {env : DP.Env} (hn : ∀ i ∈ ns, NumOk i) (hi : i < env.length) : compLoop (.items (ns.map .int)) (compF call [i] (.nm i) (.pr .str_ [(.v i)]) env) (ns.map .int) M = .ok (ns.map (D.str ∘ numS)) M := by
  refine compLoop_on D.int (D.str ∘ numS) ns fun x hx => ?_
  have h := pr_str_num (M := M) (hn x hx)
  unfold compF
  simp [hi, h]
theorem call_comp {call : Nat → List D → Mem → Res D} {M : Mem} {cs : List Cnd} {i f : Nat} {env : DP.Env} (hn : ∀ c ∈ cs, call f [c.d] M = .ok (.str (cT c)) M) (hi : i < env.length) : compLoop (.items (cs.map Cnd.d)) (compF call [i] (.nm i) (.call f [(.v i)]) env) (cs.map Cnd.d) M = .ok (cs.map fun c => .str (cT c)) M := by
  refine compLoop_on Cnd.d (fun c => .str (cT c)) cs fun x hx => ?_
  have h := hn x hx
  unfold compF
  simp [hi, h]
theorem pr_list2 {M : Mem} {a b : D} : pr .list M [a, b] = some (.list [a, b], M) := pr_list (by simp [sizeLine])
theorem run_lctext {n : Nat} {M : Mem} {c : Cnd} (h : c.Ok) : DP.run fs (n + 1) i__law_cond_text [c.d] M = .ok (.str (cT c)) M := by
  have h8 := h.hi
  have hc := cond_join h (M := M)
  have hsz : c.ns.length ≤ sizeLine := by rw [sl_eq]; omega
  have ha := pr_addl (M := M) (xs := [.str c.w, .str c.g.s]) (ys := c.ns.map (D.str ∘ numS)) (by simp [sl_eq]; omega)
  have hs := fun env hi => str_comp (call := DP.run fs n) (M := M) (ns := c.ns) (i := 1) (env := env) h.n hi
  rw [run_at (d := ⟨1, 2, b__law_cond_text⟩) rfl rfl]
  simp [b__law_cond_text, Cnd.d, hs, hsz, pr_list2, ha, hc]
/-! ### forms -/
theorem pr_fmt_str {M : Mem} {s : Str} (h : s.length ≤ sizeLine) : pr .fmt1 M [.str s] = some (.str s, M) := if_pos h
theorem pr_fmt_int {M : Mem} {i : Int} (h : NumOk i) : pr .fmt1 M [.int i] = some (.str (numS i), M) := if_pos h.log
theorem fmtAll_ok : ∀ (ss : List Str) (acc : Str), (ss.foldl (· ++ ·) acc).length ≤ sizeLine → fmtAll acc (ss.map .str) = some (ss.foldl (· ++ ·) acc)
  | [], acc, _ => rfl
  | s :: ss, acc, h => by
    have q : ∀ (ss : List Str) (acc : Str), acc.length ≤ (ss.foldl (· ++ ·) acc).length := by
      intro ss
      induction ss with
      | nil => intro acc; exact Nat.le_refl _
      | cons s ss ih => intro acc; have := ih (acc ++ s); rw [len_app] at this; exact Nat.le_trans (Nat.le_add_right _ _) this
    have h2 := q ss (acc ++ s)
    rw [List.foldl_cons] at h
    rw [List.map_cons, fmtAll, if_pos (by omega), fmtAll_ok ss _ h, List.foldl_cons]
theorem prFmt_ok {M : Mem} {ss : List Str} {r : Str} (e : ss.foldl (· ++ ·) Str.empty = r) (h : r.length ≤ sizeLine) : prFmt M (ss.map .str) = some (.str r, M) := by
  subst e
  unfold prFmt
  rw [fmtAll_ok ss _ h]
theorem empty_app (s : Str) : Str.empty ++ s = s := TL.ext_tl (by rw [TL.tl_append]; rfl)
/-- additions from the left -/
theorem adds {M : Mem} {a b : Str} (h : (a ++ b).length ≤ 100000) : pr .add M [.str a, .str b] = some (.str (a ++ b), M) := pr_adds (by rw [len_app] at h; rw [sl_eq]; omega)
theorem run_lbtext {n : Nat} {M : Mem} {b : Bas} (h : b.Ok) : DP.run fs (n + 2) i__law_form_text [b.d] M = .ok (.str b.t) M := by
  cases b with
  | is c =>
    have h1 := run_lctext (n := n) (M := M) h
    have e1 := eq_lit (M := M) (a := "is") (b := "is") rfl rfl
    rw [run_at (d := ⟨1, 2, b__law_form_text⟩) rfl rfl]
    simp [b__law_form_text, Bas.d, e1, h1]
    rfl
  | order a i b =>
    have e1 := eq_lit (M := M) (a := "order") (b := "is") rfl rfl
    have e2 := eq_lit (M := M) (a := "order") (b := "order") rfl rfl
    have hs := pr_str_num (M := M) h.2.1
    have hl := bT_len h
    rw [t_order] at hl
    simp only [len_app] at hl
    have a1 := adds (M := M) (a := a) (b := " + ") (by simp only [len_app]; omega)
    have a2 := adds (M := M) (a := a ++ " + ") (b := numS i) (by simp only [len_app]; omega)
    have a3 := adds (M := M) (a := a ++ " + " ++ numS i) (b := " <= ") (by simp only [len_app]; omega)
    have a4 := adds (M := M) (a := a ++ " + " ++ numS i ++ " <= ") (b := b) (by simp only [len_app]; omega)
    rw [run_at (d := ⟨1, 2, b__law_form_text⟩) rfl rfl]
    simp [b__law_form_text, Bas.d, e1, e2, hs, a1, a2, a3, a4, t_order]
theorem run_lftext {n : Nat} {M : Mem} {f : Frm} (h : f.Ok) : DP.run fs (n + 3) i__law_form_text [f.d] M = .ok (.str f.t) M := by
  cases f with
  | bas b => exact run_lbtext h
  | either cs =>
    have e1 := eq_lit (M := M) (a := "either") (b := "is") rfl rfl
    have e2 := eq_lit (M := M) (a := "either") (b := "order") rfl rfl
    have e3 := eq_lit (M := M) (a := "either") (b := "either") rfl rfl
    have hj := cs_join (sep := " or ") h.c h.hi (by decide) (M := M)
    have hc := fun env hi => call_comp (call := DP.run fs (n + 2)) (M := M) (i := 1) (f := i__law_cond_text) (env := env) (cs := cs) (fun c hc => run_lctext (h.c c hc)) hi
    have hl := fT_len h
    have ht := t_either (cs_ne h (by omega))
    have ha := adds (M := M) (a := "either ") (b := wT " or " cs) (by rw [← ht]; omega)
    have hsz : cs.length ≤ sizeLine := by have := h.hi; rw [sl_eq]; omega
    rw [run_at (d := ⟨1, 2, b__law_form_text⟩) rfl rfl]
    simp [b__law_form_text, Frm.d, e1, e2, e3, hc, hj, ha, ht, hsz]
  | ifs cs b =>
    have e1 := eq_lit (M := M) (a := "if") (b := "is") rfl rfl
    have e2 := eq_lit (M := M) (a := "if") (b := "order") rfl rfl
    have e3 := eq_lit (M := M) (a := "if") (b := "either") rfl rfl
    have e4 := eq_lit (M := M) (a := "if") (b := "if") rfl rfl
    have h8 := h.1.hi
    have hj := cs_join (sep := " and ") h.1.c (by omega) (by decide) (M := M)
    have hc := fun env hi => call_comp (call := DP.run fs (n + 2)) (M := M) (i := 1) (f := i__law_cond_text) (env := env) (cs := cs) (fun c hc => run_lctext (h.1.c c hc)) hi
    have hb := run_lbtext (n := n) (M := M) h.2
    have hl := fT_len h
    have ht := t_if (b := b) (cs_ne h.1 (by omega))
    rw [ht] at hl
    simp only [len_app] at hl
    have ha := adds (M := M) (a := "if ") (b := wT " and " cs) (by simp only [len_app]; omega)
    have ha2 := adds (M := M) (a := "if " ++ wT " and " cs) (b := " then ") (by simp only [len_app]; omega)
    have ha3 := adds (M := M) (a := "if " ++ wT " and " cs ++ " then ") (b := b.t) (by simp only [len_app]; omega)
    have hsz : cs.length ≤ sizeLine := by rw [sl_eq]; omega
    rw [run_at (d := ⟨1, 2, b__law_form_text⟩) rfl rfl]
    simp [b__law_form_text, Frm.d, e1, e2, e3, e4, hc, hj, hb, ha, ha2, ha3, ht, hsz]
  | at_ m i cs =>
    have q : ∀ a : String, a ≠ "most" → a ≠ "least" → (a.toList.all fun c => decide (c.toNat < 1000)) = true → pr .eq M [.str (mostS m), .str a] = some (.bl false, M) := fun a n1 n2 ha => by
      cases m
      · exact (eq_lit rfl ha).trans (by rw [decide_eq_false (Ne.symm n2)])
      · exact (eq_lit rfl ha).trans (by rw [decide_eq_false (Ne.symm n1)])
    have e1 := q "is" (by decide) (by decide) rfl
    have e2 := q "order" (by decide) (by decide) rfl
    have e3 := q "either" (by decide) (by decide) rfl
    have e4 := q "if" (by decide) (by decide) rfl
    have h8 := h.2.hi
    have hj := cs_join (sep := " , ") h.2.c (by omega) (by decide) (M := M)
    have hc := fun env hi => call_comp (call := DP.run fs (n + 2)) (M := M) (i := 1) (f := i__law_cond_text) (env := env) (cs := cs) (fun c hc => run_lctext (h.2.c c hc)) hi
    have hl := fT_len h
    have ht := t_at (m := m) (i := i) (cs_ne h.2 (by omega))
    have hs := pr_str_num (M := M) h.1
    rw [ht] at hl
    simp only [len_app] at hl
    have a1 := adds (M := M) (a := "at ") (b := mostS m) (by simp only [len_app]; omega)
    have a2 := adds (M := M) (a := "at " ++ mostS m) (b := " ") (by simp only [len_app]; omega)
    have a3 := adds (M := M) (a := "at " ++ mostS m ++ " ") (b := numS i) (by simp only [len_app]; omega)
    have a4 := adds (M := M) (a := "at " ++ mostS m ++ " " ++ numS i) (b := " of ") (by simp only [len_app]; omega)
    have a5 := adds (M := M) (a := "at " ++ mostS m ++ " " ++ numS i ++ " of ") (b := wT " , " cs) (by simp only [len_app]; omega)
    have hsz : cs.length ≤ sizeLine := by rw [sl_eq]; omega
    rw [run_at (d := ⟨1, 2, b__law_form_text⟩) rfl rfl]
    simp [b__law_form_text, Frm.d, e1, e2, e3, e4, hc, hj, hs, a1, a2, a3, a4, a5, ht, hsz]
end K01

namespace K01
open PySem PySem.Spec PyProof.Rows L2 DP
theorem wsok_ne {ws : List Str} (h : WsOk ws) : ws ≠ [] := by
  have := h.lo
  rintro rfl
  simp at this
theorem lT_len {l : Lin} (h : l.Ok) : l.t.length ≤ 6100 := by
  cases l with
  | fin_ => decide
  | close w => rw [l_close, len_app]; have := IsW.ln h; have e : ("close " : Str).length = 6 := rfl; omega
  | name w a b =>
    rw [l_name]; have := h.1.ln; have := num_len h.2.1; have := num_len h.2.2
    have e : ("name " : Str).length = 5 := rfl
    have e : (" " : Str).length = 1 := rfl
    simp only [len_app]; omega
  | frm m w f =>
    rw [l_frm]; have := h.1.ln; have := rowS_len m; have := fT_len h.2
    have e : (" : " : Str).length = 3 := rfl
    have e : (" " : Str).length = 1 := rfl
    simp only [len_app]; omega
  | use m w v ws =>
    rw [l_use (wsok_ne h.2.2)]; have := h.1.ln; have := h.2.1.ln; have := useS_len m; have := ws_len h.2.2
    have e : (" : " : Str).length = 3 := rfl
    have e : (" " : Str).length = 1 := rfl
    simp only [len_app]; omega
  | block w ws =>
    rw [l_block (wsok_ne h.2)]; have := h.1.ln; have := ws_len h.2
    have e : (" : " : Str).length = 3 := rfl
    have e : ("block " : Str).length = 6 := rfl
    simp only [len_app]; omega
theorem ws_join {ws : List Str} (h : WsOk ws) {M : Mem} : pr .join M [.str " ", .tup (ws.map .str)] = some (.str (Str.join " " ws), M) := by
  have e : (" " : Str).length = 1 := rfl
  have := joinSize_le (s := " ") (k := 12) (ys := ws) fun s hs => (h.w s hs).ln
  rw [e] at this
  have := h.hi
  rw [pr_join_tup (by omega), TL.join_eq]
theorem ws_join2 {ws : List Str} (h : WsOk ws) {M : Mem} : pr .join M [.str " ", .list (ws.map .str)] = some (.str (Str.join " " ws), M) := by
  have e : (" " : Str).length = 1 := rfl
  have := joinSize_le (s := " ") (k := 12) (ys := ws) fun s hs => (h.w s hs).ln
  rw [e] at this
  have := h.hi
  rw [pr_join (by omega), TL.join_eq]
theorem lits {M : Mem} {s : Str} {L : List String} (a : String) (hs : ∃ x ∈ L, s = Str.ofString x) (hL : (L.all fun x => x.toList.all fun c => decide (c.toNat < 1000)) = true) (ha : (a.toList.all fun c => decide (c.toNat < 1000)) = true) (hn : a ∉ L) :
    pr .eq M [.str s, .str (Str.ofString a)] = some (.bl false, M) := by
  obtain ⟨x, hx, rfl⟩ := hs
  rw [eq_lit (List.all_eq_true.mp hL x hx) ha, decide_eq_false]
  rintro rfl
  exact hn hx
theorem rowS_in (m : Bool) : ∃ x ∈ ["row", "must"], rowS m = Str.ofString x := by
  cases m
  · exact ⟨"row", by simp, rfl⟩
  · exact ⟨"must", by simp, rfl⟩
theorem useS_in (m : Bool) : ∃ x ∈ ["use", "mustuse"], useS m = Str.ofString x := by
  cases m
  · exact ⟨"use", by simp, rfl⟩
  · exact ⟨"mustuse", by simp, rfl⟩
theorem row_in {M : Mem} {a : String} (h : (a.toList.all fun c => decide (c.toNat < 1000)) = true) : pr .in_ M [.str a, .tup [(.str "row"), (.str "must")]] = some (.bl (decide (a ∈ ["row", "must"])), M) := lit_in a ["row", "must"] h (by simp)
theorem rowS_inn {M : Mem} (m : Bool) : pr .in_ M [.str (rowS m), .tup [(.str "row"), (.str "must")]] = some (.bl true, M) := by
  cases m
  · exact (row_in (a := "row") rfl).trans (by simp)
  · exact (row_in (a := "must") rfl).trans (by simp)
theorem useS_inn {M : Mem} (m : Bool) : pr .in_ M [.str (useS m), .tup [(.str "row"), (.str "must")]] = some (.bl false, M) := by
  cases m
  · exact (row_in (a := "use") rfl).trans (by simp)
  · exact (row_in (a := "mustuse") rfl).trans (by simp)
section
variable {n : Nat} {M : Mem}
theorem run_line {l : Lin} (h : l.Ok) : DP.run fs (n + 4) i__law_line [l.d] M = .ok (.str l.t) M := by
  rw [run_at (d := ⟨1, 1, b__law_line⟩) rfl rfl]
  have hl := lT_len h
  cases l with
  | fin_ =>
    have e1 := eq_lit (M := M) (a := "end") (b := "end") rfl rfl
    simp [b__law_line, Lin.d, e1]
    rfl
  | close w =>
    have e1 := eq_lit (M := M) (a := "close") (b := "end") rfl rfl
    have e2 := eq_lit (M := M) (a := "close") (b := "name") rfl rfl
    have e3 := eq_lit (M := M) (a := "close") (b := "close") rfl rfl
    have a1 := adds (M := M) (a := "close ") (b := w) (by rw [← l_close]; omega)
    simp [b__law_line, Lin.d, e1, e2, e3, a1, l_close]
  | name w a b =>
    have e1 := eq_lit (M := M) (a := "name") (b := "end") rfl rfl
    have e2 := eq_lit (M := M) (a := "name") (b := "name") rfl rfl
    rw [l_name] at hl
    simp only [len_app] at hl
    have s1 := pr_str_num (M := M) h.2.1
    have s2 := pr_str_num (M := M) h.2.2
    have a1 := adds (M := M) (a := "name ") (b := w) (by simp only [len_app]; omega)
    have a2 := adds (M := M) (a := "name " ++ w) (b := " ") (by simp only [len_app]; omega)
    have a3 := adds (M := M) (a := "name " ++ w ++ " ") (b := numS a) (by simp only [len_app]; omega)
    have a4 := adds (M := M) (a := "name " ++ w ++ " " ++ numS a) (b := " ") (by simp only [len_app]; omega)
    have a5 := adds (M := M) (a := "name " ++ w ++ " " ++ numS a ++ " ") (b := numS b) (by simp only [len_app]; omega)
    simp [b__law_line, Lin.d, e1, e2, s1, s2, a1, a2, a3, a4, a5, l_name]
  | frm m w f =>
    have e1 := lits (M := M) "end" (rowS_in m) rfl rfl (by simp)
    have e2 := lits (M := M) "name" (rowS_in m) rfl rfl (by simp)
    have e3 := lits (M := M) "close" (rowS_in m) rfl rfl (by simp)
    have e4 := rowS_inn (M := M) m
    have hf := run_lftext (n := n) (M := M) h.2
    rw [l_frm] at hl
    simp only [len_app] at hl
    have a1 := adds (M := M) (a := rowS m) (b := " ") (by simp only [len_app]; omega)
    have a2 := adds (M := M) (a := rowS m ++ " ") (b := w) (by simp only [len_app]; omega)
    have a3 := adds (M := M) (a := rowS m ++ " " ++ w) (b := " : ") (by simp only [len_app]; omega)
    have a4 := adds (M := M) (a := rowS m ++ " " ++ w ++ " : ") (b := f.t) (by simp only [len_app]; omega)
    simp [b__law_line, Lin.d, e1, e2, e3, e4, hf, a1, a2, a3, a4, l_frm]
  | use m w v ws =>
    have e1 := lits (M := M) "end" (useS_in m) rfl rfl (by simp)
    have e2 := lits (M := M) "name" (useS_in m) rfl rfl (by simp)
    have e3 := lits (M := M) "close" (useS_in m) rfl rfl (by simp)
    have e5 := lits (M := M) "block" (useS_in m) rfl rfl (by simp)
    have e4 := useS_inn (M := M) m
    have hj := ws_join2 (M := M) h.2.2
    have ht := l_use (m := m) (w := w) (v := v) (wsok_ne h.2.2)
    rw [ht] at hl
    simp only [len_app] at hl
    have a1 := adds (M := M) (a := useS m) (b := " ") (by simp only [len_app]; omega)
    have a2 := adds (M := M) (a := useS m ++ " ") (b := w) (by simp only [len_app]; omega)
    have a3 := adds (M := M) (a := useS m ++ " " ++ w) (b := " : ") (by simp only [len_app]; omega)
    have a4 := adds (M := M) (a := useS m ++ " " ++ w ++ " : ") (b := v) (by simp only [len_app]; omega)
    have a5 := adds (M := M) (a := useS m ++ " " ++ w ++ " : " ++ v) (b := " ") (by simp only [len_app]; omega)
    have a6 := adds (M := M) (a := useS m ++ " " ++ w ++ " : " ++ v ++ " ") (b := Str.join " " ws) (by simp only [len_app]; omega)
    simp [b__law_line, Lin.d, e1, e2, e3, e4, e5, hj, a1, a2, a3, a4, a5, a6, ht]
  | block w ws =>
    have e1 := eq_lit (M := M) (a := "block") (b := "end") rfl rfl
    have e2 := eq_lit (M := M) (a := "block") (b := "name") rfl rfl
    have e3 := eq_lit (M := M) (a := "block") (b := "close") rfl rfl
    have e5 := eq_lit (M := M) (a := "block") (b := "block") rfl rfl
    have e4 := row_in (M := M) (a := "block") rfl
    have hj := ws_join2 (M := M) h.2
    have ht := l_block (w := w) (wsok_ne h.2)
    rw [ht] at hl
    simp only [len_app] at hl
    have a1 := adds (M := M) (a := "block ") (b := w) (by simp only [len_app]; omega)
    have a2 := adds (M := M) (a := "block " ++ w) (b := " : ") (by simp only [len_app]; omega)
    have a3 := adds (M := M) (a := "block " ++ w ++ " : ") (b := Str.join " " ws) (by simp only [len_app]; omega)
    simp [b__law_line, Lin.d, e1, e2, e3, e4, e5, hj, a1, a2, a3, ht]
theorem text_join {ls : List Lin} (ht : ∀ l ∈ ls, l.t.length ≤ 800) (hl : ls.length ≤ 600) : pr .join M [.str "\n", .list (ls.map fun l => .str l.t)] = some (.str (textOf ls), M) := by
  have e : ls.map (fun l => D.str l.t) = (ls.map Lin.t).map D.str := by simp
  have := joinSize_le (s := "\n") (k := 800) (ys := ls.map Lin.t) (by
    intro s hs
    obtain ⟨l, hl, rfl⟩ := List.mem_map.mp hs
    exact ht l hl)
  have e1 : ("\n" : Str).length = 1 := rfl
  rw [List.length_map, e1] at this
  rw [e, pr_join (by omega), TL.join_eq]
  rfl
theorem lines_comp {call : Nat → List D → Mem → Res D} {ls : List Lin} {f : Nat} {env : DP.Env} (hn : ∀ l ∈ ls, call f [l.d] M = .ok (.str l.t) M) (hi : 1 < env.length) : compLoop (.items (ls.map Lin.d)) (compF call [1] (.nm 1) (.call f [(.v 1)]) env) (ls.map Lin.d) M = .ok (ls.map fun l => .str l.t) M := by
  refine compLoop_on Lin.d (fun l => .str l.t) ls fun x hx => ?_
  have h := hn x hx
  unfold compF
  simp [hi, h]
end
end K01

namespace K01
open PySem PySem.Spec PyProof.Rows L2 DP
theorem pr_isinst {M : Mem} {a : D} {t u : String} {b : Bool} (h : a.ty M = some u) (hk : L2.kitB u t = some b) : pr (.isinst t) M [a] = some (.bl b, M) := by
  show prIsInst t M [a] = _
  simp only [prIsInst, h, hk, okB]
theorem kit_list : L2.kitB "list" "bool" = some false ∧ L2.kitB "list" "int" = some false ∧ L2.kitB "list" "str" = some false ∧ L2.kitB "list" "dict" = some false ∧ L2.kitB "list" "tuple" = some false ∧ L2.kitB "list" "list" = some true := by decide
theorem kit_tuple : L2.kitB "tuple" "bool" = some false ∧ L2.kitB "tuple" "int" = some false ∧ L2.kitB "tuple" "str" = some false ∧ L2.kitB "tuple" "dict" = some false ∧ L2.kitB "tuple" "tuple" = some true ∧ L2.kitB "tuple" "list" = some false := by decide
theorem kit_int : L2.kitB "int" "bool" = some false ∧ L2.kitB "int" "int" = some true ∧ L2.kitB "int" "list" = some false ∧ L2.kitB "int" "tuple" = some false ∧ L2.kitB "int" "dict" = some false := by decide
theorem kit_str : L2.kitB "str" "bool" = some false ∧ L2.kitB "str" "int" = some false ∧ L2.kitB "str" "str" = some true ∧ L2.kitB "str" "list" = some false ∧ L2.kitB "str" "tuple" = some false ∧ L2.kitB "str" "dict" = some false := by decide
section
variable {M : Mem} {n : Nat}
theorem same_int {i : Int} : DP.run fs (n + 1) i__law_same [.int i, .int i] M = .ok (.bl true) M := by
  have t : (D.int i).ty M = some "int" := rfl
  have k1 := pr_isinst t kit_int.1
  have k2 := pr_isinst t kit_int.2.1
  have i1 : (D.int i).isN = false := rfl
  rw [run_at (d := ⟨2, 4, b__law_same⟩) rfl rfl]
  simp [b__law_same, k1, k2, i1]
theorem same_str {x : Str} (h : PyData.strOk x = true) : DP.run fs (n + 1) i__law_same [.str x, .str x] M = .ok (.bl true) M := by
  have t : (D.str x).ty M = some "str" := rfl
  have k1 := pr_isinst t kit_str.1
  have k2 := pr_isinst t kit_str.2.1
  have k3 := pr_isinst t kit_str.2.2.1
  have i1 : (D.str x).isN = false := rfl
  have e := pr_eq_str (M := M) h h
  rw [run_at (d := ⟨2, 4, b__law_same⟩) rfl rfl]
  simp [b__law_same, k1, k2, k3, i1, e]
theorem walk_r1 {j : Int} (h1 : -4611686018427387904 ≤ j) (h2 : j < 4611686018427387904) : walk M .rng1 [.int j] = some (.items (rngD 0 j.toNat)) := walk_rng1 ⟨h1, h2⟩
theorem comp_ok {call : Nat → List D → Mem → Res D} {env : DP.Env} {M M1 M2 : Mem} {own : List Nat} {t : T} {k : SrcK} {src : List E} {elt : E} {ds ys : List D} {w : Walk} (h1 : evs call src env M = .ok ds M1) (h2 : walk M1 k ds = some w) (h3 : compLoop w (compF call own t elt env) w.xs M1 = .ok ys M2) (h4 : ys.length ≤ sizeLine) :
    ev call (.comp false own t k src none elt) env M = .ok (.list ys) M2 := by
  rw [ev_comp, h1]
  simp only [Res.bind, h2, h3, if_pos h4]
theorem same_seq {a b : D} {xs : List D} {t : String} (ht : t = "list" ∨ t = "tuple") (ta : a.ty M = some t) (tb : b.ty M = some t) (la : pr .len M [a] = some (.int xs.length, M)) (lb : pr .len M [b] = some (.int xs.length, M))
    (ia : ∀ k (h : k < xs.length), pr .idx M [a, .int k] = some (xs[k], M)) (ib : ∀ k (h : k < xs.length), pr .idx M [b, .int k] = some (xs[k], M))
    (hx : ∀ k (h : k < xs.length), DP.run fs n i__law_same [xs[k], xs[k]] M = .ok (.bl true) M) (na : a.isN = false) (nb : b.isN = false) (hl : xs.length ≤ 10000) : DP.run fs (n + 1) i__law_same [a, b] M = .ok (.bl true) M := by
  have w := walk_r1 (M := M) (j := xs.length) (by omega) (by omega)
  have er : rngD 0 ((xs.length : Int)).toNat = (List.range xs.length).map fun k => .int k := by
    simp [rngD]
  rw [er] at w
  have c : compLoop (.items ((List.range xs.length).map fun (k : Nat) => .int k)) (compF (DP.run fs n) [3] (.nm 3) (.call i__law_same [(.pr .idx [(.v 0), (.v 3)]), (.pr .idx [(.v 1), (.v 3)])]) [some a, some b, none, none]) ((List.range xs.length).map fun (k : Nat) => .int k) M = .ok ((List.range xs.length).map fun _ => .bl true) M := by
    refine compLoop_on (fun (k : Nat) => D.int k) (fun _ => .bl true) _ fun k hk => ?_
    rw [List.mem_range] at hk
    have q1 := ia k hk
    have q2 := ib k hk
    have q3 := hx k hk
    unfold compF
    simp [q1, q2, q3]
  have hsz : xs.length ≤ sizeLine := by rw [sl_eq]; omega
  have hall : pr .all M [.list ((List.range xs.length).map fun _ => .bl true)] = some (.bl true, M) := pr_all (by simp)
  have hev := comp_ok (call := DP.run fs n) (env := [some a, some b, none, none]) (M := M) (own := [3]) (t := .nm 3) (k := .rng1) (src := [(.pr .len [(.v 1)])]) (ds := [.int xs.length]) (by simp [lb]) w c (by simpa using hsz)
  rw [run_at (d := ⟨2, 4, b__law_same⟩) rfl rfl]
  rcases ht with rfl | rfl
  · obtain ⟨k1, k2, k3, k4, k5, k6⟩ := kit_list
    have a1 := pr_isinst ta k1
    have b1 := pr_isinst tb k1
    have b2 := pr_isinst tb k2
    have b3 := pr_isinst tb k3
    have b4 := pr_isinst tb k4
    have b5 := pr_isinst tb k5
    have b6 := pr_isinst tb k6
    have a6 := pr_isinst ta k6
    simp [b__law_same, na, nb, a1, b1, b2, b3, b4, b5, b6, a6, la, lb, hev, hall, -ev_comp]
  · obtain ⟨k1, k2, k3, k4, k5, k6⟩ := kit_tuple
    have a1 := pr_isinst ta k1
    have b1 := pr_isinst tb k1
    have b2 := pr_isinst tb k2
    have b3 := pr_isinst tb k3
    have b4 := pr_isinst tb k4
    have b5 := pr_isinst tb k5
    have b6 := pr_isinst tb k6
    have a5 := pr_isinst ta k5
    simp [b__law_same, na, nb, a1, b1, b2, b3, b4, b5, b6, a5, la, lb, hev, hall, -ev_comp]
inductive Sm : Nat → D → Prop where
  | int (k : Nat) (i : Int) : Sm k (.int i)
  | str (k : Nat) (s : Str) (h : PyData.strOk s = true) : Sm k (.str s)
  | tup (k : Nat) (xs : List D) (h : ∀ x ∈ xs, Sm k x) (hl : xs.length ≤ 10000) : Sm (k + 1) (.tup xs)
theorem same_sm : ∀ (k : Nat) {d : D}, Sm k d → ∀ n, DP.run fs (n + k + 1) i__law_same [d, d] M = .ok (.bl true) M
  | _, _, .int k i, n => same_int
  | _, _, .str k s h, n => same_str h
  | _, _, .tup k xs h hl, n => by
    have := @same_seq M (n + k + 1) (.tup xs) (.tup xs) xs "tuple" (.inr rfl) rfl rfl pr_len_tup pr_len_tup
      (fun j hj => pr_idx_tup (by rw [atI_nat]; simp [hj])) (fun j hj => pr_idx_tup (by rw [atI_nat]; simp [hj]))
      (fun j hj => same_sm k (h _ (List.getElem_mem hj)) n) rfl rfl hl
    exact this
theorem same_list {k : Nat} {xs : List D} (h : ∀ x ∈ xs, Sm k x) (hl : xs.length ≤ 10000) : DP.run fs (n + k + 2) i__law_same [.list xs, .list xs] M = .ok (.bl true) M :=
  @same_seq M (n + k + 1) (.list xs) (.list xs) xs "list" (.inl rfl) rfl rfl pr_len_list pr_len_list
      (fun j hj => pr_idx_list (by rw [atI_nat]; simp [hj])) (fun j hj => pr_idx_list (by rw [atI_nat]; simp [hj]))
      (fun j hj => same_sm k (h _ (List.getElem_mem hj)) n) rfl rfl hl
theorem same_loc {k j : Nat} {xs : List D} (hm : M[j]? = some (.lst xs)) (h : ∀ x ∈ xs, Sm k x) (hl : xs.length ≤ 10000) : DP.run fs (n + k + 2) i__law_same [.loc j, .list xs] M = .ok (.bl true) M :=
  @same_seq M (n + k + 1) (.loc j) (.list xs) xs "list" (.inl rfl) (ty_loc hm) rfl
      (by show prLen M [.loc j] = _; simp [prLen, asSeq, asL, hm]) pr_len_list
      (fun j hj => pr_idx_loc hm (by rw [atI_nat]; simp [hj])) (fun j hj => pr_idx_list (by rw [atI_nat]; simp [hj]))
      (fun j hj => same_sm k (h _ (List.getElem_mem hj)) n) rfl rfl hl
/-! ### copies -/
theorem Sm.mono {k : Nat} {d : D} (h : Sm k d) : Sm (k + 1) d := by
  induction h with
  | int k i => exact .int _ _
  | str k s h => exact .str _ _ h
  | tup k xs h hl ih => exact .tup _ _ ih hl
end
theorem cnd_sm {c : Cnd} (h : c.Ok) : Sm 2 c.d := by
  have h8 := h.hi
  refine .tup 1 _ (fun x hx => ?_) (by simp)
  simp only [List.mem_cons, List.not_mem_nil, or_false] at hx
  rcases hx with e | e | e <;> rw [e]
  · exact .str _ _ h.w.ok
  · exact .str _ _ c.g.sok
  · refine .tup 0 _ (fun x hx => ?_) (by simp; omega)
    obtain ⟨i, _, rfl⟩ := List.mem_map.mp hx
    exact .int _ _
theorem cs_sm {cs : List Cnd} (h : ∀ c ∈ cs, c.Ok) (hl : cs.length ≤ 13) : Sm 3 (.tup (cs.map Cnd.d)) := by
  refine .tup 2 _ (fun x hx => ?_) (by simp; omega)
  obtain ⟨c, hc, rfl⟩ := List.mem_map.mp hx
  exact cnd_sm (h c hc)
theorem bas_sm {b : Bas} (h : b.Ok) : Sm 3 b.d := by
  cases b with
  | is c =>
    refine .tup 2 _ (fun x hx => ?_) (by simp)
    simp only [List.mem_cons, List.not_mem_nil, or_false] at hx
    rcases hx with e | e <;> rw [e]
    · exact .str _ _ (strOk_lit rfl)
    · exact cnd_sm h
  | order a i b =>
    refine .tup 2 _ (fun x hx => ?_) (by simp)
    simp only [List.mem_cons, List.not_mem_nil, or_false] at hx
    rcases hx with e | e | e | e <;> rw [e]
    · exact .str _ _ (strOk_lit rfl)
    · exact .str _ _ h.1.ok
    · exact .int _ _
    · exact .str _ _ h.2.2.ok
theorem mostS_ok (m : Bool) : PyData.strOk (mostS m) = true := by cases m <;> exact strOk_lit rfl
theorem rowS_ok (m : Bool) : PyData.strOk (rowS m) = true := by cases m <;> exact strOk_lit rfl
theorem useS_ok (m : Bool) : PyData.strOk (useS m) = true := by cases m <;> exact strOk_lit rfl
theorem frm_sm {f : Frm} (h : f.Ok) : Sm 4 f.d := by
  cases f with
  | bas b => exact (bas_sm h).mono
  | either cs =>
    refine .tup 3 _ (fun x hx => ?_) (by simp)
    simp only [List.mem_cons, List.not_mem_nil, or_false] at hx
    rcases hx with e | e <;> rw [e]
    · exact .str _ _ (strOk_lit rfl)
    · exact cs_sm h.c h.hi
  | ifs cs b =>
    refine .tup 3 _ (fun x hx => ?_) (by simp)
    simp only [List.mem_cons, List.not_mem_nil, or_false] at hx
    rcases hx with e | e | e <;> rw [e]
    · exact .str _ _ (strOk_lit rfl)
    · exact cs_sm h.1.c (by have := h.1.hi; omega)
    · exact bas_sm h.2
  | at_ m i cs =>
    refine .tup 3 _ (fun x hx => ?_) (by simp)
    simp only [List.mem_cons, List.not_mem_nil, or_false] at hx
    rcases hx with e | e | e <;> rw [e]
    · exact .str _ _ (mostS_ok m)
    · exact .int _ _
    · exact cs_sm h.2.c (by have := h.2.hi; omega)
theorem ws_sm {ws : List Str} (h : WsOk ws) : Sm 4 (.tup (ws.map .str)) := by
  refine .tup 3 _ (fun x hx => ?_) (by have := h.hi; simp; omega)
  obtain ⟨w, hw, rfl⟩ := List.mem_map.mp hx
  exact .str _ _ (h.ok w hw)
theorem lin_sm {l : Lin} (h : l.Ok) : Sm 5 l.d := by
  cases l with
  | fin_ =>
    refine .tup 4 _ (fun x hx => ?_) (by simp)
    rw [List.mem_singleton.mp hx]; exact .str _ _ (strOk_lit rfl)
  | close w =>
    refine .tup 4 _ (fun x hx => ?_) (by simp)
    simp only [List.mem_cons, List.not_mem_nil, or_false] at hx
    rcases hx with e | e <;> rw [e]
    · exact .str _ _ (strOk_lit rfl)
    · exact .str _ _ (IsW.ok h)
  | name w a b =>
    refine .tup 4 _ (fun x hx => ?_) (by simp)
    simp only [List.mem_cons, List.not_mem_nil, or_false] at hx
    rcases hx with e | e | e | e <;> rw [e]
    · exact .str _ _ (strOk_lit rfl)
    · exact .str _ _ h.1.ok
    · exact .int _ _
    · exact .int _ _
  | frm m w f =>
    refine .tup 4 _ (fun x hx => ?_) (by simp)
    simp only [List.mem_cons, List.not_mem_nil, or_false] at hx
    rcases hx with e | e | e <;> rw [e]
    · exact .str _ _ (rowS_ok m)
    · exact .str _ _ h.1.ok
    · exact frm_sm h.2
  | use m w v ws =>
    refine .tup 4 _ (fun x hx => ?_) (by simp)
    simp only [List.mem_cons, List.not_mem_nil, or_false] at hx
    rcases hx with e | e | e | e <;> rw [e]
    · exact .str _ _ (useS_ok m)
    · exact .str _ _ h.1.ok
    · exact .str _ _ h.2.1.ok
    · exact ws_sm h.2.2
  | block w ws =>
    refine .tup 4 _ (fun x hx => ?_) (by simp)
    simp only [List.mem_cons, List.not_mem_nil, or_false] at hx
    rcases hx with e | e | e <;> rw [e]
    · exact .str _ _ (strOk_lit rfl)
    · exact .str _ _ h.1.ok
    · exact ws_sm h.2
end K01

namespace K01
open PySem PySem.Spec PyProof.Rows L2 DP
section
variable {M : Mem} {k : Nat} {i j : Int} {a b c d : D}
theorem pr_mod (h : 0 < j) : pr .mod M [.int i, .int j] = some (.int (i % j), M) := if_pos h
theorem log_small {x : Int} (h : x.natAbs < 4611686018427387904) : x.natAbs.log2 < 62 := by
  by_cases h0 : x.natAbs = 0
  · rw [h0]; decide
  · exact (Nat.log2_lt h0).mpr h
theorem pr_fdiv (h : 0 < j) (h2 : j.natAbs < 4611686018427387904) : pr .fdiv M [.int i, .int j] = some (.int (i / j), M) := by
  show prFdiv M [.int i, .int j] = _
  unfold prFdiv
  have := log_small h2
  exact if_pos ⟨h, by omega⟩
theorem pr_mul (h1 : i.natAbs < 4611686018427387904) (h2 : j.natAbs < 4611686018427387904) : pr .mul M [.int i, .int j] = some (.int (i * j), M) := by
  show prMul M [.int i, .int j] = _
  unfold prMul
  have a := log_small h1
  have b := log_small h2
  exact if_pos (by unfold mulFits; omega)
theorem ix3 {xs : List D} (hm : M[k]? = some (.lst xs)) (n : Nat) (hn : xs[n]? = some d) : pr .idx M [.loc k, .int n] = some (d, M) := pr_idx_loc hm (by rw [atI_nat]; exact hn)
theorem ixN_nat {n j : Nat} (h : j < n) : ixN n (j : Int) = some j := by
  unfold ixN
  rw [if_pos (by omega), if_pos (by omega)]
  rfl
theorem set_loc {xs : List D} (hm : M[k]? = some (.lst xs)) (n : Nat) (hn : n < xs.length) : prSetIdx M [.loc k, .int n, d] = some (.non, M.set k (.lst (xs.set n d))) := by
  simp only [prSetIdx, hm, ixN_nat hn]
end
/-- a source of draws -/
def Src (k b : Nat) (M : Mem) : Prop := ∃ s0 s1 s2 : Int, M[k]? = some (.lst [.int s0, .int s1, .int s2]) ∧ 0 ≤ s1 ∧ s1 < 4294967296 ∧ 0 ≤ s2 ∧ s2 ≤ b
structure Keep (k : Nat) (M M' : Mem) : Prop where
  ln : M'.length = M.length
  ot : ∀ j, j ≠ k → M'[j]? = M[j]?
theorem Keep.trans {k : Nat} {M M1 M2 : Mem} (a : Keep k M M1) (b : Keep k M1 M2) : Keep k M M2 := ⟨b.ln.trans a.ln, fun j h => (b.ot j h).trans (a.ot j h)⟩
theorem Keep.rfl' {k : Nat} {M : Mem} : Keep k M M := ⟨rfl, fun _ _ => rfl⟩
theorem Keep.set {k : Nat} {M : Mem} {c : Cell} : Keep k M (M.set k c) := ⟨by simp, fun j h => List.getElem?_set_ne (Ne.symm h)⟩
theorem Src.mono {k b c : Nat} {M : Mem} (h : Src k b M) (hb : b ≤ c) : Src k c M := by
  obtain ⟨s0, s1, s2, h1, h2, h3, h4, h5⟩ := h
  exact ⟨s0, s1, s2, h1, h2, h3, h4, by omega⟩
/-- what a draw gives -/
def Draw (k b : Nat) (M : Mem) (r : Res D) (P : D → Prop) : Prop := ∃ d M', r = .ok d M' ∧ P d ∧ Src k b M' ∧ Keep k M M'
theorem pick {n k b : Nat} {M : Mem} {m : Int} (h : Src k b M) (hb : b < 1000000000) (h0 : 0 < m) (h1 : m < 1000000) : ∃ (r : Int) (M' : Mem), DP.run fs (n + 1) i__law_pick [.loc k, .int m] M = .ok (.int r) M' ∧ 0 ≤ r ∧ r < m ∧ Src k (b + 1) M' ∧ Keep k M M' := by
  obtain ⟨s0, s1, s2, hm, p1, q1, p2, q2⟩ := h
  have hk : k < M.length := by
    rw [List.getElem?_eq_some_iff] at hm
    exact hm.1
  have i0 : pr .idx M [.loc k, .int 0] = some (.int s0, M) := ix3 hm 0 rfl
  rw [run_at (d := ⟨2, 3, b__law_pick⟩) rfl rfl]
  by_cases hs : 0 < s0
  · refine ⟨s0 % m, M.set k (.lst [.int (s0 / m), .int s1, .int s2]), ?_, Int.emod_nonneg _ (by omega), Int.emod_lt_of_pos _ h0, ⟨s0 / m, s1, s2, List.getElem?_set_self hk, p1, q1, p2, by omega⟩, Keep.set⟩
    have e1 := pr_mod (M := M) (i := s0) h0
    have e2 := pr_fdiv (M := M) (i := s0) h0 (by omega)
    have e3 : prSetIdx M [.loc k, .int 0, .int (s0 / m)] = some (.non, M.set k (.lst [.int (s0 / m), .int s1, .int s2])) := set_loc (d := .int (s0 / m)) hm 0 (by simp)
    have tr : trim M (.int (s0 % m)) (M.set k (.lst [.int (s0 / m), .int s1, .int s2])) = M.set k (.lst [.int (s0 / m), .int s1, .int s2]) := trim_len (by simp)
    simp [b__law_pick, i0, hs, e1, e2, e3, tr]
  · have g1 : prIdxL M [.loc k, .int 2] = some (.int s2, M) := by
      simp [prIdxL, asL, hm]
    have g2 : pr .iadd M [.int s2, .int 1] = some (.int (s2 + 1), M) := rfl
    have g3 : prSetIdx M [.loc k, .int 2, .int (s2 + 1)] = some (.non, M.set k (.lst [.int s0, .int s1, .int (s2 + 1)])) := set_loc (d := .int (s2 + 1)) hm 2 (by simp)
    generalize hM1 : M.set k (.lst [.int s0, .int s1, .int (s2 + 1)]) = M1 at g3
    have hm1 : M1[k]? = some (.lst [.int s0, .int s1, .int (s2 + 1)]) := by rw [← hM1]; exact List.getElem?_set_self hk
    have l1 : M1.length = M.length := by rw [← hM1]; simp
    have i1 : pr .idx M1 [.loc k, .int 1] = some (.int s1, M1) := ix3 hm1 1 rfl
    have i2 : pr .idx M1 [.loc k, .int 2] = some (.int (s2 + 1), M1) := ix3 hm1 2 rfl
    have m1 := pr_mul (M := M1) (i := s1) (j := 48271) (by omega) (by omega)
    have m2 := pr_mul (M := M1) (i := s2 + 1) (j := 60013) (by omega) (by omega)
    have m3 := pr_mod (M := M1) (i := s1 * 48271 + (s2 + 1) * 60013) (j := 2147483647) (by omega)
    have bn := Int.emod_nonneg (s1 * 48271 + (s2 + 1) * 60013) (b := 2147483647) (by omega)
    have bl := Int.emod_lt_of_pos (s1 * 48271 + (s2 + 1) * 60013) (b := 2147483647) (by omega)
    generalize (s1 * 48271 + (s2 + 1) * 60013) % 2147483647 = t at m3 bn bl
    have g4 : prSetIdx M1 [.loc k, .int 1, .int t] = some (.non, M1.set k (.lst [.int s0, .int t, .int (s2 + 1)])) := set_loc (d := .int t) hm1 1 (by simp)
    generalize hM2 : M1.set k (.lst [.int s0, .int t, .int (s2 + 1)]) = M2 at g4
    have hm2 : M2[k]? = some (.lst [.int s0, .int t, .int (s2 + 1)]) := by rw [← hM2]; exact List.getElem?_set_self (by omega)
    have j1 : pr .idx M2 [.loc k, .int 1] = some (.int t, M2) := ix3 hm2 1 rfl
    have j2 : pr .idx M2 [.loc k, .int 2] = some (.int (s2 + 1), M2) := ix3 hm2 2 rfl
    have n1 := pr_mul (M := M2) (i := t) (j := 16807) (by omega) (by omega)
    have n2 := pr_mul (M := M2) (i := s2 + 1) (j := 7411) (by omega) (by omega)
    have n3 := pr_mod (M := M2) (i := t * 16807 + (s2 + 1) * 7411) (j := 2147483629) (by omega)
    generalize (t * 16807 + (s2 + 1) * 7411) % 2147483629 = u at n3
    have n4 := pr_fdiv (M := M2) (i := u) (j := 8) (by omega) (by omega)
    generalize u / 8 = v at n4
    have n5 := pr_mod (M := M2) (i := v) h0
    have l2 : M2.length = M.length := by rw [← hM2, ← l1]; simp
    have tr : trim M (.int (v % m)) M2 = M2 := trim_len l2
    refine ⟨v % m, M2, ?_, Int.emod_nonneg _ (by omega), Int.emod_lt_of_pos _ h0, ⟨s0, t, s2 + 1, hm2, bn, by omega, by omega, by omega⟩, ?_⟩
    · simp [b__law_pick, i0, hs, g1, g2, g3, i1, i2, m1, m2, m3, g4, j1, j2, n1, n2, n3, n4, n5, tr]
    · rw [← hM2, ← hM1]
      exact Keep.trans Keep.set Keep.set
end K01

namespace K01
open PySem PySem.Spec PyProof.Rows L2 DP
/-! ### loops that draw -/
theorem rng_loop0 {ys : List D} {f : D → DP.Env → Mem → SRes} (P : Nat → DP.Env → Mem → Prop) (m0 : Nat) (hs : ∀ t, t < m0 → ∀ env M, P t env M → ∃ env' M', f (.int t) env M = .done .nx env' M' ∧ P (t + 1) env' M') :
    ∀ (m t : Nat) (env : DP.Env) (M : Mem), t + m = m0 → P t env M → ∃ env' M', forLoop (.items ys) f ((List.range' t m).map fun (i : Nat) => .int i) env M = .done .nx env' M' ∧ P m0 env' M'
  | 0, t, env, M, e, h => ⟨env, M, by simp [forLoop, Walk.Ok], by rw [← e]; exact h⟩
  | m + 1, t, env, M, e, h => by
    obtain ⟨env1, M1, e1, h1⟩ := hs t (by omega) env M h
    obtain ⟨env2, M2, e2, h2⟩ := rng_loop0 P m0 hs m (t + 1) env1 M1 (by omega) h1
    refine ⟨env2, M2, ?_, h2⟩
    rw [List.range'_succ, List.map_cons, forLoop, if_pos (by trivial), e1]
    exact e2
theorem rngD_eq (m : Nat) : rngD 0 m = (List.range' 0 m).map fun (i : Nat) => .int i := by
  rw [rngD, List.range_eq_range']
  simp
theorem for_w {call : Nat → List D → Mem → Res D} {env : DP.Env} {M M1 : Mem} {t : T} {k : SrcK} {src : List E} {body : List S} {ds : List D} {w : Walk} {r : SRes} (h1 : evs call src env M = .ok ds M1) (h2 : walk M1 k ds = some w)
    (h3 : forLoop w (fun x env2 M2 => match store env2 x t with
        | none => .bad
        | some env3 => DP.execs call body env3 M2) w.xs env M1 = r) : DP.exec call (.for_ t k src body) env M = r := by
  rw [ex_for, h1]
  simp only [Res.sb, h2]
  exact h3
theorem for_rng {call : Nat → List D → Mem → Res D} {env : DP.Env} {M M1 : Mem} {i : Nat} {src : List E} {body : List S} {m : Nat} (P : Nat → DP.Env → Mem → Prop) (h1 : evs call src env M = .ok [.int m] M1) (hm : m < 1000) (h0 : P 0 env M1)
    (hs : ∀ t, t < m → ∀ env M, P t env M → ∃ env' M', DP.execs call body (env.set i (some (.int t))) M = .done .nx env' M' ∧ P (t + 1) env' M') : ∃ env' M', DP.exec call (.for_ (.nm i) .rng1 src body) env M = .done .nx env' M' ∧ P m env' M' := by
  have w := walk_r1 (M := M1) (j := m) (by omega) (by omega)
  rw [Int.toNat_natCast, rngD_eq] at w
  obtain ⟨e', M', he, hp⟩ := rng_loop0 (ys := (List.range' 0 m).map fun (i : Nat) => .int i) (f := fun x env2 M2 => match store env2 x (.nm i) with
        | none => .bad
        | some env3 => DP.execs call body env3 M2) P m (fun t ht env M h => by
      obtain ⟨e1, M1, q1, q2⟩ := hs t ht env M h
      exact ⟨e1, M1, q1, q2⟩) m 0 env M1 (by omega) h0
  refine ⟨e', M', ?_, hp⟩
  exact for_w h1 w he
theorem rng_comp0 {ys : List D} {f : D → Mem → Res (Option D)} {Q : D → Prop} (P : Nat → Mem → Prop) (m0 : Nat) (hs : ∀ t, t < m0 → ∀ M, P t M → ∃ d M', f (.int t) M = .ok (some d) M' ∧ Q d ∧ P (t + 1) M') :
    ∀ (m t : Nat) (M : Mem), t + m = m0 → P t M → ∃ ds M', compLoop (.items ys) f ((List.range' t m).map fun (i : Nat) => .int i) M = .ok ds M' ∧ ds.length = m ∧ (∀ d ∈ ds, Q d) ∧ P m0 M'
  | 0, t, M, e, h => ⟨[], M, by simp [compLoop, Walk.Ok], rfl, by simp, by rw [← e]; exact h⟩
  | m + 1, t, M, e, h => by
    obtain ⟨d, M1, e1, hq, h1⟩ := hs t (by omega) M h
    obtain ⟨ds, M2, e2, hl, ha, h2⟩ := rng_comp0 (ys := ys) P m0 hs m (t + 1) M1 (by omega) h1
    refine ⟨d :: ds, M2, ?_, by simp [hl], ?_, h2⟩
    · rw [List.range'_succ, List.map_cons, compLoop, if_pos (by trivial), e1]
      simp only [e2]
    · intro x hx
      rcases List.mem_cons.mp hx with e | hx
      · rw [e]; exact hq
      · exact ha x hx
theorem comp_rng {call : Nat → List D → Mem → Res D} {env : DP.Env} {M M1 : Mem} {own : List Nat} {i : Nat} {src : List E} {elt : E} {m : Nat} {Q : D → Prop} (P : Nat → Mem → Prop) (h1 : evs call src env M = .ok [.int m] M1) (hm : m < 1000) (h0 : P 0 M1)
    (hs : ∀ t, t < m → ∀ M, P t M → ∃ d M', ev call elt ((wipeE env own).set i (some (.int t))) M = .ok d M' ∧ Q d ∧ P (t + 1) M') : ∃ ds M', ev call (.comp false own (.nm i) .rng1 src none elt) env M = .ok (.list ds) M' ∧ ds.length = m ∧ (∀ d ∈ ds, Q d) ∧ P m M' := by
  have w := walk_r1 (M := M1) (j := m) (by omega) (by omega)
  rw [Int.toNat_natCast, rngD_eq] at w
  obtain ⟨ds, M', he, hl, ha, hp⟩ := rng_comp0 (ys := (List.range' 0 m).map fun (i : Nat) => .int i) (f := compF call own (.nm i) elt env) (Q := Q) P m (fun t ht M h => by
      obtain ⟨d, M1, q1, q2, q3⟩ := hs t ht M h
      refine ⟨d, M1, ?_, q2, q3⟩
      unfold compF
      simp only [store_nm, q1]) m 0 M1 (by omega) h0
  exact ⟨ds, M', comp_ok h1 w he (by rw [hl, sl_eq]; omega), hl, ha, hp⟩
theorem lift_map {α : Type} {g : α → D} {Q : α → Prop} : ∀ {ds : List D}, (∀ d ∈ ds, ∃ c, d = g c ∧ Q c) → ∃ cs : List α, ds = cs.map g ∧ ∀ c ∈ cs, Q c
  | [], _ => ⟨[], rfl, by simp⟩
  | d :: ds, h => by
    obtain ⟨c, rfl, hc⟩ := h d List.mem_cons_self
    obtain ⟨cs, rfl, hcs⟩ := lift_map fun x m => h x (List.mem_cons_of_mem _ m)
    exact ⟨c :: cs, rfl, fun x m => by
      rcases List.mem_cons.mp m with e | m
      · rw [e]; exact hc
      · exact hcs x m⟩
/-! ### words -/
def L36 : List Nat := (List.range 26).map (· + 97) ++ (List.range 10).map (· + 48)
theorem l36 : ("abcdefghijklmnopqrstuvwxyz0123456789" : Str).cps.toList = L36 := by decide
theorem l36_26 : ∀ j, j < 26 → ∃ c, L36[j]? = some c ∧ 97 ≤ c ∧ c ≤ 122 := fun j h => ⟨j + 97, by unfold L36; rw [List.getElem?_append_left (by simpa using h), List.getElem?_map, List.getElem?_range h]; rfl, by omega, by omega⟩
theorem l36_36 : ∀ j, j < 36 → ∃ c, L36[j]? = some c ∧ ((97 ≤ c ∧ c ≤ 122) ∨ (48 ≤ c ∧ c ≤ 57)) := fun j h => by
  by_cases h2 : j < 26
  · obtain ⟨c, e, q⟩ := l36_26 j h2
    exact ⟨c, e, .inl q⟩
  · refine ⟨j - 26 + 48, ?_, .inr (by omega)⟩
    unfold L36
    rw [List.getElem?_append_right (by simp; omega), List.getElem?_map, List.getElem?_range (by simp; omega)]
    simp
theorem sign_of {M : Mem} {r : Int} {c : Nat} (h0 : 0 ≤ r) (h : L36[r.toNat]? = some c) : pr .idx M [.str "abcdefghijklmnopqrstuvwxyz0123456789", .int r] = some (.str ⟨#[c]⟩, M) :=
  pr_idx_str (by rw [sl_eq]; decide) (by
    rw [l36]
    have e : r = ((r.toNat : Nat) : Int) := by omega
    rw [e, atI_nat]
    exact h)
theorem inB_list {M : Mem} {w : Str} {ss : List Str} (hw : PyData.strOk w = true) (h : ∀ s ∈ ss, PyData.strOk s = true) : pr .in_ M [.str w, .list (ss.map .str)] = some (.bl (decide (w ∈ ss)), M) := by
  have e : inB M [.str w, .list (ss.map .str)] = inB M [.str w, .tup (ss.map .str)] := rfl
  show prIn M [.str w, .list (ss.map .str)] = _
  unfold prIn
  rw [e, inB_strs hw h]; rfl
theorem run_kws {n : Nat} {M : Mem} : DP.run fs (n + 1) i__law_keywords [] M = .ok (.list (kws.map .str)) M := by
  rw [run_at (d := ⟨0, 0, b__law_keywords⟩) rfl rfl]
  have := pr_list (M := M) (xs := kws.map .str) (by simp [kws, sl_eq])
  simp only [kws, List.map_cons, List.map_nil] at this
  simp [b__law_keywords, this, kws]
structure Pre (s : Str) : Prop where
  hd : ∃ c cs, TL.tl s = c :: cs ∧ 97 ≤ c ∧ c ≤ 122
  al : ∀ c ∈ TL.tl s, (97 ≤ c ∧ c ≤ 122) ∨ (48 ≤ c ∧ c ≤ 57)
theorem Pre.app {s : Str} {c : Nat} (h : Pre s) (hc : (97 ≤ c ∧ c ≤ 122) ∨ (48 ≤ c ∧ c ≤ 57)) : Pre (s ++ ⟨#[c]⟩) := by
  obtain ⟨a, as, e, ha⟩ := h.hd
  have q : TL.tl (s ++ ⟨#[c]⟩) = TL.tl s ++ [c] := TL.tl_append s ⟨#[c]⟩
  refine ⟨⟨a, as ++ [c], by rw [q, e]; rfl, ha⟩, fun x hx => ?_⟩
  rw [q] at hx
  rcases List.mem_append.mp hx with hx | hx
  · exact h.al x hx
  · rw [List.mem_singleton.mp hx]; exact hc
theorem kws_len {s : Str} (h : s ∈ kws) : s.length ≤ 7 := by
  simp only [kws, List.mem_cons, List.not_mem_nil, or_false] at h
  rcases h with h | h | h | h | h | h | h | h | h | h | h | h | h | h | h | h | h | h | h <;> (rw [h]; decide)
theorem kws_no0 {s : Str} (h : s ∈ kws) : 48 ∉ TL.tl s := by
  simp only [kws, List.mem_cons, List.not_mem_nil, or_false] at h
  rcases h with h | h | h | h | h | h | h | h | h | h | h | h | h | h | h | h | h | h | h <;> (rw [h]; decide)
theorem one_len {c : Nat} : (⟨#[c]⟩ : Str).length = 1 := rfl
theorem Pre.ok {s : Str} (h : Pre s) : PyData.strOk s = true := strOk_of fun c hc => by rcases h.al c hc with q | q <;> omega
theorem run_signsL {n k b m : Nat} {M : Mem} (h : Src k b M) (hb : b < 900000000) (h1 : 1 ≤ m) (h2 : m ≤ 12) : ∃ w M', DP.run fs (n + 2) i__law_signs [.loc k, .int m] M = .ok (.str w) M' ∧ IsW w ∧ Src k (b + 12) M' ∧ Keep k M M' ∧ m ≤ w.length := by
  obtain ⟨r, M1, e1, r0, r1, s1, k1⟩ := pick (n := n) (m := 26) h (by omega) (by omega) (by omega)
  obtain ⟨c, ec, hc⟩ := l36_26 r.toNat (by omega)
  have x1 := sign_of (M := M1) r0 ec
  obtain ⟨env', M2, hf, s, x, he, hp, hl, s2, k2⟩ := for_rng (call := DP.run fs (n + 1)) (M := M1) (i := 4) (m := m - 1) (src := [(.pr .sub [(.v 1), (.c (.int (1)))])]) (env := [some (.loc k), some (.int m), some (.str "abcdefghijklmnopqrstuvwxyz0123456789"), some (.str ⟨#[c]⟩), none])
    (body := [.asg (.nm 3) (.pr .add [(.v 3), (.pr .idx [(.v 2), (.call i__law_pick [(.v 0), (.c (.int (36)))])])])])
    (fun t env M' => ∃ (s : Str) (x : Option D), env = [some (.loc k), some (.int m), some (.str "abcdefghijklmnopqrstuvwxyz0123456789"), some (.str s), x] ∧ Pre s ∧ s.length = t + 1 ∧ Src k (b + 1 + t) M' ∧ Keep k M M')
    (by simp; omega) (by omega) ⟨_, _, rfl, ⟨⟨c, [], rfl, hc⟩, fun x hx => by rw [show TL.tl ⟨#[c]⟩ = [c] from rfl] at hx; rw [List.mem_singleton.mp hx]; exact .inl hc⟩, rfl, s1, k1⟩ (by
      rintro t ht env M' ⟨s, x, rfl, hp, hl, sr, kp⟩
      obtain ⟨r, M2, e2, r0, r1, s2, k2⟩ := pick (n := n) (m := 36) sr (by omega) (by omega) (by omega)
      obtain ⟨c, ec, hc⟩ := l36_36 r.toNat (by omega)
      have x2 := sign_of (M := M2) r0 ec
      have x3 := pr_adds (M := M2) (a := s) (b := ⟨#[c]⟩) (by rw [hl, one_len, sl_eq]; omega)
      refine ⟨_, M2, ?_, s ++ ⟨#[c]⟩, some (.int t), rfl, hp.app hc, by rw [len_app, hl, one_len], s2, kp.trans k2⟩
      simp [e2, x2, x3])
  subst he
  have hin := inB_list (M := M2) hp.ok kws_ok
  have hk := run_kws (n := n) (M := M2)
  rw [run_at (d := ⟨2, 5, b__law_signs⟩) rfl rfl]
  have tr : ∀ d, trim M d M2 = M2 := fun d => trim_len k2.ln
  by_cases q : s ∈ kws
  · have x4 := pr_adds (M := M2) (a := s) (b := "0") (by rw [hl, show ("0" : Str).length = 1 from rfl, sl_eq]; omega)
    refine ⟨s ++ "0", M2, ?_, ⟨(hp.app (c := 48) (.inr (by omega))).hd, (hp.app (c := 48) (.inr (by omega))).al, ?_, ?_⟩, s2.mono (by omega), k2, by rw [len_app, hl]; omega⟩
    · simp [b__law_signs, e1, x1, hf, hk, hin, q, x4, tr]
    · rw [len_app]; have := kws_len q; have e : ("0" : Str).length = 1 := rfl; omega
    · intro hm
      have := kws_no0 hm
      rw [TL.tl_append] at this
      exact this (List.mem_append.mpr (.inr (by decide)))
  · refine ⟨s, M2, ?_, ⟨hp.hd, hp.al, by omega, q⟩, s2.mono (by omega), k2, by rw [hl]; omega⟩
    simp [b__law_signs, e1, x1, hf, hk, hin, q, tr]
theorem run_signs {n k b m : Nat} {M : Mem} (h : Src k b M) (hb : b < 900000000) (h1 : 1 ≤ m) (h2 : m ≤ 12) : ∃ w M', DP.run fs (n + 2) i__law_signs [.loc k, .int m] M = .ok (.str w) M' ∧ IsW w ∧ Src k (b + 12) M' ∧ Keep k M M' :=
  let ⟨w, M', a, b, c, d, _⟩ := run_signsL (n := n) h hb h1 h2
  ⟨w, M', a, b, c, d⟩
theorem run_dword {n k b : Nat} {M : Mem} (h : Src k b M) (hb : b < 900000000 - 20) : ∃ w M', DP.run fs (n + 3) i__law_word [.loc k] M = .ok (.str w) M' ∧ IsW w ∧ Src k (b + 14) M' ∧ Keep k M M' := by
  obtain ⟨r, M1, e1, r0, r1, s1, k1⟩ := pick (n := n + 1) (m := 4) h (by omega) (by omega) (by omega)
  rw [run_at (d := ⟨1, 1, b__law_word⟩) rfl rfl]
  by_cases q : r = 0
  · obtain ⟨r2, M2, e2, r20, r21, s2, k2⟩ := pick (n := n + 1) (m := 12) s1 (by omega) (by omega) (by omega)
    obtain ⟨w, M3, e3, hw, s3, k3⟩ := run_signs (n := n) (m := (1 + r2).toNat) s2 (by omega) (by omega) (by omega)
    rw [show (((1 + r2).toNat : Nat) : Int) = 1 + r2 by omega] at e3
    have kk := (k1.trans k2).trans k3
    have tr : ∀ d, trim M d M3 = M3 := fun d => trim_len kk.ln
    refine ⟨w, M3, ?_, hw, s3.mono (by omega), kk⟩
    simp [b__law_word, e1, q, e2, e3, tr]
  · obtain ⟨r2, M2, e2, r20, r21, s2, k2⟩ := pick (n := n + 1) (m := 3) s1 (by omega) (by omega) (by omega)
    obtain ⟨w, M3, e3, hw, s3, k3⟩ := run_signs (n := n) (m := (1 + r2).toNat) s2 (by omega) (by omega) (by omega)
    rw [show (((1 + r2).toNat : Nat) : Int) = 1 + r2 by omega] at e3
    have kk := (k1.trans k2).trans k3
    have tr : ∀ d, trim M d M3 = M3 := fun d => trim_len kk.ln
    refine ⟨w, M3, ?_, hw, s3.mono (by omega), kk⟩
    simp [b__law_word, e1, q, e2, e3, tr]
end K01

namespace K01
open PySem PySem.Spec PyProof.Rows L2 DP
theorem log_mid {x : Int} (h : x.natAbs < 10 ^ 40) : x.natAbs.log2 < 200 := by
  by_cases h0 : x.natAbs = 0
  · rw [h0]; decide
  · exact (Nat.log2_lt h0).mpr (Nat.lt_trans h (by decide))
theorem pr_mulB {M : Mem} {i j : Int} (h1 : i.natAbs < 10 ^ 40) (h2 : j.natAbs < 10 ^ 40) : pr .mul M [.int i, .int j] = some (.int (i * j), M) := by
  show prMul M [.int i, .int j] = _
  unfold prMul
  have a := log_mid h1
  have b := log_mid h2
  exact if_pos (by unfold mulFits; omega)
theorem pow_le {t : Nat} (h : t ≤ 31) : 10 ^ t ≤ 10 ^ 31 := Nat.pow_le_pow_right (by decide) h
theorem run_figure {n k b : Nat} {M : Mem} (h : Src k b M) (hb : b < 900000000 - 40) : ∃ i M', DP.run fs (n + 2) i__law_figure [.loc k] M = .ok (.int i) M' ∧ NumOk i ∧ Src k (b + 40) M' ∧ Keep k M M' := by
  obtain ⟨r, M1, e1, r0, r1, s1, k1⟩ := pick (n := n) (m := 4) h (by omega) (by omega) (by omega)
  rw [run_at (d := ⟨1, 3, b__law_figure⟩) rfl rfl]
  by_cases q : 0 < r
  · obtain ⟨r2, M2, e2, r20, r21, s2, k2⟩ := pick (n := n) (m := 12) s1 (by omega) (by omega) (by omega)
    have kk := k1.trans k2
    have tr : ∀ d, trim M d M2 = M2 := fun d => trim_len kk.ln
    refine ⟨r2 - 4, M2, ?_, ⟨by omega⟩, s2.mono (by omega), kk⟩
    simp [b__law_figure, e1, q, e2, tr]
  · obtain ⟨r2, M2, e2, r20, r21, s2, k2⟩ := pick (n := n) (m := 31) s1 (by omega) (by omega) (by omega)
    obtain ⟨m, hm⟩ : ∃ m : Nat, (1 + r2) = (m : Int) := ⟨(1 + r2).toNat, by omega⟩
    obtain ⟨env', M3, hf, v, x, he, hv, s3, k3⟩ := for_rng (call := DP.run fs (n + 1)) (M := M1) (M1 := M2) (i := 2) (m := m) (src := [(.pr .add [(.c (.int (1))), (.call i__law_pick [(.v 0), (.c (.int (31)))])])]) (env := [some (.loc k), some (.int 0), none])
      (body := [.asg (.nm 1) (.pr .add [(.pr .mul [(.v 1), (.c (.int (10)))]), (.call i__law_pick [(.v 0), (.c (.int (10)))])])])
      (fun t env M' => ∃ (v : Nat) (x : Option D), env = [some (.loc k), some (.int v), x] ∧ v < 10 ^ t ∧ Src k (b + 2 + t) M' ∧ Keep k M M')
      (by simp [e2, hm]) (by omega) ⟨0, _, rfl, by simp, s2, k1.trans k2⟩ (by
        rintro t ht env M' ⟨v, x, rfl, hv, sr, kp⟩
        obtain ⟨r, M4, e4, r40, r41, s4, k4⟩ := pick (n := n) (m := 10) sr (by omega) (by omega) (by omega)
        have hb31 : v < 10 ^ 31 := Nat.lt_of_lt_of_le hv (pow_le (by omega))
        have x1 := pr_mulB (M := M') (i := v) (j := 10) (by simp; exact Nat.lt_trans hb31 (by decide)) (by decide)
        refine ⟨_, M4, ?_, v * 10 + r.toNat, some (.int t), rfl, ?_, s4, kp.trans k4⟩
        · have e : ((v * 10 + r.toNat : Nat) : Int) = (v : Int) * 10 + r := by omega
          rw [e]
          simp [x1, e4]
        · rw [Nat.pow_succ]; omega)
    subst he
    obtain ⟨r5, M5, e5, r50, r51, s5, k5⟩ := pick (n := n) (m := 2) s3 (by omega) (by omega) (by omega)
    have hb31 : v < 10 ^ 31 := Nat.lt_of_lt_of_le hv (pow_le (by omega))
    have x2 := pr_mul (M := M5) (i := 2) (j := r5) (by omega) (by omega)
    have x1 := pr_mulB (M := M5) (i := v) (j := 1 - 2 * r5) (by simp; exact Nat.lt_trans hb31 (by decide)) (by
      have : (1 - 2 * r5).natAbs ≤ 1 := by omega
      exact Nat.lt_of_le_of_lt this (by decide))
    have kk := k3.trans k5
    have tr : ∀ d, trim M d M5 = M5 := fun d => trim_len kk.ln
    refine ⟨(v : Int) * (1 - 2 * r5), M5, ?_, ⟨?_⟩, s5.mono (by omega), kk⟩
    · simp [b__law_figure, e1, q, hf, x1, x2, e5, tr]
    · rw [Int.natAbs_mul]
      have : (1 - 2 * r5).natAbs = 1 := by omega
      rw [this]
      simpa using hb31
end K01

namespace K01
open PySem PySem.Spec PyProof.Rows L2 DP
def Inc (ns : List Int) : Prop := ∀ k, (h : k + 1 < ns.length) → ns[k] < ns[k + 1]
theorem Inc.snoc {ns : List Int} {v : Int} (h : Inc ns) (hv : ∀ k, (h : k + 1 = ns.length) → ns[k] < v) : Inc (ns ++ [v]) := by
  intro k hk
  simp at hk
  by_cases q : k + 1 < ns.length
  · rw [List.getElem_append_left (by omega), List.getElem_append_left q]
    exact h k q
  · have e : k + 1 = ns.length := by omega
    rw [List.getElem_append_left (by omega), List.getElem_append_right (by omega)]
    simp
    exact hv k e
structure Above (k : Nat) (M M' : Mem) : Prop where
  ln : M.length ≤ M'.length
  ot : ∀ j, j < M.length → j ≠ k → M'[j]? = M[j]?
theorem Keep.above {k : Nat} {M M' X : Mem} (h : Keep k M M') : Above k M (M' ++ X) := ⟨by have := h.ln; simp; omega, fun j hj hk => by rw [List.getElem?_append_left (by have := h.ln; omega)]; exact h.ot j hk⟩
theorem Above.keep {k : Nat} {M M' M'' : Mem} (h : Above k M M') (q : Keep k M' M'') : Above k M M'' := ⟨by have := h.ln; have := q.ln; omega, fun j hj hk => (q.ot j hk).trans (h.ot j hj hk)⟩
theorem Above.set {k j : Nat} {c : Cell} {M M' : Mem} (h : Above k M M') (hj : M.length ≤ j) : Above k M (M'.set j c) := ⟨by have := h.ln; simp; omega, fun i hi hk => by rw [List.getElem?_set_ne (by omega)]; exact h.ot i hi hk⟩
theorem Src.lt {k b : Nat} {M : Mem} (h : Src k b M) : k < M.length := by
  obtain ⟨s0, s1, s2, hm, _⟩ := h
  rw [List.getElem?_eq_some_iff] at hm
  exact hm.1
theorem Src.set {k b j : Nat} {c : Cell} {M : Mem} (h : Src k b M) (hj : j ≠ k) : Src k b (M.set j c) := by
  obtain ⟨s0, s1, s2, hm, r⟩ := h
  exact ⟨s0, s1, s2, by rw [List.getElem?_set_ne hj]; exact hm, r⟩
theorem Src.app {k b : Nat} {M X : Mem} (h : Src k b M) : Src k b (M ++ X) := by
  have := h.lt
  obtain ⟨s0, s1, s2, hm, r⟩ := h
  exact ⟨s0, s1, s2, by rw [List.getElem?_append_left this]; exact hm, r⟩
theorem Src.take {k b n : Nat} {M : Mem} (h : Src k b M) (hk : k < n) : Src k b (M.take n) := by
  obtain ⟨s0, s1, s2, hm, r⟩ := h
  exact ⟨s0, s1, s2, by rw [List.getElem?_take_of_lt hk]; exact hm, r⟩
theorem Above.take {k : Nat} {M M' : Mem} (h : Above k M M') : Keep k M (M'.take M.length) := by
  refine ⟨by have := h.ln; simp; omega, fun j hk => ?_⟩
  by_cases hj : j < M.length
  · rw [List.getElem?_take_of_lt hj]; exact h.ot j hj hk
  · rw [List.getElem?_eq_none (by simp; omega), List.getElem?_eq_none (by omega)]
theorem trim_above {k b : Nat} {M M' : Mem} {d : D} (h : Above k M M') (s : Src k b M') (hb : below M.length d = true) : trim M d M' = M'.take M.length := by
  unfold trim
  rw [if_pos]
  refine ⟨hb, h.ln, fun j hj => ?_⟩
  by_cases e : j = k
  · obtain ⟨s0, s1, s2, hm, r⟩ := s
    exact .inr ⟨_, by rw [e]; exact hm, rfl⟩
  · exact .inl (h.ot j hj e)
theorem belows_ints {n : Nat} : ∀ ns : List Int, belows n (ns.map .int) = true
  | [] => rfl
  | i :: ns => by simp [belows, below, belows_ints ns]
abbrev nB : List S := [.ex (.meth .append "list" (.v 2) [(.pr .add [(.pr .add [(.pr .idx [(.v 2), (.v 3)]), (.c (.int (1)))]), (.call i__law_pick [(.v 0), (.c (.int (9)))])])])]
theorem num_loop {n k b j m : Nat} {M Mx : Mem} {f : Int} (hm : Mx[j]? = some (.lst [.int f])) (hj : M.length ≤ j) (hk : k < M.length) (s : Src k b Mx) (a : Above k M Mx) (hb : b < 900000000) (hf : f.natAbs < 10 ^ 30) (h1 : 1 ≤ m) (h8 : m ≤ 8) (x : Option D) :
    ∃ (ns : List Int) (x : Option D) (M' : Mem), DP.exec (DP.run fs (n + 1)) (.for_ (.nm 3) .rng1 [(.pr .sub [(.v 1), (.c (.int (1)))])] nB) [some (.loc k), some (.int m), some (.loc j), none] Mx = .done .nx [some (.loc k), some (.int m), some (.loc j), x] M' ∧ ns.length = m ∧ (∀ i ∈ ns, NumOk i) ∧ Inc ns ∧ M'[j]? = some (.lst (ns.map .int)) ∧ Src k (b + 8) M' ∧ Above k M M' := by
  have sub : (m : Int) - 1 = ((m - 1 : Nat) : Int) := by omega
  obtain ⟨env', M', hF, ns, x, he, hl, hn, hi, hc, hs, ha⟩ := for_rng (call := DP.run fs (n + 1)) (M := Mx) (M1 := Mx) (i := 3) (m := m - 1) (src := [(.pr .sub [(.v 1), (.c (.int (1)))])]) (env := [some (.loc k), some (.int m), some (.loc j), none]) (body := nB)
    (fun t env M' => ∃ (ns : List Int) (x : Option D), env = [some (.loc k), some (.int m), some (.loc j), x] ∧ ns.length = t + 1 ∧ (∀ i ∈ ns, i.natAbs < 10 ^ 30 + 10 * t + 1) ∧ Inc ns ∧ M'[j]? = some (.lst (ns.map .int)) ∧ Src k (b + t) M' ∧ Above k M M')
    (by simp [sub]) (by omega) ⟨[f], none, rfl, rfl, fun i hi => by rw [List.mem_singleton.mp hi]; omega, fun k h => by simp at h, hm, s, a⟩ (by
      rintro t ht env M' ⟨ns, x, rfl, hl, hn, hi, hc, hs, ha⟩
      obtain ⟨r, M2, e2, r0, r1, s2, k2⟩ := pick (n := n) (m := 9) hs (by omega) (by omega) (by omega)
      have hty : (D.loc j).ty M' = some "list" := ty_loc hc
      have hix : pr .idx M' [.loc j, .int t] = some (.int ns[t], M') := pr_idx_loc hc (by rw [atI_nat]; simp [show t < ns.length by omega])
      have hc2 : M2[j]? = some (.lst (ns.map .int)) := by rw [k2.ot j (by omega)]; exact hc
      have hap := append_loc (d := .int (ns[t] + 1 + r)) hc2 (by rw [List.length_map, sl_eq]; omega)
      have hjl : j < M2.length := by
        rw [List.getElem?_eq_some_iff] at hc2
        exact hc2.1
      refine ⟨_, M2.set j (.lst (ns.map .int ++ [.int (ns[t] + 1 + r)])), ?_, ns ++ [ns[t] + 1 + r], some (.int t), rfl, by simp [hl], ?_, ?_, ?_, s2.set (by omega), (ha.keep k2).set hj⟩
      · simp [hty, hix, e2, hap]
      · intro i hi'
        rcases List.mem_append.mp hi' with hi' | hi'
        · have := hn i hi'; omega
        · rw [List.mem_singleton.mp hi']
          have := hn ns[t] (List.getElem_mem _)
          omega
      · refine hi.snoc fun k hk => ?_
        have : k = t := by omega
        subst this
        omega
      · rw [List.getElem?_set_self hjl]; simp)
  subst he
  exact ⟨ns, x, M', hF, by omega, fun i hi => ⟨by have := hn i hi; omega⟩, hi, hc, hs.mono (by omega), ha⟩
theorem run_numbers {n k b m : Nat} {M : Mem} (h : Src k b M) (hb : b < 900000000 - 100) (h1 : 1 ≤ m) (h8 : m ≤ 8) : ∃ (ns : List Int) (M' : Mem), DP.run fs (n + 3) i__law_numbers [.loc k, .int m] M = .ok (.tup (ns.map .int)) M' ∧ ns.length = m ∧ (∀ i ∈ ns, NumOk i) ∧ Inc ns ∧ Src k (b + 50) M' ∧ Keep k M M' := by
  obtain ⟨f, M1, e1, hf, s1, k1⟩ := run_figure (n := n) h (by omega)
  have hk := h.lt
  have l1 := k1.ln
  rw [run_at (d := ⟨2, 4, b__law_numbers⟩) rfl rfl]
  have hm1 : pr .listM M1 [.int f] = some (.loc M1.length, M1 ++ [.lst [.int f]]) := pr_listM (by simp [sl_eq])
  have hc1 : (M1 ++ [Cell.lst [.int f]])[M1.length]? = some (.lst [.int f]) := by rw [List.getElem?_append_right (Nat.le_refl _)]; simp
  have hix : pr .idx (M1 ++ [Cell.lst [.int f]]) [.loc M1.length, .int 0] = some (.int f, M1 ++ [Cell.lst [.int f]]) := pr_idx_loc hc1 (by rw [atI_0]; rfl)
  obtain ⟨A, hA⟩ : ∃ A : Int, A = (f.natAbs : Int) := ⟨_, rfl⟩
  obtain ⟨B, hB⟩ : ∃ B : Int, B = 10 ^ 30 := ⟨_, rfl⟩
  have hab : ∀ Mx, pr .abs Mx [.int f] = some (.int A, Mx) := fun Mx => by
    rw [hA]
    have : pr .abs Mx [.int f] = some (.int (if f < 0 then -f else f), Mx) := rfl
    rw [this]
    congr 3
    split <;> omega
  have hpw : ∀ Mx, pr .pow Mx [.int 10, .int 30] = some (.int B, Mx) := fun Mx => by
    rw [hB]
    show prPow Mx [.int 10, .int 30] = _
    rw [prPow, if_pos (by decide)]
    rfl
  by_cases q : B ≤ A
  · have hfd : ∀ Mx, pr .fdiv Mx [.int f, .int 1000] = some (.int (f / 1000), Mx) := fun Mx => pr_fdiv (by omega) (by omega)
    have hm2 : pr .listM (M1 ++ [Cell.lst [.int f]]) [.int (f / 1000)] = some (.loc (M1.length + 1), M1 ++ [Cell.lst [.int f], Cell.lst [.int (f / 1000)]]) := by
      rw [pr_listM (by simp [sl_eq])]; simp
    have hc2 : (M1 ++ [Cell.lst [.int f], Cell.lst [.int (f / 1000)]])[M1.length + 1]? = some (.lst [.int (f / 1000)]) := by rw [List.getElem?_append_right (by omega)]; simp
    obtain ⟨ns, x, M', hF, hl, hn, hi, hc, hs, ha⟩ := num_loop (n := n + 1) (M := M) (m := m) hc2 (by omega) hk s1.app k1.above (by omega) (by have := hf.h; omega) h1 h8 none
    have tr := trim_above (d := .tup (ns.map .int)) ha hs (by simp only [below]; exact belows_ints ns)
    refine ⟨ns, M'.take M.length, ?_, hl, hn, hi, (hs.take hk).mono (by omega), ha.take⟩
    have ht := pr_tuple_loc hc
    simp only [nB] at hF
    simp [b__law_numbers, e1, hm1, hix, hab, hpw, q, hfd, hm2, hF, ht, tr]
  · obtain ⟨ns, x, M', hF, hl, hn, hi, hc, hs, ha⟩ := num_loop (n := n + 1) (M := M) (m := m) hc1 (by omega) hk s1.app k1.above (by omega) (by omega) h1 h8 none
    have tr := trim_above (d := .tup (ns.map .int)) ha hs (by simp only [below]; exact belows_ints ns)
    refine ⟨ns, M'.take M.length, ?_, hl, hn, hi, (hs.take hk).mono (by omega), ha.take⟩
    have ht := pr_tuple_loc hc
    simp only [nB] at hF
    simp [b__law_numbers, e1, hm1, hix, hab, hpw, q, hF, ht, tr]
end K01

namespace K01
open PySem PySem.Spec PyProof.Rows L2 DP
theorem sg_at {r : Int} (h0 : 0 ≤ r) (h5 : r < 5) : ∃ g : Sg, atI [D.str ">=", .str "<=", .str "=", .str "in", .str "not in"] r = some (.str g.s) := by
  have : r = 0 ∨ r = 1 ∨ r = 2 ∨ r = 3 ∨ r = 4 := by omega
  rcases this with h | h | h | h | h <;> subst h
  · exact ⟨.ge, rfl⟩
  · exact ⟨.le, rfl⟩
  · exact ⟨.eq, rfl⟩
  · exact ⟨.in_, rfl⟩
  · exact ⟨.nin, rfl⟩
theorem sg_in {M : Mem} (g : Sg) : pr .in_ M [.str g.s, .tup [(.str "in"), (.str "not in")]] = some (.bl g.many, M) := by
  cases g <;> exact lit_in _ ["in", "not in"] rfl (by simp)
theorem run_dcond {n k b : Nat} {M : Mem} (h : Src k b M) (hb : b < 900000000 - 200) : ∃ (c : Cnd) (M' : Mem), DP.run fs (n + 4) i__law_any_cond [.loc k] M = .ok c.d M' ∧ c.Ok ∧ Src k (b + 70) M' ∧ Keep k M M' := by
  obtain ⟨r, M1, e1, r0, r1, s1, k1⟩ := pick (n := n + 2) (m := 5) h (by omega) (by omega) (by omega)
  obtain ⟨g, hg⟩ := sg_at r0 r1
  have hl : pr .list M [(.str ">="), (.str "<="), (.str "="), (.str "in"), (.str "not in")] = some (.list [(.str ">="), (.str "<="), (.str "="), (.str "in"), (.str "not in")], M) := pr_list (by simp [sl_eq])
  have hin := sg_in (M := M1) g
  rw [run_at (d := ⟨1, 3, b__law_any_cond⟩) rfl rfl]
  have fini : ∀ (m : Nat) (M2 : Mem), 1 ≤ m → m ≤ 8 → (g.many = false → m = 1) → Src k (b + 3) M2 → Keep k M M2 → ∃ (c : Cnd) (w : Str) (M3 M4 : Mem), DP.run fs (n + 3) i__law_word [.loc k] M2 = .ok (.str w) M3 ∧ DP.run fs (n + 3) i__law_numbers [.loc k, .int m] M3 = .ok (.tup (c.ns.map .int)) M4 ∧ c.w = w ∧ c.g = g ∧ c.Ok ∧ Src k (b + 70) M4 ∧ Keep k M M4 := by
    intro m M2 h1 h8 hone s2 k2
    obtain ⟨w, M3, e3, hw, s3, k3⟩ := run_dword (n := n) s2 (by omega)
    obtain ⟨ns, M4, e4, hl, hn, hi, s4, k4⟩ := run_numbers (n := n) (m := m) s3 (by omega) h1 h8
    exact ⟨⟨w, g, ns⟩, w, M3, M4, e3, e4, rfl, rfl, ⟨hw, hn, by show 1 ≤ ns.length; omega, by show ns.length ≤ 8; omega, fun q => hl.trans (hone q), hi⟩, s4.mono (by omega), (k2.trans k3).trans k4⟩
  cases hm : g.many
  · rw [hm] at hin
    obtain ⟨c, w, M3, M4, e3, e4, hw, hg2, ok, s4, k4⟩ := fini 1 M1 (by omega) (by omega) (fun _ => rfl) (s1.mono (by omega)) k1
    have tr : ∀ d, trim M d M4 = M4 := fun d => trim_len k4.ln
    refine ⟨c, M4, ?_, ok, s4, k4⟩
    have e4' : DP.run fs (n + 3) i__law_numbers [.loc k, .int 1] M3 = .ok (.tup (c.ns.map .int)) M4 := e4
    simp [b__law_any_cond, hl, e1, hg, hin, e3, e4', tr, Cnd.d, hw, hg2]
  · rw [hm] at hin
    obtain ⟨r2, M2, e2, r20, r21, s2, k2⟩ := pick (n := n + 2) (m := 4) s1 (by omega) (by omega) (by omega)
    by_cases q : r2 = 0
    · obtain ⟨r5, M5, e5, r50, r51, s5, k5⟩ := pick (n := n + 2) (m := 8) s2 (by omega) (by omega) (by omega)
      obtain ⟨c, w, M3, M4, e3, e4, hw, hg2, ok, s4, k4⟩ := fini (1 + r5).toNat M5 (by omega) (by omega) (fun h => by rw [hm] at h; cases h) (s5.mono (by omega)) ((k1.trans k2).trans k5)
      rw [show (((1 + r5).toNat : Nat) : Int) = 1 + r5 by omega] at e4
      have tr : ∀ d, trim M d M4 = M4 := fun d => trim_len k4.ln
      refine ⟨c, M4, ?_, ok, s4, k4⟩
      simp [b__law_any_cond, hl, e1, hg, hin, e2, q, e5, e3, e4, tr, Cnd.d, hw, hg2]
    · obtain ⟨r5, M5, e5, r50, r51, s5, k5⟩ := pick (n := n + 2) (m := 3) s2 (by omega) (by omega) (by omega)
      obtain ⟨c, w, M3, M4, e3, e4, hw, hg2, ok, s4, k4⟩ := fini (1 + r5).toNat M5 (by omega) (by omega) (fun h => by rw [hm] at h; cases h) (s5.mono (by omega)) ((k1.trans k2).trans k5)
      rw [show (((1 + r5).toNat : Nat) : Int) = 1 + r5 by omega] at e4
      have tr : ∀ d, trim M d M4 = M4 := fun d => trim_len k4.ln
      refine ⟨c, M4, ?_, ok, s4, k4⟩
      simp [b__law_any_cond, hl, e1, hg, hin, e2, q, e5, e3, e4, tr, Cnd.d, hw, hg2]
theorem dconds_comp {n k b m : Nat} {M M0 : Mem} {a : D} {env : DP.Env} (he : env = [some (.loc k), some a, some a', some (.int m), none]) (h : Src k b M) (hk : Keep k M0 M) (hb : b < 900000000 - 2000) (hm : m ≤ 13) :
    ∃ (cs : List Cnd) (M' : Mem), ev (DP.run fs (n + 4)) (.comp false [4] (.nm 4) .rng1 [(.v 3)] none (.call i__law_any_cond [(.v 0)])) env M = .ok (.list (cs.map Cnd.d)) M' ∧ cs.length = m ∧ (∀ c ∈ cs, c.Ok) ∧ Src k (b + 70 * m) M' ∧ Keep k M0 M' := by
  subst he
  obtain ⟨ds, M', e, hl, ha, hs, hk⟩ := comp_rng (call := DP.run fs (n + 4)) (env := [some (.loc k), some a, some a', some (.int m), none]) (M := M) (M1 := M) (own := [4]) (i := 4) (src := [(.v 3)]) (elt := .call i__law_any_cond [(.v 0)]) (m := m) (Q := fun d => ∃ c : Cnd, d = c.d ∧ c.Ok)
    (fun t M' => Src k (b + 70 * t) M' ∧ Keep k M0 M') (by simp) (by omega) ⟨h, hk⟩ (by
      rintro t ht M' ⟨sr, kp⟩
      obtain ⟨c, M2, e2, hc, s2, k2⟩ := run_dcond (n := n) sr (by omega)
      refine ⟨c.d, M2, ?_, ⟨c, rfl, hc⟩, s2.mono (by omega), kp.trans k2⟩
      simp [e2])
  obtain ⟨cs, rfl, hcs⟩ := lift_map ha
  exact ⟨cs, M', e, by simpa using hl, hcs, hs, hk⟩
theorem dconds_a {C : Nat → List D → Mem → Res D} {X : E} {M M1 M2 M3 : Mem} {k lo hi : Nat} {r2 : Int} {cs : List Cnd} (e1 : C i__law_pick [.loc k, .int 4] M = .ok (.int 0) M1) (e2 : C i__law_pick [.loc k, .int ((hi : Int) - lo + 1)] M1 = .ok (.int r2) M2) (m : Nat) (hm : (lo : Int) + r2 = m)
  (e3 : ev C X [some (.loc k), some (.int lo), some (.int hi), some (.int m), none] M2 = .ok (.list (cs.map Cnd.d)) M3) (tr : ∀ d, trim M d M3 = M3) :
  fin M (DP.execs C [
    .asg (.nm 3) (.ite (.pr .eq [(.call i__law_pick [(.v 0), (.c (.int (4)))]), (.c (.int (0)))]) (.pr .add [(.v 1), (.call i__law_pick [(.v 0), (.pr .add [(.pr .sub [(.v 2), (.v 1)]), (.c (.int (1)))])])]) (.pr .add [(.v 1), (.call i__law_pick [(.v 0), (.c (.int (2)))])])),
    .ret (.pr .tuple_ [X])] [some (.loc k), some (.int lo), some (.int hi), none, none] M) = .ok (.tup (cs.map Cnd.d)) M3 := by
  simp [e1, e2, hm, e3, tr]
theorem dconds_b {C : Nat → List D → Mem → Res D} {X : E} {M M1 M2 M3 : Mem} {k lo hi : Nat} {r r2 : Int} {cs : List Cnd} (e1 : C i__law_pick [.loc k, .int 4] M = .ok (.int r) M1) (q : ¬ r = 0) (e2 : C i__law_pick [.loc k, .int 2] M1 = .ok (.int r2) M2) (m : Nat) (hm : (lo : Int) + r2 = m)
  (e3 : ev C X [some (.loc k), some (.int lo), some (.int hi), some (.int m), none] M2 = .ok (.list (cs.map Cnd.d)) M3) (tr : ∀ d, trim M d M3 = M3) :
  fin M (DP.execs C [
    .asg (.nm 3) (.ite (.pr .eq [(.call i__law_pick [(.v 0), (.c (.int (4)))]), (.c (.int (0)))]) (.pr .add [(.v 1), (.call i__law_pick [(.v 0), (.pr .add [(.pr .sub [(.v 2), (.v 1)]), (.c (.int (1)))])])]) (.pr .add [(.v 1), (.call i__law_pick [(.v 0), (.c (.int (2)))])])),
    .ret (.pr .tuple_ [X])] [some (.loc k), some (.int lo), some (.int hi), none, none] M) = .ok (.tup (cs.map Cnd.d)) M3 := by
  simp [e1, q, e2, hm, e3, tr]
theorem run_dconds {n k b lo hi : Nat} {M : Mem} (h : Src k b M) (hb : b < 900000000 - 3000) (h1 : 1 ≤ lo) (h2 : lo + 1 ≤ hi) (h13 : hi ≤ 13) : ∃ (cs : List Cnd) (M' : Mem), DP.run fs (n + 5) i__law_any_conds [.loc k, .int lo, .int hi] M = .ok (.tup (cs.map Cnd.d)) M' ∧ CsOk cs lo hi ∧ Src k (b + 1000) M' ∧ Keep k M M' := by
  obtain ⟨r, M1, e1, r0, r1, s1, k1⟩ := pick (n := n + 3) (m := 4) h (by omega) (by omega) (by omega)
  rw [run_at (d := ⟨3, 5, b__law_any_conds⟩) rfl rfl]
  by_cases q : r = 0
  · obtain ⟨r2, M2, e2, r20, r21, s2, k2⟩ := pick (n := n + 3) (m := (hi : Int) - lo + 1) s1 (by omega) (by omega) (by omega)
    obtain ⟨m, hm⟩ : ∃ m : Nat, (lo : Int) + r2 = m := ⟨((lo : Int) + r2).toNat, by omega⟩
    obtain ⟨cs, M3, e3, hl, hc, s3, k3⟩ := dconds_comp (n := n) (a := .int lo) (a' := .int hi) (m := m) rfl s2 (k1.trans k2) (by omega) (by omega)
    have tr : ∀ d, trim M d M3 = M3 := fun d => trim_len k3.ln
    refine ⟨cs, M3, ?_, ⟨hc, by omega, by omega⟩, s3.mono (by omega), k3⟩
    subst q
    exact dconds_a e1 e2 m hm e3 tr
  · obtain ⟨r2, M2, e2, r20, r21, s2, k2⟩ := pick (n := n + 3) (m := 2) s1 (by omega) (by omega) (by omega)
    obtain ⟨m, hm⟩ : ∃ m : Nat, (lo : Int) + r2 = m := ⟨((lo : Int) + r2).toNat, by omega⟩
    obtain ⟨cs, M3, e3, hl, hc, s3, k3⟩ := dconds_comp (n := n) (a := .int lo) (a' := .int hi) (m := m) rfl s2 (k1.trans k2) (by omega) (by omega)
    have tr : ∀ d, trim M d M3 = M3 := fun d => trim_len k3.ln
    refine ⟨cs, M3, ?_, ⟨hc, by omega, by omega⟩, s3.mono (by omega), k3⟩
    exact dconds_b e1 q e2 m hm e3 tr
theorem mostS_at {r : Int} (h : r = 5 ∨ r = 6) : atI [D.str "most", .str "least"] (r - 5) = some (.str (mostS (decide (r = 5)))) := by
  rcases h with h | h <;> subst h <;> rfl
theorem run_dform {n k b : Nat} {M : Mem} (h : Src k b M) (hb : b < 900000000 - 5000) : ∃ (f : Frm) (M' : Mem), DP.run fs (n + 6) i__law_any_form [.loc k] M = .ok f.d M' ∧ f.Ok ∧ Src k (b + 1200) M' ∧ Keep k M M' := by
  obtain ⟨r, M1, e1, r0, r1, s1, k1⟩ := pick (n := n + 4) (m := 7) h (by omega) (by omega) (by omega)
  rw [run_at (d := ⟨1, 3, b__law_any_form⟩) rfl rfl]
  have fin' : ∀ {M' : Mem}, Keep k M M' → ∀ d, trim M d M' = M' := fun kk d => trim_len kk.ln
  have : r = 0 ∨ r = 1 ∨ r = 2 ∨ r = 3 ∨ r = 4 ∨ (r = 5 ∨ r = 6) := by omega
  rcases this with h | h | h | h | h | h
  · subst h
    obtain ⟨c, M2, e2, hc, s2, k2⟩ := run_dcond (n := n + 1) s1 (by omega)
    refine ⟨.bas (.is c), M2, ?_, hc, s2.mono (by omega), k1.trans k2⟩
    simp [b__law_any_form, e1, e2, fin' (k1.trans k2), Frm.d, Bas.d]
  · subst h
    obtain ⟨w, M2, e2, hw, s2, k2⟩ := run_dword (n := n + 2) s1 (by omega)
    obtain ⟨i, M3, e3, hi, s3, k3⟩ := run_figure (n := n + 3) s2 (by omega)
    obtain ⟨v, M4, e4, hv, s4, k4⟩ := run_dword (n := n + 2) s3 (by omega)
    have kk := ((k1.trans k2).trans k3).trans k4
    refine ⟨.bas (.order w i v), M4, ?_, ⟨hw, hi, hv⟩, s4.mono (by omega), kk⟩
    simp [b__law_any_form, e1, e2, e3, e4, fin' kk, Frm.d, Bas.d]
  · subst h
    obtain ⟨cs, M2, e2, hc, s2, k2⟩ := run_dconds (n := n) (lo := 2) (hi := 13) s1 (by omega) (by omega) (by omega) (by omega)
    have e2' : DP.run fs (n + 5) i__law_any_conds [.loc k, .int 2, .int 13] M1 = .ok (.tup (cs.map Cnd.d)) M2 := e2
    refine ⟨.either cs, M2, ?_, hc, s2.mono (by omega), k1.trans k2⟩
    simp [b__law_any_form, e1, e2', fin' (k1.trans k2), Frm.d]
  · subst h
    obtain ⟨cs, M2, e2, hc, s2, k2⟩ := run_dconds (n := n) (lo := 1) (hi := 8) s1 (by omega) (by omega) (by omega) (by omega)
    have e2' : DP.run fs (n + 5) i__law_any_conds [.loc k, .int 1, .int 8] M1 = .ok (.tup (cs.map Cnd.d)) M2 := e2
    obtain ⟨c, M3, e3, hc3, s3, k3⟩ := run_dcond (n := n + 1) s2 (by omega)
    have kk := (k1.trans k2).trans k3
    refine ⟨.ifs cs (.is c), M3, ?_, ⟨hc, hc3⟩, s3.mono (by omega), kk⟩
    simp [b__law_any_form, e1, e2', e3, fin' kk, Frm.d, Bas.d]
  · subst h
    obtain ⟨w, M2, e2, hw, s2, k2⟩ := run_dword (n := n + 2) s1 (by omega)
    obtain ⟨i, M3, e3, hi, s3, k3⟩ := run_figure (n := n + 3) s2 (by omega)
    obtain ⟨v, M4, e4, hv, s4, k4⟩ := run_dword (n := n + 2) s3 (by omega)
    obtain ⟨cs, M5, e5, hc, s5, k5⟩ := run_dconds (n := n) (lo := 1) (hi := 8) s4 (by omega) (by omega) (by omega) (by omega)
    have e5' : DP.run fs (n + 5) i__law_any_conds [.loc k, .int 1, .int 8] M4 = .ok (.tup (cs.map Cnd.d)) M5 := e5
    have kk := (((k1.trans k2).trans k3).trans k4).trans k5
    refine ⟨.ifs cs (.order w i v), M5, ?_, ⟨hc, hw, hi, hv⟩, s5.mono (by omega), kk⟩
    simp [b__law_any_form, e1, e2, e3, e4, e5', fin' kk, Frm.d, Bas.d]
  · have hat := mostS_at h
    have hl : pr .list M1 [(.str "most"), (.str "least")] = some (.list [(.str "most"), (.str "least")], M1) := pr_list (by simp [sl_eq])
    obtain ⟨i, M2, e2, hi, s2, k2⟩ := run_figure (n := n + 3) s1 (by omega)
    obtain ⟨cs, M3, e3, hc, s3, k3⟩ := run_dconds (n := n) (lo := 1) (hi := 8) s2 (by omega) (by omega) (by omega) (by omega)
    have e3' : DP.run fs (n + 5) i__law_any_conds [.loc k, .int 1, .int 8] M2 = .ok (.tup (cs.map Cnd.d)) M3 := e3
    have kk := (k1.trans k2).trans k3
    refine ⟨.at_ (decide (r = 5)) i cs, M3, ?_, ⟨hi, hc⟩, s3.mono (by omega), kk⟩
    have hd : (Frm.at_ (decide (r = 5)) i cs).d = .tup [.str (mostS (decide (r = 5))), .int i, .tup (cs.map Cnd.d)] := rfl
    rw [hd]
    generalize mostS (decide (r = 5)) = u at hat
    have n0 : ¬ r = 0 := by omega
    have n1 : ¬ r = 1 := by omega
    have n2 : ¬ r = 2 := by omega
    have n3 : ¬ r = 3 := by omega
    have n4 : ¬ r = 4 := by omega
    simp [b__law_any_form, e1, hl, hat, e2, e3', fin' kk, Frm.d, n0, n1, n2, n3, n4]
end K01

namespace K01
open PySem PySem.Spec PyProof.Rows L2 DP
theorem dwords_a {C : Nat → List D → Mem → Res D} {X : E} {M M3 : Mem} {k : Nat} {ws : List D} (e3 : ev C X [some (.loc k), none] M = .ok (.list ws) M3) (tr : ∀ d, trim M d M3 = M3) :
  fin M (DP.execs C [.ret (.pr .tuple_ [X])] [some (.loc k), none] M) = .ok (.tup ws) M3 := by
  simp [e3, tr]
theorem run_dwords {n k b : Nat} {M : Mem} (h : Src k b M) (hb : b < 900000000 - 200) : ∃ (ws : List Str) (M' : Mem), DP.run fs (n + 4) i__law_any_words [.loc k] M = .ok (.tup (ws.map .str)) M' ∧ WsOk ws ∧ Src k (b + 60) M' ∧ Keep k M M' := by
  obtain ⟨r, M1, e1, r0, r1, s1, k1⟩ := pick (n := n + 2) (m := 4) h (by omega) (by omega) (by omega)
  obtain ⟨m, hm⟩ : ∃ m : Nat, (1 : Int) + r = m := ⟨(1 + r).toNat, by omega⟩
  obtain ⟨ds, M', e, hl, ha, hs, hk⟩ := comp_rng (call := DP.run fs (n + 3)) (env := [some (.loc k), none]) (M := M) (M1 := M1) (own := [1]) (i := 1) (src := [(.pr .add [(.c (.int (1))), (.call i__law_pick [(.v 0), (.c (.int (4)))])])]) (elt := .call i__law_word [(.v 0)]) (m := m) (Q := fun d => ∃ w : Str, d = .str w ∧ IsW w)
    (fun t M' => Src k (b + 1 + 14 * t) M' ∧ Keep k M M') (by simp [e1, hm]) (by omega) ⟨s1, k1⟩ (by
      rintro t ht M' ⟨sr, kp⟩
      obtain ⟨w, M2, e2, hw, s2, k2⟩ := run_dword (n := n) sr (by omega)
      refine ⟨.str w, M2, ?_, ⟨w, rfl, hw⟩, s2.mono (by omega), kp.trans k2⟩
      simp [e2])
  obtain ⟨ws, rfl, hws⟩ := lift_map ha
  rw [List.length_map] at hl
  refine ⟨ws, M', ?_, ⟨hws, by omega, by omega⟩, hs.mono (by omega), hk⟩
  rw [run_at (d := ⟨1, 2, b__law_any_words⟩) rfl rfl]
  exact dwords_a e fun d => trim_len hk.ln
/-! ### lines -/
theorem useS_at {r : Int} (h : r = 5 ∨ r = 6) : atI [D.str "use", .str "mustuse"] (r - 5) = some (.str (useS (decide (r = 6)))) := by
  rcases h with h | h <;> subst h <;> rfl
abbrev bLine1 : List S := b__law_any_line.take 3
abbrev bLine2 : S := .ret (.ite (.pr .le [(.pr .len [(.call i__law_line [(.v 2)])]), (.c (.int (800)))]) (.v 2) (.pr .tup [(.c (.str "end"))]))
theorem line_end {n : Nat} {M : Mem} {a b : Option D} {l : Lin} (h : l.Ok) : ∃ l2 : Lin, l2.Ok ∧ l2.t.length ≤ 800 ∧ DP.exec (DP.run fs (n + 6)) bLine2 [a, b, some l.d] M = .done (.rt l2.d) [a, b, some l.d] M := by
  have e := run_line (n := n + 2) (M := M) h
  have hl := lT_len h
  have e2 : pr .len M [.str l.t] = some (.int l.t.length, M) := pr_len_str (by rw [sl_eq]; omega)
  by_cases q : l.t.length ≤ 800
  · refine ⟨l, h, q, ?_⟩
    have q2 : (l.t.length : Int) ≤ 800 := by omega
    simp [e, e2, q2]
  · refine ⟨.fin_, trivial, by decide, ?_⟩
    have q2 : ¬ (l.t.length : Int) ≤ 800 := by omega
    rw [show Lin.fin_.d = .tup [.str "end"] from rfl]
    generalize l.d = d at e ⊢
    simp [e, e2, q2]
theorem line_fin {C : Nat → List D → Mem → Res D} {M M1 : Mem} {k : Nat} {a : Option D} {d d2 : D} {X Y : List S} {Z : S} (e1 : DP.execs C X [some (.loc k), none, none] M = .done .nx [some (.loc k), a, some d] M1)
    (e2 : DP.exec C Z [some (.loc k), a, some d] M1 = .done (.rt d2) [some (.loc k), a, some d] M1) (tr : ∀ d, trim M d M1 = M1) (hY : Y = X ++ [Z]) : fin M (DP.execs C Y [some (.loc k), none, none] M) = .ok d2 M1 := by
  have app : ∀ (X : List S) env M, DP.execs C (X ++ [Z]) env M = match DP.execs C X env M with | .done .nx env1 M1 => DP.execs C [Z] env1 M1 | r => r := by
    intro X
    induction X with
    | nil => intro env M; rw [List.nil_append, exs_nil]
    | cons s X ih =>
      intro env M
      rw [List.cons_append, exs_cons, exs_cons]
      cases DP.exec C s env M with
      | bad => rfl
      | done f env1 M1 =>
        cases f with
        | nx => exact ih env1 M1
        | _ => rfl
  subst hY
  rw [app, e1]
  show fin M (DP.execs C [Z] _ M1) = _
  rw [exs_cons, e2]
  show Res.ok d2 (trim M d2 M1) = _
  rw [tr]
theorem run_dline0 {n k b : Nat} {M : Mem} (h : Src k b M) (hb : b < 900000000 - 6000) : ∃ (l : Lin) (M' : Mem) (a : Option D), DP.execs (DP.run fs (n + 6)) bLine1 [some (.loc k), none, none] M = .done .nx [some (.loc k), a, some l.d] M' ∧ l.Ok ∧ Src k (b + 1300) M' ∧ Keep k M M' := by
  obtain ⟨r, M1, e1, r0, r1, s1, k1⟩ := pick (n := n + 5) (m := 9) h (by omega) (by omega) (by omega)
  have hb1 : bLine1 = [
    .asg (.nm 1) (.call i__law_pick [(.v 0), (.c (.int (9)))]),
    .asg (.nm 2) (.pr .tup [(.c (.str "end"))]),
    .ife (.pr .eq [(.v 1), (.c (.int (0)))]) [.asg (.nm 2) (.pr .tup [(.c (.str "name")), (.call i__law_word [(.v 0)]), (.call i__law_figure [(.v 0)]), (.call i__law_figure [(.v 0)])])] [.ife (.pr .le [(.v 1), (.c (.int (3)))]) [.asg (.nm 2) (.pr .tup [(.c (.str "row")), (.call i__law_word [(.v 0)]), (.call i__law_any_form [(.v 0)])])] [.ife (.pr .eq [(.v 1), (.c (.int (4)))]) [.asg (.nm 2) (.pr .tup [(.c (.str "must")), (.call i__law_word [(.v 0)]), (.call i__law_any_form [(.v 0)])])] [.ife (.pr .le [(.v 1), (.c (.int (6)))]) [.asg (.nm 2) (.pr .tup [(.pr .idx [(.pr .list [(.c (.str "use")), (.c (.str "mustuse"))]), (.pr .sub [(.v 1), (.c (.int (5)))])]), (.call i__law_word [(.v 0)]), (.call i__law_word [(.v 0)]), (.call i__law_any_words [(.v 0)])])] [.ife (.pr .eq [(.v 1), (.c (.int (7)))]) [.asg (.nm 2) (.pr .tup [(.c (.str "block")), (.call i__law_word [(.v 0)]), (.call i__law_any_words [(.v 0)])])] [.ife (.pr .eq [(.call i__law_pick [(.v 0), (.c (.int (2)))]), (.c (.int (0)))]) [.asg (.nm 2) (.pr .tup [(.c (.str "close")), (.call i__law_word [(.v 0)])])] []]]]]]] := rfl
  rw [hb1]
  by_cases h0 : r = 0
  · obtain ⟨w, M2, e2, hw, s2, k2⟩ := run_dword (n := n + 3) s1 (by omega)
    obtain ⟨i, M3, e3, hi, s3, k3⟩ := run_figure (n := n + 4) s2 (by omega)
    obtain ⟨j, M4, e4, hj, s4, k4⟩ := run_figure (n := n + 4) s3 (by omega)
    refine ⟨.name w i j, M4, some (.int r), ?_, ⟨hw, hi, hj⟩, s4.mono (by omega), ((k1.trans k2).trans k3).trans k4⟩
    simp [e1, h0, e2, e3, e4, Lin.d]
  by_cases h3 : r ≤ 3
  · obtain ⟨w, M2, e2, hw, s2, k2⟩ := run_dword (n := n + 3) s1 (by omega)
    obtain ⟨f, M3, e3, hf, s3, k3⟩ := run_dform (n := n) s2 (by omega)
    refine ⟨.frm false w f, M3, some (.int r), ?_, ⟨hw, hf⟩, s3.mono (by omega), (k1.trans k2).trans k3⟩
    simp [e1, h0, h3, e2, e3, Lin.d, rowS]
  by_cases h4 : r = 4
  · obtain ⟨w, M2, e2, hw, s2, k2⟩ := run_dword (n := n + 3) s1 (by omega)
    obtain ⟨f, M3, e3, hf, s3, k3⟩ := run_dform (n := n) s2 (by omega)
    refine ⟨.frm true w f, M3, some (.int r), ?_, ⟨hw, hf⟩, s3.mono (by omega), (k1.trans k2).trans k3⟩
    simp [e1, h4, e2, e3, Lin.d, rowS]
  by_cases h6 : r ≤ 6
  · have hat := useS_at (r := r) (by omega)
    have hl : pr .list M1 [(.str "use"), (.str "mustuse")] = some (.list [(.str "use"), (.str "mustuse")], M1) := pr_list (by simp [sl_eq])
    obtain ⟨w, M2, e2, hw, s2, k2⟩ := run_dword (n := n + 3) s1 (by omega)
    obtain ⟨v, M3, e3, hv, s3, k3⟩ := run_dword (n := n + 3) s2 (by omega)
    obtain ⟨ws, M4, e4, hws, s4, k4⟩ := run_dwords (n := n + 2) s3 (by omega)
    refine ⟨.use (decide (r = 6)) w v ws, M4, some (.int r), ?_, ⟨hw, hv, hws⟩, s4.mono (by omega), ((k1.trans k2).trans k3).trans k4⟩
    have hd : (Lin.use (decide (r = 6)) w v ws).d = .tup [.str (useS (decide (r = 6))), .str w, .str v, .tup (ws.map .str)] := rfl
    rw [hd]
    generalize useS (decide (r = 6)) = u at hat
    simp [e1, h0, h3, h4, h6, hl, hat, e2, e3, e4]
  by_cases h7 : r = 7
  · obtain ⟨w, M2, e2, hw, s2, k2⟩ := run_dword (n := n + 3) s1 (by omega)
    obtain ⟨ws, M3, e3, hws, s3, k3⟩ := run_dwords (n := n + 2) s2 (by omega)
    refine ⟨.block w ws, M3, some (.int r), ?_, ⟨hw, hws⟩, s3.mono (by omega), (k1.trans k2).trans k3⟩
    simp [e1, h7, e2, e3, Lin.d]
  obtain ⟨r2, M2, e2, r20, r21, s2, k2⟩ := pick (n := n + 5) (m := 2) s1 (by omega) (by omega) (by omega)
  by_cases q : r2 = 0
  · obtain ⟨w, M3, e3, hw, s3, k3⟩ := run_dword (n := n + 3) s2 (by omega)
    refine ⟨.close w, M3, some (.int r), ?_, hw, s3.mono (by omega), (k1.trans k2).trans k3⟩
    simp [e1, h0, h3, h4, h6, h7, e2, q, e3, Lin.d]
  · refine ⟨.fin_, M2, some (.int r), ?_, trivial, s2.mono (by omega), k1.trans k2⟩
    simp [e1, h0, h3, h4, h6, h7, e2, q, Lin.d]
theorem run_dline {n k b : Nat} {M : Mem} (h : Src k b M) (hb : b < 900000000 - 6000) : ∃ (l : Lin) (M' : Mem), DP.run fs (n + 7) i__law_any_line [.loc k] M = .ok l.d M' ∧ l.Ok ∧ l.t.length ≤ 800 ∧ Src k (b + 1300) M' ∧ Keep k M M' := by
  obtain ⟨l, M1, a, e, hl, s, kp⟩ := run_dline0 (n := n) h hb
  obtain ⟨l2, h2, h8, e2⟩ := line_end (n := n) (M := M1) (a := some (.loc k)) (b := a) hl
  refine ⟨l2, M1, ?_, h2, h8, s, kp⟩
  rw [run_at (d := ⟨1, 3, b__law_any_line⟩) rfl rfl]
  exact line_fin e e2 (fun d => trim_len kp.ln) rfl
theorem dlines_a {C : Nat → List D → Mem → Res D} {X : E} {M M3 : Mem} {k m : Nat} {ws : List D} (e3 : ev C X [some (.loc k), some (.int m), none] M = .ok (.list ws) M3) (tr : ∀ d, trim M d M3 = M3) :
  fin M (DP.execs C [.ret X] [some (.loc k), some (.int m), none] M) = .ok (.list ws) M3 := by
  simp [e3, tr]
theorem run_dlines {n k b m : Nat} {M : Mem} (h : Src k b M) (hb : b < 800000000) (hm : m ≤ 20) : ∃ (ls : List Lin) (M' : Mem), DP.run fs (n + 8) i__law_any_lines [.loc k, .int m] M = .ok (.list (ls.map Lin.d)) M' ∧ ls.length = m ∧ (∀ l ∈ ls, l.Ok ∧ l.t.length ≤ 800) ∧ Src k (b + 26000) M' ∧ Keep k M M' := by
  obtain ⟨ds, M', e, hl, ha, hs, hk⟩ := comp_rng (call := DP.run fs (n + 7)) (env := [some (.loc k), some (.int m), none]) (M := M) (M1 := M) (own := [2]) (i := 2) (src := [(.v 1)]) (elt := .call i__law_any_line [(.v 0)]) (m := m) (Q := fun d => ∃ l : Lin, d = l.d ∧ (l.Ok ∧ l.t.length ≤ 800))
    (fun t M' => Src k (b + 1300 * t) M' ∧ Keep k M M') (by simp) (by omega) ⟨h, Keep.rfl'⟩ (by
      rintro t ht M' ⟨sr, kp⟩
      obtain ⟨l, M2, e2, h1, h2, s2, k2⟩ := run_dline (n := n) sr (by omega)
      refine ⟨l.d, M2, ?_, ⟨l, rfl, h1, h2⟩, s2.mono (by omega), kp.trans k2⟩
      simp [e2])
  obtain ⟨ls, rfl, hls⟩ := lift_map ha
  rw [List.length_map] at hl
  refine ⟨ls, M', ?_, hl, hls, hs.mono (by omega), hk⟩
  rw [run_at (d := ⟨2, 3, b__law_any_lines⟩) rfl rfl]
  exact dlines_a e fun d => trim_len hk.ln
end K01

namespace K01
open PySem PySem.Spec PyProof.Rows L2 DP
theorem log_big {x : Int} (h : x.natAbs < 10 ^ 130) : x.natAbs.log2 < 500 := by
  by_cases h0 : x.natAbs = 0
  · rw [h0]; decide
  · exact (Nat.log2_lt h0).mpr (Nat.lt_trans h (by decide))
theorem pr_mulC {M : Mem} {i j : Int} (h1 : i.natAbs < 10 ^ 130) (h2 : j.natAbs < 10 ^ 130) : pr .mul M [.int i, .int j] = some (.int (i * j), M) := by
  show prMul M [.int i, .int j] = _
  unfold prMul
  have a := log_big h1
  have b := log_big h2
  exact if_pos (by unfold mulFits; omega)
theorem big_ex : ∃ B C : Int, (∀ M, pr .pow M [.int 10, .int 60] = some (.int C, M)) ∧ (∀ M, pr .mul M [.int C, .int C] = some (.int B, M)) ∧ 0 < B ∧ B.natAbs < 10 ^ 125 := by
  refine ⟨10 ^ 60 * 10 ^ 60, 10 ^ 60, fun M => ?_, fun M => ?_, by decide, by decide⟩
  · show prPow M [.int 10, .int 60] = _
    rw [prPow, if_pos (by decide)]
    rfl
  · exact pr_mulC (by decide) (by decide)
theorem pow18 : ∃ C : Int, ∀ M, pr .pow M [.int 10, .int 18] = some (.int C, M) := by
  refine ⟨10 ^ 18, fun M => ?_⟩
  show prPow M [.int 10, .int 18] = _
  rw [prPow, if_pos (by decide)]
  rfl
theorem intsOf_map : ∀ zs : List Int, intsOf (zs.map .int) = some zs
  | [] => rfl
  | z :: zs => by simp [intsOf, intsOf_map zs]
theorem sum_bd : ∀ zs : List Int, 0 ≤ (zs.map fun z => z % 999979).sum ∧ (zs.map fun z => z % 999979).sum ≤ (zs.length : Int) * 999979
  | [] => by simp
  | z :: zs => by
    have := sum_bd zs
    have a := Int.emod_nonneg z (b := 999979) (by omega)
    have b := Int.emod_lt_of_pos z (b := 999979) (by omega)
    simp only [List.map_cons, List.sum_cons, List.length_cons]
    omega
theorem cut_ints (ns : List Int) (lo hi : Option Int) : ∃ zs : List Int, DP.cutD (ns.map .int) lo hi = zs.map .int ∧ zs.length ≤ ns.length := by
  refine ⟨(ns.drop (HT.sIx (ns.map D.int).length 0 lo)).take (HT.sIx (ns.map D.int).length (ns.map D.int).length hi - HT.sIx (ns.map D.int).length 0 lo), ?_, ?_⟩
  · unfold DP.cutD
    rw [← List.map_drop, ← List.map_take]
  · rw [List.length_take, List.length_drop]; omega
abbrev cellE : E := .ite (.pr .lt [(.v 1), (.pr .len [(.v 0)])]) (.pr .int_ [(.pr .idx [(.v 0), (.v 1)])]) (.pr .add [(.pr .mul [(.c (.int (31))), (.pr .sum [(.comp false [3] (.nm 3) .seq [(.pr (.slice false true) [(.v 0), (.c (.int (6)))])] none (.pr .mod [(.pr .int_ [(.v 3)]), (.c (.int (999979)))]))])]), (.c (.int (19)))])
theorem cell_ok {C : Nat → List D → Mem → Res D} {M : Mem} {ns : List Int} {p : Nat} (hl : ns.length ≤ 63) : ∃ cell : Int, ev C cellE [some (.klist (ns.map .int)), some (.int p), none, none, none, none] M = .ok (.int cell) M := by
  have hlen : pr .len M [.klist (ns.map .int)] = some (.int ns.length, M) := by
    show prLen M [.klist (ns.map .int)] = _
    simp [prLen, asSeq, asL]
  by_cases q : p < ns.length
  · have hix : pr .idx M [.klist (ns.map .int), .int p] = some (.int ns[p], M) := by
      show prIdx M [.klist (ns.map .int), .int p] = _
      have : atI (ns.map D.int) (p : Int) = some (.int ns[p]) := by rw [atI_nat]; simp [q]
      simp [prIdx, asSeq, asL, this]
    have q2 : (p : Int) < ns.length := by omega
    refine ⟨ns[p], ?_⟩
    simp [hlen, hix, q2]
  · obtain ⟨zs, hz, hzl⟩ := cut_ints ns none (some 6)
    have hsl : pr (.slice false true) M [.klist (ns.map .int), .int 6] = some (.list (zs.map .int), M) := by
      show slc M none (some 6) (.klist (ns.map .int)) = _
      simp [slc, asL, hz]
    have q2 : ¬ (p : Int) < ns.length := by omega
    have c : compLoop (.items (zs.map .int)) (compF C [3] (.nm 3) (.pr .mod [(.pr .int_ [(.v 3)]), (.c (.int (999979)))]) [some (.klist (ns.map .int)), some (.int p), none, none, none, none]) (zs.map .int) M = .ok (zs.map fun z => .int (z % 999979)) M := by
      refine compLoop_on D.int (fun z => .int (z % 999979)) zs fun z _ => ?_
      have := pr_mod (M := M) (i := z) (j := 999979) (by omega)
      simp [compF, this]
    have hs : pr .sum M [.list (zs.map fun z => .int (z % 999979))] = some (.int (zs.map fun z => z % 999979).sum, M) := by
      show prSum M [.list (zs.map fun z => .int (z % 999979))] = _
      have e : zs.map (fun z => D.int (z % 999979)) = (zs.map fun z => z % 999979).map .int := by simp
      rw [e]
      simp only [prSum, asL, intsOf_map]
    have bd := sum_bd zs
    generalize (zs.map fun z => z % 999979).sum = S at hs bd
    have hm := pr_mul (M := M) (i := 31) (j := S) (by omega) (by omega)
    have hsz : zs.length ≤ sizeLine := by rw [sl_eq]; omega
    refine ⟨31 * S + 19, ?_⟩
    simp [hlen, q2, hsl, c, hsz, hs, hm]
theorem trim_loc2 {M M' : Mem} : trim M (.loc M.length) M' = M' := trim_loc
theorem source_fin {F : Nat → List D → Mem → Res D} {X0 X1 X2 : E} {M : Mem} {a : D} {p : Nat} {cell A B C sz ng sm s0 s1 : Int}
  (h0 : ev F X0 [some a, some (.int p), none, none, none, none] M = .ok (.int cell) M) (hab : pr .abs M [.int cell] = some (.int A, M)) (h1 : ∀ M, pr .pow M [.int 10, .int 60] = some (.int C, M)) (h2 : ∀ M, pr .mul M [.int C, .int C] = some (.int B, M))
  (e1 : pr .mod M [.int A, .int B] = some (.int sz, M)) (m1 : pr .mul M [.int 2, .int sz] = some (.int (2 * sz), M)) (m2 : pr .mul M [.int p, .int 130003] = some (.int (p * 130003), M))
  (hng : ev F X1 [some a, some (.int p), some (.int cell), none, some (.int sz), none] M = .ok (.int ng) M) (e2 : pr .mod M [.int (2 * sz + ng + p * 130003 + 70001), .int 2147483629] = some (.int sm, M))
  (hs0 : ev F X2 [some a, some (.int p), some (.int cell), none, some (.int sz), some (.int sm)] M = .ok (.int s0) M) (m3 : pr .mul M [.int (sm + 5113), .int (sm + 91193)] = some (.int ((sm + 5113) * (sm + 91193)), M))
  (e3 : pr .mod M [.int ((sm + 5113) * (sm + 91193)), .int 2147483629] = some (.int s1, M)) (hl : pr .listM M [.int s0, .int s1, .int p] = some (.loc M.length, M ++ [.lst [.int s0, .int s1, .int p]])) :
  fin M (DP.execs F [
    .asg (.nm 2) X0,
    .asg (.nm 4) (.pr .mod [(.pr .abs [(.v 2)]), (.pr .mul [(.pr .pow [(.c (.int (10))), (.c (.int (60)))]), (.pr .pow [(.c (.int (10))), (.c (.int (60)))])])]),
    .asg (.nm 5) (.pr .mod [(.pr .int_ [(.pr .add [(.pr .add [(.pr .add [(.pr .mul [(.c (.int (2))), (.v 4)]), X1]), (.pr .mul [(.v 1), (.c (.int (130003)))])]), (.c (.int (70001)))])]), (.c (.int (2147483629)))]),
    .ret (.pr .listM [X2, (.pr .mod [(.pr .int_ [(.pr .mul [(.pr .add [(.v 5), (.c (.int (5113)))]), (.pr .add [(.v 5), (.c (.int (91193)))])])]), (.c (.int (2147483629)))]), (.v 1)])] [some a, some (.int p), none, none, none, none] M) = .ok (.loc M.length) (M ++ [.lst [.int s0, .int s1, .int p]]) := by
  simp [h0, hab, h1, h2, e1, m1, m2, hng, e2, hs0, m3, e3, hl, trim_loc]
theorem run_source {n p : Nat} {M : Mem} {ns : List Int} (hl : ns.length ≤ 63) (hp : p ≤ 1) : ∃ M', DP.run fs (n + 1) i__law_source [.klist (ns.map .int), .int p] M = .ok (.loc M.length) M' ∧ Src M.length 1 M' ∧ (∃ c, M' = M ++ [c]) := by
  obtain ⟨cell, hc⟩ := cell_ok (C := DP.run fs n) (M := M) (ns := ns) (p := p) hl
  obtain ⟨B, C, h1, h2, hB, hB2⟩ := big_ex
  obtain ⟨E18, h18⟩ := pow18
  have hab : pr .abs M [.int cell] = some (.int (if cell < 0 then -cell else cell), M) := rfl
  have e1 := pr_mod (M := M) (i := if cell < 0 then -cell else cell) hB
  have z1 := Int.emod_nonneg (if cell < 0 then -cell else cell) (b := B) (by omega)
  have z2 := Int.emod_lt_of_pos (if cell < 0 then -cell else cell) hB
  generalize (if cell < 0 then -cell else cell) = A at hab e1 z1 z2
  generalize A % B = sz at e1 z1 z2
  have bsz : sz.natAbs < 10 ^ 130 := Nat.lt_trans (show sz.natAbs < B.natAbs by omega) (Nat.lt_trans hB2 (by decide))
  have m1 := pr_mulC (M := M) (i := 2) (j := sz) (by decide) bsz
  have m2 := pr_mul (M := M) (i := p) (j := 130003) (by omega) (by omega)
  obtain ⟨ng, hng⟩ : ∃ ng : Int, ev (DP.run fs n) (.ite (.pr .lt [(.v 2), (.c (.int (0)))]) (.c (.int (1))) (.c (.int (0)))) [some (.klist (ns.map .int)), some (.int p), some (.int cell), none, some (.int sz), none] M = .ok (.int ng) M := by
    by_cases q : cell < 0
    · exact ⟨1, by simp [q]⟩
    · exact ⟨0, by simp [q]⟩
  have e2 := pr_mod (M := M) (i := 2 * sz + ng + p * 130003 + 70001) (j := 2147483629) (by omega)
  have y1 := Int.emod_nonneg (2 * sz + ng + p * 130003 + 70001) (b := 2147483629) (by omega)
  have y2 := Int.emod_lt_of_pos (2 * sz + ng + p * 130003 + 70001) (b := 2147483629) (by omega)
  generalize (2 * sz + ng + p * 130003 + 70001) % 2147483629 = sm at e2 y1 y2
  obtain ⟨s0, hs0⟩ : ∃ s0 : Int, ev (DP.run fs n) (.ite (.pr .ge [(.v 4), (.pr .pow [(.c (.int (10))), (.c (.int (18)))])]) (.v 4) (.c (.int (0)))) [some (.klist (ns.map .int)), some (.int p), some (.int cell), none, some (.int sz), some (.int sm)] M = .ok (.int s0) M := by
    by_cases q : E18 ≤ sz
    · exact ⟨sz, by simp [h18, q]⟩
    · exact ⟨0, by simp [h18, q]⟩
  have m3 := pr_mul (M := M) (i := sm + 5113) (j := sm + 91193) (by omega) (by omega)
  have e3 := pr_mod (M := M) (i := (sm + 5113) * (sm + 91193)) (j := 2147483629) (by omega)
  have x1 := Int.emod_nonneg ((sm + 5113) * (sm + 91193)) (b := 2147483629) (by omega)
  have x2 := Int.emod_lt_of_pos ((sm + 5113) * (sm + 91193)) (b := 2147483629) (by omega)
  generalize ((sm + 5113) * (sm + 91193)) % 2147483629 = s1 at e3 x1 x2
  have hl := pr_listM (M := M) (xs := [.int s0, .int s1, .int p]) (by simp [sl_eq])
  refine ⟨M ++ [.lst [.int s0, .int s1, .int p]], ?_, ⟨s0, s1, p, by rw [List.getElem?_append_right (Nat.le_refl _)]; simp, x1, by omega, by omega, by omega⟩, _, rfl⟩
  rw [run_at (d := ⟨2, 6, b__law_source⟩) rfl rfl]
  exact source_fin hc hab h1 h2 e1 m1 m2 hng e2 hs0 m3 e3 hl
end K01

/-! forms that are not taken -/
namespace K01
open PySem PySem.Spec PyProof.Rows L2 DP
theorem IsW.nl {a : Str} (h : IsW a) {s : Str} (hs : wordB s = false) : a ≠ s := by
  rintro rfl
  rw [wordB_iff.mpr h] at hs; cases hs
theorem IsW.nn {a : Str} (h : IsW a) : numB a = false := by
  cases e : numB a with
  | false => rfl
  | true =>
    exfalso
    obtain ⟨c, cs, hc, h1, h2⟩ := h.hd
    simp only [numB, Bool.and_eq_true] at e
    have := e.1.2
    rw [hc, figL_of (by omega)] at this
    simp [digit] at this
    omega
structure Nm (n : Str) : Prop where
  num : numB n = true
theorem Nm.nw {n : Str} (h : Nm n) : wordB n = false := by
  cases e : wordB n with
  | false => rfl
  | true =>
    have := (wordB_iff.mp e).nn
    rw [h.num] at this; cases this
theorem Nm.nl {n s : Str} (h : Nm n) (hs : numB s = false) : n ≠ s := by
  rintro rfl
  rw [h.num] at hs; cases hs
theorem nm_of {i : Int} (h : NumOk i) : Nm (numS i) := ⟨numB_iff.mpr ⟨i, h, rfl⟩⟩
structure Fc (a n : Str) : Prop where
  a : IsW a
  n : Nm n
theorem wf_kw : ∀ s ∈ kws, wordB s = false := fun s h => by unfold wordB; simp [h]
theorem form_c {a : Str} {r : List Str} (h : IsW a) : formOf (a :: r) = (plainOf (a :: r)).map .bas := by
  have h1 := h.nl (wf_kw "either" (by simp [kws]))
  have h2 := h.nl (wf_kw "if" (by simp [kws]))
  have h3 := h.nl (wf_kw "at" (by simp [kws]))
  simp [formOf, h1, h2, h3]
theorem plain_c : ∀ {ws : List Str}, ws.length ≠ 5 → plainOf ws = (condOf ws).map .is
  | [], _ => rfl
  | [_], _ => rfl
  | [_, _], _ => rfl
  | [_, _, _], _ => rfl
  | [_, _, _, _], _ => rfl
  | [_, _, _, _, _], h => absurd rfl h
  | _ :: _ :: _ :: _ :: _ :: _ :: _, _ => rfl
section
variable {a b n : Str} (ha : IsW a) (hb : IsW b) (hn : Nm n)
include ha
theorem fn_eqeq : formOf [a, "==", n] = none := by
  have h := wordB_iff.mpr ha
  rw [form_c ha, plain_c (by simp)]
  simp [condOf, h, ofString_eq]
theorem fn_lt : formOf [a, "<", n] = none := by
  have h := wordB_iff.mpr ha
  rw [form_c ha, plain_c (by simp)]
  simp [condOf, h, ofString_eq]
theorem fn_ge : formOf [a, "=>", n] = none := by
  have h := wordB_iff.mpr ha
  rw [form_c ha, plain_c (by simp)]
  simp [condOf, h, ofString_eq]
theorem fn_two : formOf [a, "=", n, n] = none := by
  have h := wordB_iff.mpr ha
  rw [form_c ha, plain_c (by simp)]
  simp [condOf, h, ofString_eq]
theorem fn_in0 : formOf [a, "in"] = none := by
  rw [form_c ha, plain_c (by simp)]
  simp [condOf]
theorem fn_in21 : formOf [a, "in", "2", "1"] = none := by
  have h := wordB_iff.mpr ha
  have e1 : intOf "1" = 1 := intOf_num (i := 1) ⟨by decide⟩
  have e2 : intOf "2" = 2 := intOf_num (i := 2) ⟨by decide⟩
  rw [form_c ha, plain_c (by simp)]
  simp [condOf, h, ofString_eq, tailC, e1, e2, ascB]
include hn in
theorem fn_nin : formOf [a, "not", "in", n, n] = none := by
  have h := wordB_iff.mpr ha
  rw [form_c ha]
  simp [plainOf, condOf, h, ofString_eq, tailC, hn.num, ascB]
include hn in
theorem fn_not : formOf [a, "not", n] = none := by
  have h := wordB_iff.mpr ha
  have h2 := hn.nl (s := "in") rfl
  rw [form_c ha, plain_c (by simp)]
  simp [condOf, h, ofString_eq, h2]
theorem fn_in9 {r : List Str} (hr : r.length = 8) : formOf (a :: "in" :: n :: r) = none := by
  have h := wordB_iff.mpr ha
  rw [form_c ha, plain_c (by simp [hr])]
  simp [condOf, h, ofString_eq, tailC, hr]
theorem fn_o1 : formOf [a, "+", n, "<=", "3"] = none := by
  have h : wordB "3" = false := rfl
  rw [form_c ha]
  simp [plainOf, h]
include hb in
theorem fn_o2 : formOf [a, "+", b, "<=", n] = none := by
  rw [form_c ha]
  simp [plainOf, hb.nn]
theorem fn_o3 : formOf [a, "+", n, ">=", b] = none := by
  have h := wordB_iff.mpr ha
  rw [form_c ha]
  simp [plainOf, ofString_eq, condOf, h]
omit ha
theorem conds_none {sg : Str} {lo hi : Nat} {ws : List Str} (h : (groups sg ws).length < lo ∨ hi < (groups sg ws).length) : condsOf sg lo hi ws = none := by
  unfold condsOf
  rw [if_pos]
  simp only [List.length_map]
  rcases h with h | h
  · exact .inl h
  · exact .inr (.inl h)
theorem conds_bad {sg : Str} {lo hi : Nat} {ws : List Str} (g : List Str) (h : g ∈ groups sg ws) (hc : condOf g = none) : condsOf sg lo hi ws = none := by
  unfold condsOf
  rw [if_pos]
  refine .inr (.inr ?_)
  simp only [List.any_map, List.any_eq_true, Function.comp]
  exact ⟨g, h, by rw [hc]; rfl⟩
include ha hn
theorem cw_no {sg : Str} (h1 : wordB sg = false) (h2 : numB sg = false) (h3 : ("=" : Str) ≠ sg) : sg ∉ [a, "=", n] := by
  have e1 := ha.nl h1
  have e2 := hn.nl h2
  simp only [List.mem_cons, List.not_mem_nil, or_false, not_or]
  exact ⟨e1.symm, h3.symm, e2.symm⟩
theorem grp_rep {sg : Str} (h1 : wordB sg = false) (h2 : numB sg = false) (h3 : ("=" : Str) ≠ sg) (k : Nat) : groups sg (weave sg (List.replicate (k + 1) [a, "=", n])) = List.replicate (k + 1) [a, "=", n] :=
  groups_of (by simp [List.replicate_succ]) fun g hg => by
    rw [(List.mem_replicate.mp hg).2]
    exact cw_no ha hn h1 h2 h3
theorem grp_one {sg : Str} (h1 : wordB sg = false) (h2 : numB sg = false) (h3 : ("=" : Str) ≠ sg) : groups sg [a, "=", n] = [[a, "=", n]] :=
  grp_rep ha hn h1 h2 h3 0
theorem fn_e1 : formOf ["either", a, "=", n] = none := by
  have g := grp_one ha hn (sg := "or") rfl rfl (by simp [ofString_eq])
  have := conds_none (sg := "or") (lo := 2) (hi := 13) (ws := [a, "=", n]) (by rw [g]; simp)
  simp [formOf, this]
theorem fn_e14 : formOf ("either" :: weave "or" (List.replicate 14 [a, "=", n])) = none := by
  have g := grp_rep ha hn (sg := "or") rfl rfl (by simp [ofString_eq]) 13
  have := conds_none (sg := "or") (lo := 2) (hi := 13) (ws := weave "or" (List.replicate 14 [a, "=", n])) (by rw [g]; simp)
  rw [formOf, if_pos rfl, this]; rfl
theorem fn_eand : formOf ["either", a, "=", n, "and", a, "=", n] = none := by
  have g : groups "or" [a, "=", n, "and", a, "=", n] = [[a, "=", n, "and", a, "=", n]] := groups_of (gs := [[a, "=", n, "and", a, "=", n]]) (by simp) fun g hg => by
    rw [List.mem_singleton.mp hg]
    have := cw_no ha hn (sg := "or") rfl rfl (by simp [ofString_eq])
    simp only [List.mem_cons, List.not_mem_nil, or_false, not_or] at this ⊢
    exact ⟨this.1, this.2.1, this.2.2, by simp [ofString_eq], this.1, this.2.1, this.2.2⟩
  have := conds_none (sg := "or") (lo := 2) (hi := 13) (ws := [a, "=", n, "and", a, "=", n]) (by rw [g]; simp)
  simp [formOf, this]
theorem fn_if9 : formOf ("if" :: (weave "and" (List.replicate 9 [a, "=", n]) ++ ("then" : Str) :: [a, "=", n])) = none := by
  have nt := cw_no ha hn (sg := "then") rfl rfl (by simp [ofString_eq])
  have g : groups "then" (weave "and" (List.replicate 9 [a, "=", n]) ++ ("then" : Str) :: [a, "=", n]) = [weave "and" (List.replicate 9 [a, "=", n]), [a, "=", n]] :=
    groups_of (gs := [weave "and" (List.replicate 9 [a, "=", n]), [a, "=", n]]) (by simp) fun g hg => by
      rcases List.mem_cons.mp hg with rfl | hg
      · exact weave_free (x := "then") (by simp [ofString_eq]) fun g hg => by rw [(List.mem_replicate.mp hg).2]; exact nt
      · rw [List.mem_singleton.mp hg]; exact nt
  have g2 := grp_rep ha hn (sg := "and") rfl rfl (by simp [ofString_eq]) 8
  have := conds_none (sg := "and") (lo := 1) (hi := 8) (ws := weave "and" (List.replicate 9 [a, "=", n])) (by rw [g2]; simp)
  rw [formOf, if_neg (by simp [ofString_eq]), if_pos rfl, g]
  simp only [ifOf, this]
theorem fn_if3 : formOf ["if", a, "=", n, "then", a, "=", n, "then", a, "=", n] = none := by
  have g := grp_rep ha hn (sg := "then") rfl rfl (by simp [ofString_eq]) 2
  have e : weave "then" (List.replicate 3 [a, "=", n]) = [a, "=", n, "then", a, "=", n, "then", a, "=", n] := rfl
  rw [e] at g
  rw [formOf, if_neg (by simp [ofString_eq]), if_pos rfl, g]
  rfl
theorem fn_if1 : formOf ["if", a, "=", n] = none := by
  have g := grp_one ha hn (sg := "then") rfl rfl (by simp [ofString_eq])
  rw [formOf, if_neg (by simp [ofString_eq]), if_pos rfl, g]
  rfl
theorem fn_ife : formOf ["if", a, "=", n, "then", "either", a, "=", n, "or", a, "=", n] = none := by
  have nt := cw_no ha hn (sg := "then") rfl rfl (by simp [ofString_eq])
  have g : groups "then" [a, "=", n, "then", "either", a, "=", n, "or", a, "=", n] = [[a, "=", n], ["either", a, "=", n, "or", a, "=", n]] :=
    groups_of (gs := [[a, "=", n], ["either", a, "=", n, "or", a, "=", n]]) (by simp) fun g hg => by
      rcases List.mem_cons.mp hg with rfl | hg
      · exact nt
      · rw [List.mem_singleton.mp hg]
        simp only [List.mem_cons, List.not_mem_nil, or_false, not_or] at nt ⊢
        exact ⟨by simp [ofString_eq], nt.1, nt.2.1, nt.2.2, by simp [ofString_eq], nt.1, nt.2.1, nt.2.2⟩
  have hp : plainOf ["either", a, "=", n, "or", a, "=", n] = none := by
    have h : wordB "either" = false := rfl
    rw [plain_c (by simp)]
    simp [condOf, h]
  rw [formOf, if_neg (by simp [ofString_eq]), if_pos rfl, g]
  simp only [ifOf, hp]
  split <;> simp_all
omit ha
theorem fn_at0 : formOf ["at", "most", n, "of"] = none := by
  simp [formOf, ofString_eq, atOf]
include ha
theorem fn_at9 : formOf ("at" :: "most" :: n :: "of" :: weave "," (List.replicate 9 [a, "=", n])) = none := by
  have g := grp_rep ha hn (sg := ",") rfl rfl (by simp [ofString_eq]) 8
  have := conds_none (sg := ",") (lo := 1) (hi := 8) (ws := weave "," (List.replicate 9 [a, "=", n])) (by rw [g]; simp)
  rw [formOf, if_neg (by simp [ofString_eq]), if_neg (by simp [ofString_eq]), if_pos rfl]
  have e : weave "," (List.replicate 9 [a, "=", n]) = a :: "=" :: n :: "," :: weave "," (List.replicate 8 [a, "=", n]) := rfl
  rw [e] at this ⊢
  rw [atOf, if_pos (by simp), this]
theorem fn_at2 : formOf ["at", "least", n, "of", a, "=", n, a, "=", n] = none := by
  have nt := cw_no ha hn (sg := ",") rfl rfl (by simp [ofString_eq])
  have g : groups "," [a, "=", n, a, "=", n] = [[a, "=", n, a, "=", n]] := groups_of (gs := [[a, "=", n, a, "=", n]]) (by simp) fun g hg => by
    rw [List.mem_singleton.mp hg]
    simp only [List.mem_cons, List.not_mem_nil, or_false, not_or] at nt ⊢
    exact ⟨nt.1, nt.2.1, nt.2.2, nt.1, nt.2.1, nt.2.2⟩
  have hc : condOf [a, "=", n, a, "=", n] = none := by
    have h := wordB_iff.mpr ha
    simp [condOf, h, ofString_eq]
  have := conds_bad (sg := ",") (lo := 1) (hi := 8) (ws := [a, "=", n, a, "=", n]) _ (by rw [g]; simp) hc
  rw [formOf, if_neg (by simp [ofString_eq]), if_neg (by simp [ofString_eq]), if_pos rfl, atOf, if_pos (by simp), this]
theorem fn_ata : formOf ["at", "least", a, "of", a, "=", n] = none := by
  rw [formOf, if_neg (by simp [ofString_eq]), if_neg (by simp [ofString_eq]), if_pos rfl, atOf, if_pos (by simp)]
  rw [ha.nn]
  split <;> simp
theorem fn_atn : formOf ["at", n, "of", a, "=", n] = none := by
  have h1 := hn.nl (s := "most") rfl
  have h2 := hn.nl (s := "least") rfl
  rw [formOf, if_neg (by simp [ofString_eq]), if_neg (by simp [ofString_eq]), if_pos rfl, atOf, if_neg (by simp [h1, h2])]
theorem fn_most : formOf ["most", n, "of", a, "=", n] = none := by
  have h : wordB "most" = false := rfl
  rw [formOf, if_neg (by simp [ofString_eq]), if_neg (by simp [ofString_eq]), if_neg (by simp [ofString_eq]), plain_c (by simp)]
  simp [condOf, h]
end
end K01

/-! texts made of parts -/
namespace K01
open PySem PySem.Spec PyProof.Rows L2 DP
/-- a text's expression, its text, its length -/
structure EvS (C : Nat → List D → Mem → Res D) (env : DP.Env) (e : E) (s : Str) (k : Nat) : Prop where
  e : ∀ M, ev C e env M = .ok (.str s) M
  l : s.length ≤ k
section
variable {C : Nat → List D → Mem → Res D} {env : DP.Env}
theorem es_lit {a : String} : EvS C env (.c (.str (Str.ofString a))) (Str.ofString a) a.toList.length := ⟨fun M => by simp, by rw [TL.len_tl, TL.tl_ofString]; simp⟩
theorem es_v {i k : Nat} {s : Str} (h : env[i]? = some (some (.str s))) (hl : s.length ≤ k) : EvS C env (.v i) s k := ⟨fun M => by simp [h], hl⟩
theorem es_add {e0 e1 : E} {s0 s1 : Str} {k0 k1 : Nat} (h0 : EvS C env e0 s0 k0) (h1 : EvS C env e1 s1 k1) (hk : k0 + k1 ≤ 100000) : EvS C env (.pr .add [e0, e1]) (s0 ++ s1) (k0 + k1) := by
  have l0 := h0.l
  have l1 := h1.l
  refine ⟨fun M => ?_, by rw [len_app]; omega⟩
  have := adds (M := M) (a := s0) (b := s1) (by rw [len_app]; omega)
  simp [h0.e, h1.e, this]
theorem mul_list {M : Mem} {d : D} {j : Nat} (hj : j ≤ 1000) : pr .mul M [.list [d], .int j] = some (.list (List.replicate j d), M) := by
  show prMul M [.list [d], .int j] = _
  have e : (List.replicate j [d]).flatten = List.replicate j d := by
    induction j with
    | zero => rfl
    | succ j ih => rw [List.replicate_succ, List.flatten_cons, ih (by omega), List.replicate_succ]; rfl
  simp only [prMul, asLL, asL]
  have h3 : -(2 ^ 63) ≤ (j : Int) ∧ (j : Int) < 2 ^ 63 ∧ [d].length * (j : Int).toNat ≤ sizeLine := ⟨by omega, by omega, by rw [sl_eq, List.length_singleton, Int.toNat_natCast]; omega⟩
  rw [if_pos h3, Int.toNat_natCast, e]
theorem rep_len {a : String} {j k : Nat} {s : Str} (hl : s.length ≤ k) : joinSize (Str.ofString a) (List.replicate j s) ≤ j * (k + a.toList.length) ∧ (Str.join (Str.ofString a) (List.replicate j s)).length ≤ j * (k + a.toList.length) := by
  have ea : (Str.ofString a).length = a.toList.length := by rw [TL.len_tl, TL.tl_ofString]; simp
  have hb : ∀ y ∈ List.replicate j s, y.length ≤ k := fun y hy => by rw [(List.mem_replicate.mp hy).2]; exact hl
  have h1 := joinSize_le (s := Str.ofString a) hb
  have h2 := join_len (j := a.toList.length) (sep := Str.ofString a) (Nat.le_of_eq ea) hb
  rw [List.length_replicate] at h1 h2
  rw [ea] at h1
  exact ⟨h1, h2⟩
theorem join_rep {M : Mem} {x s : Str} {j : Nat} (h : joinSize x (List.replicate j s) ≤ 16777216) : pr .join M [.str x, .list (List.replicate j (D.str s))] = some (.str (Str.join x (List.replicate j s)), M) := by
  have h2 := pr_join (M := M) h
  rw [List.map_replicate, TL.join_eq] at h2
  exact h2
theorem list_one {M : Mem} {d : D} : pr .list M [d] = some (.list [d], M) := pr_list (by rw [sl_eq]; exact Nat.le_of_ble_eq_true rfl)
theorem es_join0 {x y : Str} {n : Int} {i : Nat} {d : D} {ds : List D} (h : env[i]? = some (some d)) (h1 : ∀ M, pr .mul M [.list [d], .int n] = some (.list ds, M)) (h2 : ∀ M, pr .join M [.str x, .list ds] = some (.str y, M)) (M : Mem) :
    ev C (.meth .join "str" (.c (.str x)) [(.pr .mul [(.pr .list [(.v i)]), (.c (.int n))])]) env M = .ok (.str y) M := by
  simp [h, list_one, h1, h2]
theorem es_join {a : String} {j i k : Nat} {s : Str} (h : env[i]? = some (some (.str s))) (hl : s.length ≤ k) (hj : j ≤ 1000) (hk : j * (k + a.toList.length) ≤ 100000) :
    EvS C env (.meth .join "str" (.c (.str (Str.ofString a))) [(.pr .mul [(.pr .list [(.v i)]), (.c (.int (j : Int)))])]) (Str.join (Str.ofString a) (List.replicate j s)) (j * (k + a.toList.length)) := by
  have r := rep_len (a := a) (j := j) hl
  generalize j * (k + a.toList.length) = q at r hk
  exact ⟨es_join0 h (fun M => mul_list hj) fun M => join_rep (by omega), r.2⟩
theorem evs_append : ∀ (es1 es2 : List E) (M : Mem), evs C (es1 ++ es2) env M = (evs C es1 env M).bind fun d1 M1 => (evs C es2 env M1).bind fun d2 M2 => .ok (d1 ++ d2) M2
  | [], es2, M => by cases h : evs C es2 env M <;> simp [h]
  | e :: es, es2, M => by
    rw [List.cons_append]
    cases h : ev C e env M with
    | ok d M1 =>
      simp only [evs, h, Res.bind]
      rw [evs_append es es2 M1]
      cases h2 : evs C es env M1 with
      | ok d1 M2 =>
        simp only [Res.bind]
        cases h3 : evs C es2 env M2 <;> simp
      | bad => rfl
      | exc => rfl
    | bad => simp [h]
    | exc => simp [h]
theorem evs_all {P : D → Prop} : ∀ {es : List E}, (∀ e ∈ es, ∃ d, (∀ M, ev C e env M = .ok d M) ∧ P d) → ∃ ds : List D, (∀ M, evs C es env M = .ok ds M) ∧ ds.length = es.length ∧ ∀ d ∈ ds, P d
  | [], _ => ⟨[], fun M => by simp, rfl, by simp⟩
  | e :: es, h => by
    obtain ⟨d, h1, p⟩ := h e List.mem_cons_self
    obtain ⟨ds, h2, hl, q⟩ := evs_all (es := es) fun x m => h x (List.mem_cons_of_mem _ m)
    refine ⟨d :: ds, fun M => by simp [h1, h2], by simp [hl], fun x hx => ?_⟩
    rcases List.mem_cons.mp hx with rfl | m
    · exact p
    · exact q x m
end
theorem pw_nil : ∀ w ∈ ([] : List Str), PW w := by simp
theorem pw_cons {w : Str} {r : List Str} (h : PW w) (hr : ∀ x ∈ r, PW x) : ∀ x ∈ w :: r, PW x := fun x hx => by
  rcases List.mem_cons.mp hx with rfl | m
  · exact h
  · exact hr x m
/-- a line that is told as a fault of form, and a line near it -/
structure BadW (T : Str) (l : Lin) : Prop where
  ws : ∃ ws : List Str, ws ≠ [] ∧ (∀ w ∈ ws, PW w) ∧ T = Str.join " " ws ∧ readW ws = .bad "form"
  len : T.length ≤ 799
  ok : l.Ok
  lt : l.t.length ≤ 800
def PW2 (d : D) : Prop := ∃ T l, d = .tup [.str T, l.d] ∧ BadW T l
/-- a form that is not taken, and one near it -/
structure BadF (T : Str) (f : Frm) : Prop where
  ws : ∃ v r, (∀ w ∈ v :: r, PW w) ∧ T = Str.join " " (v :: r) ∧ formOf (v :: r) = none
  len : T.length ≤ 770
  ok : f.Ok
  lt : f.t.length ≤ 770
def PF2 (d : D) : Prop := ∃ T f, d = .tup [.str T, f.d] ∧ BadF T f
section
variable {C : Nat → List D → Mem → Res D} {env : DP.Env}
theorem mkW {e1 e2 : E} {s : Str} {k : Nat} (ws : List Str) (l : Lin) (hs : EvS C env e1 s k) (hd : ∀ M, ev C e2 env M = .ok l.d M) (hk : k ≤ 799) (ne : ws ≠ []) (hw : ∀ w ∈ ws, PW w) (ht : TL.tl s = JL ws) (hr : readW ws = .bad "form") (ho : l.Ok) (hl : l.t.length ≤ 800) :
    ∃ d, (∀ M, ev C (.pr .tup [e1, e2]) env M = .ok d M) ∧ PW2 d :=
  ⟨.tup [.str s, l.d], fun M => by simp [hs.e, hd], s, l, rfl, ⟨ws, ne, hw, TL.ext_tl (ht.trans tl_t.symm), hr⟩, Nat.le_trans hs.l hk, ho, hl⟩
theorem mkF {e1 e2 : E} {s : Str} {k : Nat} (v : Str) (r : List Str) (f : Frm) (hs : EvS C env e1 s k) (hd : ∀ M, ev C e2 env M = .ok f.d M) (hk : k ≤ 770) (hw : ∀ w ∈ v :: r, PW w) (ht : TL.tl s = JL (v :: r)) (hr : formOf (v :: r) = none) (ho : f.Ok) (hl : f.t.length ≤ 770) :
    ∃ d, (∀ M, ev C (.pr .tup [e1, e2]) env M = .ok d M) ∧ PF2 d :=
  ⟨.tup [.str s, f.d], fun M => by simp [hs.e, hd], s, f, rfl, ⟨v, r, hw, TL.ext_tl (ht.trans tl_t.symm), hr⟩, Nat.le_trans hs.l hk, ho, hl⟩
end
end K01

/-! lines that are told as faults of form -/
namespace K01
open PySem PySem.Spec PyProof.Rows L2 DP
theorem readW_bad {k : Str} {r : List Str} (h : k ∈ LW) (hl : lineOf (k :: r) = none) : readW (k :: r) = .bad "form" := by
  simp [readW, h, hl]
/-- what the faulty lines are made of -/
structure WIn (a b n long key : Str) : Prop where
  a : IsW a
  b : IsW b
  nn : Nm n
  nl : n.length ≤ 2
  l : IsW long
  ll : 12 ≤ long.length
  key : key ∈ kws
def bigS : Str := "9999999999999999999999999999999"
def bigI : Int := 9999999999999999999999999999999
theorem big_ok : NumOk bigI := ⟨by decide⟩
theorem big_ok2 : NumOk (-bigI) := ⟨by decide⟩
theorem big_num : numS bigI = bigS := by decide +kernel
theorem big_int {M : Mem} : pr .int_ M [.str bigS] = some (.int bigI, M) := by
  have := pr_int_num (M := M) big_ok
  rw [← big_num]; exact this
theorem big_mul {M : Mem} : pr .mul M [.str "9", .int 31] = some (.str bigS, M) := by
  have e : Txt.mul "9" 31 = bigS := by decide +kernel
  rw [← e]
  have q : ("9" : Str).length ≤ 1000 ∧ (0:Int) ≤ 31 ∧ (31:Int) ≤ 1000 := ⟨by decide, by omega, by omega⟩
  show prMul M [.str "9", .int 31] = _
  simp only [prMul]
  rw [if_pos q]
theorem nb_big : numB ("1" ++ bigS) = false := by decide +kernel
theorem nb_big2 : numB ("-1" ++ bigS) = false := by decide +kernel
theorem long_w {long : Str} (h : 12 ≤ long.length) : wordB (long ++ "a") = false := by
  cases e : wordB (long ++ "a") with
  | false => rfl
  | true =>
    have := (wordB_iff.mp e).ln
    rw [len_app] at this
    have e : ("a" : Str).length = 1 := rfl
    omega
theorem three_w {a : Str} : wordB ("3" ++ a) = false := by
  cases e : wordB ("3" ++ a) with
  | false => rfl
  | true =>
    obtain ⟨c, cs, h, h1, h2⟩ := (wordB_iff.mp e).hd
    rw [TL.tl_append] at h
    injection h with h _
    have : c = 51 := h.symm
    omega
theorem app_pw {a b : Str} (ha : PW a) (hb : PW b) : PW (a ++ b) := ⟨by rw [TL.tl_append]; simp [ha.ne], fun c hc => by
  rw [TL.tl_append] at hc
  rcases List.mem_append.mp hc with h | h
  · exact ha.al c h
  · exact hb.al c h⟩
theorem key9 {key : Str} (h : key ∈ kws) : IsW (key ++ "9") := by
  rw [← wordB_iff]
  revert h
  have : (kws.all fun key => wordB (key ++ "9")) = true := by decide +kernel
  exact fun h => List.all_eq_true.mp this key h
theorem key_pw {key : Str} (h : key ∈ kws) : PW key := by
  simp only [kws, List.mem_cons, List.not_mem_nil, or_false] at h
  rcases h with h | h | h | h | h | h | h | h | h | h | h | h | h | h | h | h | h | h | h <;> (rw [h]; exact lit_pw (by decide) (by decide))
theorem close_len {w : Str} (h : IsW w) : (Lin.close w).t.length ≤ 800 := by
  rw [l_close, len_app]; have := h.ln; have e : ("close " : Str).length = 6 := rfl; omega
theorem name_len {w : Str} {a b : Int} (h : IsW w) (ha : NumOk a) (hb : NumOk b) : (Lin.name w a b).t.length ≤ 800 := by
  have := lT_len (l := .name w a b) ⟨h, ha, hb⟩
  rw [l_name]; have := h.ln; have := num_len ha; have := num_len hb
  have e : ("name " : Str).length = 5 := rfl
  have e : (" " : Str).length = 1 := rfl
  simp only [len_app]; omega
theorem use_len {m : Bool} {w v : Str} {ws : List Str} (h : (Lin.use m w v ws).Ok) : (Lin.use m w v ws).t.length ≤ 800 := by
  rw [l_use (wsok_ne h.2.2)]; have := h.1.ln; have := h.2.1.ln; have := useS_len m; have := ws_len h.2.2
  have e : (" : " : Str).length = 3 := rfl
  have e : (" " : Str).length = 1 := rfl
  simp only [len_app]; omega
theorem block_len {w : Str} {ws : List Str} (h : (Lin.block w ws).Ok) : (Lin.block w ws).t.length ≤ 800 := by
  rw [l_block (wsok_ne h.2)]; have := h.1.ln; have := ws_len h.2
  have e : (" : " : Str).length = 3 := rfl
  have e : ("block " : Str).length = 6 := rfl
  simp only [len_app]; omega
def wpE : List E := match b__law_word_pairs with
  | [_, _, _, .ret (.pr .list es)] => es
  | _ => []
section
variable {C : Nat → List D → Mem → Res D} {k : Nat} {a b n long key : Str}
abbrev wpEnv (k : Nat) (a b n long key : Str) : DP.Env := [some (.loc k), some (.str a), some (.str b), some (.str n), some (.str long), some (.str bigS), some (.str key)]
theorem wp_a (h : WIn a b n long key) : ∀ e ∈ wpE.take 3, ∃ d, (∀ M, ev C e (wpEnv k a b n long key) M = .ok d M) ∧ PW2 d := by
  have wa := wordB_iff.mpr h.a
  have pa := h.a.pw
  have pb := h.b.pw
  have la := h.a.ln
  have lb := h.b.ln
  simp only [wpE, b__law_word_pairs, List.take, List.forall_mem_cons]
  refine ⟨?_, ?_, ?_, by simp⟩
  · exact mkW ["close", a, b] (.close a) (by (repeat (first | exact es_lit | exact es_v rfl (by assumption) | apply es_add | decide))) (fun M => by simp [Lin.d]) (by decide) (by simp) (by (repeat (first | exact pw_nil | refine pw_cons (by first | assumption | exact lit_pw (by decide) (by decide)) ?_))) (by (simp [tl_lit, JL, TL.joinL, TL.tl_append])) (readW_bad (by simp [LW]) (by simp [lineOf, ofString_eq, wa])) h.a (close_len h.a)
  · exact mkW ["end", a] .fin_ (by (repeat (first | exact es_lit | exact es_v rfl (by assumption) | apply es_add | decide))) (fun M => by simp [Lin.d]) (by decide) (by simp) (by (repeat (first | exact pw_nil | refine pw_cons (by first | assumption | exact lit_pw (by decide) (by decide)) ?_))) (by (simp [tl_lit, JL, TL.joinL, TL.tl_append])) (readW_bad (by simp [LW]) (by simp [lineOf, ofString_eq, wa])) trivial (by decide)
  · exact mkW ["close"] (.close a) (by (repeat (first | exact es_lit | exact es_v rfl (by assumption) | apply es_add | decide))) (fun M => by simp [Lin.d]) (by decide) (by simp) (by (repeat (first | exact pw_nil | refine pw_cons (by first | assumption | exact lit_pw (by decide) (by decide)) ?_))) (by (simp [tl_lit, JL, TL.joinL, TL.tl_append])) (readW_bad (by simp [LW]) (by simp [lineOf, ofString_eq, wa])) h.a (close_len h.a)
theorem ws4 {b : Str} (h : IsW b) : WsOk [b, b, b, b] := ⟨by simp [h], by simp, by simp⟩
theorem ws1 {b : Str} (h : IsW b) : WsOk [b] := ⟨by simp [h], by simp, by simp⟩
theorem wp_b0 (h : WIn a b n long key) : ∀ e ∈ (wpE.drop 4).take 1, ∃ d, (∀ M, ev C e (wpEnv k a b n long key) M = .ok d M) ∧ PW2 d := by
  have wa := wordB_iff.mpr h.a
  have wb := wordB_iff.mpr h.b
  have pa := h.a.pw
  have pb := h.b.pw
  have la := h.a.ln
  have lb := h.b.ln
  have ln := h.nl
  have ll := h.l.ln
  have pl := h.l.pw
  have pk := key_pw h.key
  have lk : key.length ≤ 12 := by have := kws_len h.key; omega
  have wk := wf_kw key h.key
  have wn := h.nn.nw
  obtain ⟨on, en⟩ := numB_int h.nn.num
  have pn : PW n := en ▸ num_pw _
  have hi := fun M => pr_int_of (M := M) h.nn.num
  have w3 := three_w (a := a)
  have wl := long_w h.ll
  have lbig : bigS.length ≤ 31 := by decide
  have nb1 := nb_big
  have nb2 := nb_big2
  have nb3 : numB "-0" = false := rfl
  have nb4 : numB "-" = false := rfl
  have o7 : NumOk 7 := ⟨by decide⟩
  have o0 : NumOk 0 := ⟨by decide⟩
  have o3 : NumOk 3 := ⟨by decide⟩
  have p1 : PW ("1" ++ bigS) := app_pw (lit_pw (by decide) (by decide)) (lit_pw (by decide) (by decide))
  have p2 : PW ("-1" ++ bigS) := app_pw (lit_pw (by decide) (by decide)) (lit_pw (by decide) (by decide))
  have p3 : PW (long ++ "a") := app_pw pl (lit_pw (by decide) (by decide))
  have p4 : PW ("3" ++ a) := app_pw (lit_pw (by decide) (by decide)) pa
  have r5 : ∀ x : Str, List.replicate 5 x = [x, x, x, x, x] := fun x => rfl
  simp only [wpE, b__law_word_pairs, List.drop, List.take, List.forall_mem_cons]
  refine ⟨?_, by simp⟩
  · exact mkW ["name", a, "-0", n] (.name a 0 (intOf n)) (by (repeat (first | exact es_lit | exact es_v rfl (by assumption) | apply es_add | decide))) (fun M => by simp [Lin.d, hi]) (by decide) (by simp) (by (repeat (first | exact pw_nil | refine pw_cons (by first | assumption | exact lit_pw (by decide) (by decide)) ?_))) (by (simp [tl_lit, JL, TL.joinL, TL.tl_append])) (readW_bad (by simp [LW]) (by simp [lineOf, ofString_eq, wa, nb3])) ⟨h.a, o0, on⟩ (name_len h.a o0 on)
theorem wp_b1 (h : WIn a b n long key) : ∀ e ∈ (wpE.drop 5).take 1, ∃ d, (∀ M, ev C e (wpEnv k a b n long key) M = .ok d M) ∧ PW2 d := by
  have wa := wordB_iff.mpr h.a
  have wb := wordB_iff.mpr h.b
  have pa := h.a.pw
  have pb := h.b.pw
  have la := h.a.ln
  have lb := h.b.ln
  have ln := h.nl
  have ll := h.l.ln
  have pl := h.l.pw
  have pk := key_pw h.key
  have lk : key.length ≤ 12 := by have := kws_len h.key; omega
  have wk := wf_kw key h.key
  have wn := h.nn.nw
  obtain ⟨on, en⟩ := numB_int h.nn.num
  have pn : PW n := en ▸ num_pw _
  have hi := fun M => pr_int_of (M := M) h.nn.num
  have w3 := three_w (a := a)
  have wl := long_w h.ll
  have lbig : bigS.length ≤ 31 := by decide
  have nb1 := nb_big
  have nb2 := nb_big2
  have nb3 : numB "-0" = false := rfl
  have nb4 : numB "-" = false := rfl
  have o7 : NumOk 7 := ⟨by decide⟩
  have o0 : NumOk 0 := ⟨by decide⟩
  have o3 : NumOk 3 := ⟨by decide⟩
  have p1 : PW ("1" ++ bigS) := app_pw (lit_pw (by decide) (by decide)) (lit_pw (by decide) (by decide))
  have p2 : PW ("-1" ++ bigS) := app_pw (lit_pw (by decide) (by decide)) (lit_pw (by decide) (by decide))
  have p3 : PW (long ++ "a") := app_pw pl (lit_pw (by decide) (by decide))
  have p4 : PW ("3" ++ a) := app_pw (lit_pw (by decide) (by decide)) pa
  have r5 : ∀ x : Str, List.replicate 5 x = [x, x, x, x, x] := fun x => rfl
  simp only [wpE, b__law_word_pairs, List.drop, List.take, List.forall_mem_cons]
  refine ⟨?_, by simp⟩
  · exact mkW ["name", a, "-", n] (.name a 0 (intOf n)) (by (repeat (first | exact es_lit | exact es_v rfl (by assumption) | apply es_add | decide))) (fun M => by simp [Lin.d, hi]) (by decide) (by simp) (by (repeat (first | exact pw_nil | refine pw_cons (by first | assumption | exact lit_pw (by decide) (by decide)) ?_))) (by (simp [tl_lit, JL, TL.joinL, TL.tl_append])) (readW_bad (by simp [LW]) (by simp [lineOf, ofString_eq, wa, nb4])) ⟨h.a, o0, on⟩ (name_len h.a o0 on)
theorem wp_b2 (h : WIn a b n long key) : ∀ e ∈ (wpE.drop 6).take 1, ∃ d, (∀ M, ev C e (wpEnv k a b n long key) M = .ok d M) ∧ PW2 d := by
  have wa := wordB_iff.mpr h.a
  have wb := wordB_iff.mpr h.b
  have pa := h.a.pw
  have pb := h.b.pw
  have la := h.a.ln
  have lb := h.b.ln
  have ln := h.nl
  have ll := h.l.ln
  have pl := h.l.pw
  have pk := key_pw h.key
  have lk : key.length ≤ 12 := by have := kws_len h.key; omega
  have wk := wf_kw key h.key
  have wn := h.nn.nw
  obtain ⟨on, en⟩ := numB_int h.nn.num
  have pn : PW n := en ▸ num_pw _
  have hi := fun M => pr_int_of (M := M) h.nn.num
  have w3 := three_w (a := a)
  have wl := long_w h.ll
  have lbig : bigS.length ≤ 31 := by decide
  have nb1 := nb_big
  have nb2 := nb_big2
  have nb3 : numB "-0" = false := rfl
  have nb4 : numB "-" = false := rfl
  have o7 : NumOk 7 := ⟨by decide⟩
  have o0 : NumOk 0 := ⟨by decide⟩
  have o3 : NumOk 3 := ⟨by decide⟩
  have p1 : PW ("1" ++ bigS) := app_pw (lit_pw (by decide) (by decide)) (lit_pw (by decide) (by decide))
  have p2 : PW ("-1" ++ bigS) := app_pw (lit_pw (by decide) (by decide)) (lit_pw (by decide) (by decide))
  have p3 : PW (long ++ "a") := app_pw pl (lit_pw (by decide) (by decide))
  have p4 : PW ("3" ++ a) := app_pw (lit_pw (by decide) (by decide)) pa
  have r5 : ∀ x : Str, List.replicate 5 x = [x, x, x, x, x] := fun x => rfl
  simp only [wpE, b__law_word_pairs, List.drop, List.take, List.forall_mem_cons]
  refine ⟨?_, by simp⟩
  · exact mkW ["name", a, "1" ++ bigS, n] (.name a bigI (intOf n)) (by (repeat (first | exact es_lit | exact es_v rfl (by assumption) | apply es_add | decide))) (fun M => by simp [Lin.d, hi, big_int]) (by decide) (by simp) (pw_cons (lit_pw (by decide) (by decide)) (pw_cons pa (pw_cons p1 (pw_cons pn pw_nil)))) (by (simp [tl_lit, JL, TL.joinL, TL.tl_append])) (readW_bad (by simp [LW]) (by simp [lineOf, ofString_eq, wa, nb1])) ⟨h.a, big_ok, on⟩ (name_len h.a big_ok on)
theorem wp_b3 (h : WIn a b n long key) : ∀ e ∈ (wpE.drop 7).take 1, ∃ d, (∀ M, ev C e (wpEnv k a b n long key) M = .ok d M) ∧ PW2 d := by
  have wa := wordB_iff.mpr h.a
  have wb := wordB_iff.mpr h.b
  have pa := h.a.pw
  have pb := h.b.pw
  have la := h.a.ln
  have lb := h.b.ln
  have ln := h.nl
  have ll := h.l.ln
  have pl := h.l.pw
  have pk := key_pw h.key
  have lk : key.length ≤ 12 := by have := kws_len h.key; omega
  have wk := wf_kw key h.key
  have wn := h.nn.nw
  obtain ⟨on, en⟩ := numB_int h.nn.num
  have pn : PW n := en ▸ num_pw _
  have hi := fun M => pr_int_of (M := M) h.nn.num
  have w3 := three_w (a := a)
  have wl := long_w h.ll
  have lbig : bigS.length ≤ 31 := by decide
  have nb1 := nb_big
  have nb2 := nb_big2
  have nb3 : numB "-0" = false := rfl
  have nb4 : numB "-" = false := rfl
  have o7 : NumOk 7 := ⟨by decide⟩
  have o0 : NumOk 0 := ⟨by decide⟩
  have o3 : NumOk 3 := ⟨by decide⟩
  have p1 : PW ("1" ++ bigS) := app_pw (lit_pw (by decide) (by decide)) (lit_pw (by decide) (by decide))
  have p2 : PW ("-1" ++ bigS) := app_pw (lit_pw (by decide) (by decide)) (lit_pw (by decide) (by decide))
  have p3 : PW (long ++ "a") := app_pw pl (lit_pw (by decide) (by decide))
  have p4 : PW ("3" ++ a) := app_pw (lit_pw (by decide) (by decide)) pa
  have r5 : ∀ x : Str, List.replicate 5 x = [x, x, x, x, x] := fun x => rfl
  simp only [wpE, b__law_word_pairs, List.drop, List.take, List.forall_mem_cons]
  refine ⟨?_, by simp⟩
  · exact mkW ["name", a, "-1" ++ bigS, n] (.name a (-bigI) (intOf n)) (by (repeat (first | exact es_lit | exact es_v rfl (by assumption) | apply es_add | decide))) (fun M => by simp [Lin.d, hi, big_int]) (by decide) (by simp) (pw_cons (lit_pw (by decide) (by decide)) (pw_cons pa (pw_cons p2 (pw_cons pn pw_nil)))) (by (simp [tl_lit, JL, TL.joinL, TL.tl_append])) (readW_bad (by simp [LW]) (by simp [lineOf, ofString_eq, wa, nb2])) ⟨h.a, big_ok2, on⟩ (name_len h.a big_ok2 on)
theorem wp_b4 (h : WIn a b n long key) : ∀ e ∈ (wpE.drop 8).take 1, ∃ d, (∀ M, ev C e (wpEnv k a b n long key) M = .ok d M) ∧ PW2 d := by
  have wa := wordB_iff.mpr h.a
  have wb := wordB_iff.mpr h.b
  have pa := h.a.pw
  have pb := h.b.pw
  have la := h.a.ln
  have lb := h.b.ln
  have ln := h.nl
  have ll := h.l.ln
  have pl := h.l.pw
  have pk := key_pw h.key
  have lk : key.length ≤ 12 := by have := kws_len h.key; omega
  have wk := wf_kw key h.key
  have wn := h.nn.nw
  obtain ⟨on, en⟩ := numB_int h.nn.num
  have pn : PW n := en ▸ num_pw _
  have hi := fun M => pr_int_of (M := M) h.nn.num
  have w3 := three_w (a := a)
  have wl := long_w h.ll
  have lbig : bigS.length ≤ 31 := by decide
  have nb1 := nb_big
  have nb2 := nb_big2
  have nb3 : numB "-0" = false := rfl
  have nb4 : numB "-" = false := rfl
  have o7 : NumOk 7 := ⟨by decide⟩
  have o0 : NumOk 0 := ⟨by decide⟩
  have o3 : NumOk 3 := ⟨by decide⟩
  have p1 : PW ("1" ++ bigS) := app_pw (lit_pw (by decide) (by decide)) (lit_pw (by decide) (by decide))
  have p2 : PW ("-1" ++ bigS) := app_pw (lit_pw (by decide) (by decide)) (lit_pw (by decide) (by decide))
  have p3 : PW (long ++ "a") := app_pw pl (lit_pw (by decide) (by decide))
  have p4 : PW ("3" ++ a) := app_pw (lit_pw (by decide) (by decide)) pa
  have r5 : ∀ x : Str, List.replicate 5 x = [x, x, x, x, x] := fun x => rfl
  simp only [wpE, b__law_word_pairs, List.drop, List.take, List.forall_mem_cons]
  refine ⟨?_, by simp⟩
  · exact mkW ["name", long ++ "a", n, "7"] (.name long (intOf n) 7) (by (repeat (first | exact es_lit | exact es_v rfl (by assumption) | apply es_add | decide))) (fun M => by simp [Lin.d, hi]) (by decide) (by simp) (by (repeat (first | exact pw_nil | refine pw_cons (by first | assumption | exact lit_pw (by decide) (by decide)) ?_))) (by (simp [tl_lit, JL, TL.joinL, TL.tl_append])) (readW_bad (by simp [LW]) (by simp [lineOf, ofString_eq, wl])) ⟨h.l, on, o7⟩ (name_len h.l on o7)
theorem wp_b5 (h : WIn a b n long key) : ∀ e ∈ (wpE.drop 9).take 1, ∃ d, (∀ M, ev C e (wpEnv k a b n long key) M = .ok d M) ∧ PW2 d := by
  have wa := wordB_iff.mpr h.a
  have wb := wordB_iff.mpr h.b
  have pa := h.a.pw
  have pb := h.b.pw
  have la := h.a.ln
  have lb := h.b.ln
  have ln := h.nl
  have ll := h.l.ln
  have pl := h.l.pw
  have pk := key_pw h.key
  have lk : key.length ≤ 12 := by have := kws_len h.key; omega
  have wk := wf_kw key h.key
  have wn := h.nn.nw
  obtain ⟨on, en⟩ := numB_int h.nn.num
  have pn : PW n := en ▸ num_pw _
  have hi := fun M => pr_int_of (M := M) h.nn.num
  have w3 := three_w (a := a)
  have wl := long_w h.ll
  have lbig : bigS.length ≤ 31 := by decide
  have nb1 := nb_big
  have nb2 := nb_big2
  have nb3 : numB "-0" = false := rfl
  have nb4 : numB "-" = false := rfl
  have o7 : NumOk 7 := ⟨by decide⟩
  have o0 : NumOk 0 := ⟨by decide⟩
  have o3 : NumOk 3 := ⟨by decide⟩
  have p1 : PW ("1" ++ bigS) := app_pw (lit_pw (by decide) (by decide)) (lit_pw (by decide) (by decide))
  have p2 : PW ("-1" ++ bigS) := app_pw (lit_pw (by decide) (by decide)) (lit_pw (by decide) (by decide))
  have p3 : PW (long ++ "a") := app_pw pl (lit_pw (by decide) (by decide))
  have p4 : PW ("3" ++ a) := app_pw (lit_pw (by decide) (by decide)) pa
  have r5 : ∀ x : Str, List.replicate 5 x = [x, x, x, x, x] := fun x => rfl
  simp only [wpE, b__law_word_pairs, List.drop, List.take, List.forall_mem_cons]
  refine ⟨?_, by simp⟩
  · exact mkW ["name", "3" ++ a, n, "7"] (.name a (intOf n) 7) (by (repeat (first | exact es_lit | exact es_v rfl (by assumption) | apply es_add | decide))) (fun M => by simp [Lin.d, hi]) (by decide) (by simp) (by (repeat (first | exact pw_nil | refine pw_cons (by first | assumption | exact lit_pw (by decide) (by decide)) ?_))) (by (simp [tl_lit, JL, TL.joinL, TL.tl_append])) (readW_bad (by simp [LW]) (by simp [lineOf, ofString_eq, w3])) ⟨h.a, on, o7⟩ (name_len h.a on o7)
theorem wp_b6 (h : WIn a b n long key) : ∀ e ∈ (wpE.drop 10).take 1, ∃ d, (∀ M, ev C e (wpEnv k a b n long key) M = .ok d M) ∧ PW2 d := by
  have wa := wordB_iff.mpr h.a
  have wb := wordB_iff.mpr h.b
  have pa := h.a.pw
  have pb := h.b.pw
  have la := h.a.ln
  have lb := h.b.ln
  have ln := h.nl
  have ll := h.l.ln
  have pl := h.l.pw
  have pk := key_pw h.key
  have lk : key.length ≤ 12 := by have := kws_len h.key; omega
  have wk := wf_kw key h.key
  have wn := h.nn.nw
  obtain ⟨on, en⟩ := numB_int h.nn.num
  have pn : PW n := en ▸ num_pw _
  have hi := fun M => pr_int_of (M := M) h.nn.num
  have w3 := three_w (a := a)
  have wl := long_w h.ll
  have lbig : bigS.length ≤ 31 := by decide
  have nb1 := nb_big
  have nb2 := nb_big2
  have nb3 : numB "-0" = false := rfl
  have nb4 : numB "-" = false := rfl
  have o7 : NumOk 7 := ⟨by decide⟩
  have o0 : NumOk 0 := ⟨by decide⟩
  have o3 : NumOk 3 := ⟨by decide⟩
  have p1 : PW ("1" ++ bigS) := app_pw (lit_pw (by decide) (by decide)) (lit_pw (by decide) (by decide))
  have p2 : PW ("-1" ++ bigS) := app_pw (lit_pw (by decide) (by decide)) (lit_pw (by decide) (by decide))
  have p3 : PW (long ++ "a") := app_pw pl (lit_pw (by decide) (by decide))
  have p4 : PW ("3" ++ a) := app_pw (lit_pw (by decide) (by decide)) pa
  have r5 : ∀ x : Str, List.replicate 5 x = [x, x, x, x, x] := fun x => rfl
  simp only [wpE, b__law_word_pairs, List.drop, List.take, List.forall_mem_cons]
  refine ⟨?_, by simp⟩
  · exact mkW ["name", key, n, "7"] (.name (key ++ "9") (intOf n) 7) (by (repeat (first | exact es_lit | exact es_v rfl (by assumption) | apply es_add | decide))) (fun M => by have q := adds (M := M) (a := key) (b := "9") (by rw [len_app]; have e : ("9" : Str).length = 1 := rfl; omega); simp [Lin.d, hi, q]) (by decide) (by simp) (by (repeat (first | exact pw_nil | refine pw_cons (by first | assumption | exact lit_pw (by decide) (by decide)) ?_))) (by (simp [tl_lit, JL, TL.joinL, TL.tl_append])) (readW_bad (by simp [LW]) (by simp [lineOf, ofString_eq, wk])) ⟨key9 h.key, on, o7⟩ (name_len (key9 h.key) on o7)
theorem wp_b7 (h : WIn a b n long key) : ∀ e ∈ (wpE.drop 11).take 1, ∃ d, (∀ M, ev C e (wpEnv k a b n long key) M = .ok d M) ∧ PW2 d := by
  have wa := wordB_iff.mpr h.a
  have wb := wordB_iff.mpr h.b
  have pa := h.a.pw
  have pb := h.b.pw
  have la := h.a.ln
  have lb := h.b.ln
  have ln := h.nl
  have ll := h.l.ln
  have pl := h.l.pw
  have pk := key_pw h.key
  have lk : key.length ≤ 12 := by have := kws_len h.key; omega
  have wk := wf_kw key h.key
  have wn := h.nn.nw
  obtain ⟨on, en⟩ := numB_int h.nn.num
  have pn : PW n := en ▸ num_pw _
  have hi := fun M => pr_int_of (M := M) h.nn.num
  have w3 := three_w (a := a)
  have wl := long_w h.ll
  have lbig : bigS.length ≤ 31 := by decide
  have nb1 := nb_big
  have nb2 := nb_big2
  have nb3 : numB "-0" = false := rfl
  have nb4 : numB "-" = false := rfl
  have o7 : NumOk 7 := ⟨by decide⟩
  have o0 : NumOk 0 := ⟨by decide⟩
  have o3 : NumOk 3 := ⟨by decide⟩
  have p1 : PW ("1" ++ bigS) := app_pw (lit_pw (by decide) (by decide)) (lit_pw (by decide) (by decide))
  have p2 : PW ("-1" ++ bigS) := app_pw (lit_pw (by decide) (by decide)) (lit_pw (by decide) (by decide))
  have p3 : PW (long ++ "a") := app_pw pl (lit_pw (by decide) (by decide))
  have p4 : PW ("3" ++ a) := app_pw (lit_pw (by decide) (by decide)) pa
  have r5 : ∀ x : Str, List.replicate 5 x = [x, x, x, x, x] := fun x => rfl
  simp only [wpE, b__law_word_pairs, List.drop, List.take, List.forall_mem_cons]
  refine ⟨?_, by simp⟩
  · exact mkW ["name", a, n] (.name a (intOf n) (intOf n)) (by (repeat (first | exact es_lit | exact es_v rfl (by assumption) | apply es_add | decide))) (fun M => by simp [Lin.d, hi]) (by decide) (by simp) (by (repeat (first | exact pw_nil | refine pw_cons (by first | assumption | exact lit_pw (by decide) (by decide)) ?_))) (by (simp [tl_lit, JL, TL.joinL, TL.tl_append])) (readW_bad (by simp [LW]) (by simp [lineOf, ofString_eq, wa])) ⟨h.a, on, on⟩ (name_len h.a on on)
theorem wp_b8 (h : WIn a b n long key) : ∀ e ∈ (wpE.drop 12).take 1, ∃ d, (∀ M, ev C e (wpEnv k a b n long key) M = .ok d M) ∧ PW2 d := by
  have wa := wordB_iff.mpr h.a
  have wb := wordB_iff.mpr h.b
  have pa := h.a.pw
  have pb := h.b.pw
  have la := h.a.ln
  have lb := h.b.ln
  have ln := h.nl
  have ll := h.l.ln
  have pl := h.l.pw
  have pk := key_pw h.key
  have lk : key.length ≤ 12 := by have := kws_len h.key; omega
  have wk := wf_kw key h.key
  have wn := h.nn.nw
  obtain ⟨on, en⟩ := numB_int h.nn.num
  have pn : PW n := en ▸ num_pw _
  have hi := fun M => pr_int_of (M := M) h.nn.num
  have w3 := three_w (a := a)
  have wl := long_w h.ll
  have lbig : bigS.length ≤ 31 := by decide
  have nb1 := nb_big
  have nb2 := nb_big2
  have nb3 : numB "-0" = false := rfl
  have nb4 : numB "-" = false := rfl
  have o7 : NumOk 7 := ⟨by decide⟩
  have o0 : NumOk 0 := ⟨by decide⟩
  have o3 : NumOk 3 := ⟨by decide⟩
  have p1 : PW ("1" ++ bigS) := app_pw (lit_pw (by decide) (by decide)) (lit_pw (by decide) (by decide))
  have p2 : PW ("-1" ++ bigS) := app_pw (lit_pw (by decide) (by decide)) (lit_pw (by decide) (by decide))
  have p3 : PW (long ++ "a") := app_pw pl (lit_pw (by decide) (by decide))
  have p4 : PW ("3" ++ a) := app_pw (lit_pw (by decide) (by decide)) pa
  have r5 : ∀ x : Str, List.replicate 5 x = [x, x, x, x, x] := fun x => rfl
  simp only [wpE, b__law_word_pairs, List.drop, List.take, List.forall_mem_cons]
  refine ⟨?_, by simp⟩
  · exact mkW ["name", a, n, "3", "4"] (.name a (intOf n) 3) (by (repeat (first | exact es_lit | exact es_v rfl (by assumption) | apply es_add | decide))) (fun M => by simp [Lin.d, hi]) (by decide) (by simp) (by (repeat (first | exact pw_nil | refine pw_cons (by first | assumption | exact lit_pw (by decide) (by decide)) ?_))) (by (simp [tl_lit, JL, TL.joinL, TL.tl_append])) (readW_bad (by simp [LW]) (by simp [lineOf, ofString_eq, wa])) ⟨h.a, on, o3⟩ (name_len h.a on o3)
theorem wp_b9 (h : WIn a b n long key) : ∀ e ∈ (wpE.drop 13).take 1, ∃ d, (∀ M, ev C e (wpEnv k a b n long key) M = .ok d M) ∧ PW2 d := by
  have wa := wordB_iff.mpr h.a
  have wb := wordB_iff.mpr h.b
  have pa := h.a.pw
  have pb := h.b.pw
  have la := h.a.ln
  have lb := h.b.ln
  have ln := h.nl
  have ll := h.l.ln
  have pl := h.l.pw
  have pk := key_pw h.key
  have lk : key.length ≤ 12 := by have := kws_len h.key; omega
  have wk := wf_kw key h.key
  have wn := h.nn.nw
  obtain ⟨on, en⟩ := numB_int h.nn.num
  have pn : PW n := en ▸ num_pw _
  have hi := fun M => pr_int_of (M := M) h.nn.num
  have w3 := three_w (a := a)
  have wl := long_w h.ll
  have lbig : bigS.length ≤ 31 := by decide
  have nb1 := nb_big
  have nb2 := nb_big2
  have nb3 : numB "-0" = false := rfl
  have nb4 : numB "-" = false := rfl
  have o7 : NumOk 7 := ⟨by decide⟩
  have o0 : NumOk 0 := ⟨by decide⟩
  have o3 : NumOk 3 := ⟨by decide⟩
  have p1 : PW ("1" ++ bigS) := app_pw (lit_pw (by decide) (by decide)) (lit_pw (by decide) (by decide))
  have p2 : PW ("-1" ++ bigS) := app_pw (lit_pw (by decide) (by decide)) (lit_pw (by decide) (by decide))
  have p3 : PW (long ++ "a") := app_pw pl (lit_pw (by decide) (by decide))
  have p4 : PW ("3" ++ a) := app_pw (lit_pw (by decide) (by decide)) pa
  have r5 : ∀ x : Str, List.replicate 5 x = [x, x, x, x, x] := fun x => rfl
  simp only [wpE, b__law_word_pairs, List.drop, List.take, List.forall_mem_cons]
  refine ⟨?_, by simp⟩
  · exact mkW ["block", a, ":"] (.block a [b]) (by (repeat (first | exact es_lit | exact es_v rfl (by assumption) | apply es_add | decide))) (fun M => by simp [Lin.d]) (by decide) (by simp) (by (repeat (first | exact pw_nil | refine pw_cons (by first | assumption | exact lit_pw (by decide) (by decide)) ?_))) (by (simp [tl_lit, JL, TL.joinL, TL.tl_append])) (readW_bad (by simp [LW]) (by simp [lineOf, ofString_eq, wa])) ⟨h.a, ws1 h.b⟩ (block_len ⟨h.a, ws1 h.b⟩)
theorem wp_b10 (h : WIn a b n long key) : ∀ e ∈ (wpE.drop 14).take 1, ∃ d, (∀ M, ev C e (wpEnv k a b n long key) M = .ok d M) ∧ PW2 d := by
  have wa := wordB_iff.mpr h.a
  have wb := wordB_iff.mpr h.b
  have pa := h.a.pw
  have pb := h.b.pw
  have la := h.a.ln
  have lb := h.b.ln
  have ln := h.nl
  have ll := h.l.ln
  have pl := h.l.pw
  have pk := key_pw h.key
  have lk : key.length ≤ 12 := by have := kws_len h.key; omega
  have wk := wf_kw key h.key
  have wn := h.nn.nw
  obtain ⟨on, en⟩ := numB_int h.nn.num
  have pn : PW n := en ▸ num_pw _
  have hi := fun M => pr_int_of (M := M) h.nn.num
  have w3 := three_w (a := a)
  have wl := long_w h.ll
  have lbig : bigS.length ≤ 31 := by decide
  have nb1 := nb_big
  have nb2 := nb_big2
  have nb3 : numB "-0" = false := rfl
  have nb4 : numB "-" = false := rfl
  have o7 : NumOk 7 := ⟨by decide⟩
  have o0 : NumOk 0 := ⟨by decide⟩
  have o3 : NumOk 3 := ⟨by decide⟩
  have p1 : PW ("1" ++ bigS) := app_pw (lit_pw (by decide) (by decide)) (lit_pw (by decide) (by decide))
  have p2 : PW ("-1" ++ bigS) := app_pw (lit_pw (by decide) (by decide)) (lit_pw (by decide) (by decide))
  have p3 : PW (long ++ "a") := app_pw pl (lit_pw (by decide) (by decide))
  have p4 : PW ("3" ++ a) := app_pw (lit_pw (by decide) (by decide)) pa
  have r5 : ∀ x : Str, List.replicate 5 x = [x, x, x, x, x] := fun x => rfl
  simp only [wpE, b__law_word_pairs, List.drop, List.take, List.forall_mem_cons]
  refine ⟨?_, by simp⟩
  · exact mkW ["block", a, b] (.block a [b]) (by (repeat (first | exact es_lit | exact es_v rfl (by assumption) | apply es_add | decide))) (fun M => by simp [Lin.d]) (by decide) (by simp) (by (repeat (first | exact pw_nil | refine pw_cons (by first | assumption | exact lit_pw (by decide) (by decide)) ?_))) (by (simp [tl_lit, JL, TL.joinL, TL.tl_append])) (readW_bad (by simp [LW]) (by simp [lineOf, ofString_eq, wa])) ⟨h.a, ws1 h.b⟩ (block_len ⟨h.a, ws1 h.b⟩)
theorem wp_b11 (h : WIn a b n long key) : ∀ e ∈ (wpE.drop 15).take 1, ∃ d, (∀ M, ev C e (wpEnv k a b n long key) M = .ok d M) ∧ PW2 d := by
  have wa := wordB_iff.mpr h.a
  have wb := wordB_iff.mpr h.b
  have pa := h.a.pw
  have pb := h.b.pw
  have la := h.a.ln
  have lb := h.b.ln
  have ln := h.nl
  have ll := h.l.ln
  have pl := h.l.pw
  have pk := key_pw h.key
  have lk : key.length ≤ 12 := by have := kws_len h.key; omega
  have wk := wf_kw key h.key
  have wn := h.nn.nw
  obtain ⟨on, en⟩ := numB_int h.nn.num
  have pn : PW n := en ▸ num_pw _
  have hi := fun M => pr_int_of (M := M) h.nn.num
  have w3 := three_w (a := a)
  have wl := long_w h.ll
  have lbig : bigS.length ≤ 31 := by decide
  have nb1 := nb_big
  have nb2 := nb_big2
  have nb3 : numB "-0" = false := rfl
  have nb4 : numB "-" = false := rfl
  have o7 : NumOk 7 := ⟨by decide⟩
  have o0 : NumOk 0 := ⟨by decide⟩
  have o3 : NumOk 3 := ⟨by decide⟩
  have p1 : PW ("1" ++ bigS) := app_pw (lit_pw (by decide) (by decide)) (lit_pw (by decide) (by decide))
  have p2 : PW ("-1" ++ bigS) := app_pw (lit_pw (by decide) (by decide)) (lit_pw (by decide) (by decide))
  have p3 : PW (long ++ "a") := app_pw pl (lit_pw (by decide) (by decide))
  have p4 : PW ("3" ++ a) := app_pw (lit_pw (by decide) (by decide)) pa
  have r5 : ∀ x : Str, List.replicate 5 x = [x, x, x, x, x] := fun x => rfl
  simp only [wpE, b__law_word_pairs, List.drop, List.take, List.forall_mem_cons]
  refine ⟨?_, by simp⟩
  · exact mkW ["block", a, ":", b, b, b, b, b] (.block a [b, b, b, b]) (es_add (by (repeat (first | exact es_lit | exact es_v rfl (by assumption) | apply es_add | decide))) (es_join (a := " ") (j := 5) rfl lb (by omega) (by decide)) (by decide)) (fun M => by simp [Lin.d]) (by decide) (by simp) (by (repeat (first | exact pw_nil | refine pw_cons (by first | assumption | exact lit_pw (by decide) (by decide)) ?_))) (by rw [TL.tl_append, tl_t, r5]; (simp [tl_lit, JL, TL.joinL, TL.tl_append])) (readW_bad (by simp [LW]) (by simp [lineOf, ofString_eq, wa, wordsB])) ⟨h.a, ws4 h.b⟩ (block_len ⟨h.a, ws4 h.b⟩)
theorem wp_b12 (h : WIn a b n long key) : ∀ e ∈ (wpE.drop 16).take 1, ∃ d, (∀ M, ev C e (wpEnv k a b n long key) M = .ok d M) ∧ PW2 d := by
  have wa := wordB_iff.mpr h.a
  have wb := wordB_iff.mpr h.b
  have pa := h.a.pw
  have pb := h.b.pw
  have la := h.a.ln
  have lb := h.b.ln
  have ln := h.nl
  have ll := h.l.ln
  have pl := h.l.pw
  have pk := key_pw h.key
  have lk : key.length ≤ 12 := by have := kws_len h.key; omega
  have wk := wf_kw key h.key
  have wn := h.nn.nw
  obtain ⟨on, en⟩ := numB_int h.nn.num
  have pn : PW n := en ▸ num_pw _
  have hi := fun M => pr_int_of (M := M) h.nn.num
  have w3 := three_w (a := a)
  have wl := long_w h.ll
  have lbig : bigS.length ≤ 31 := by decide
  have nb1 := nb_big
  have nb2 := nb_big2
  have nb3 : numB "-0" = false := rfl
  have nb4 : numB "-" = false := rfl
  have o7 : NumOk 7 := ⟨by decide⟩
  have o0 : NumOk 0 := ⟨by decide⟩
  have o3 : NumOk 3 := ⟨by decide⟩
  have p1 : PW ("1" ++ bigS) := app_pw (lit_pw (by decide) (by decide)) (lit_pw (by decide) (by decide))
  have p2 : PW ("-1" ++ bigS) := app_pw (lit_pw (by decide) (by decide)) (lit_pw (by decide) (by decide))
  have p3 : PW (long ++ "a") := app_pw pl (lit_pw (by decide) (by decide))
  have p4 : PW ("3" ++ a) := app_pw (lit_pw (by decide) (by decide)) pa
  have r5 : ∀ x : Str, List.replicate 5 x = [x, x, x, x, x] := fun x => rfl
  simp only [wpE, b__law_word_pairs, List.drop, List.take, List.forall_mem_cons]
  refine ⟨?_, by simp⟩
  · exact mkW ["use", a, ":", b] (.use false a b [a]) (by (repeat (first | exact es_lit | exact es_v rfl (by assumption) | apply es_add | decide))) (fun M => by simp [Lin.d, useS]) (by decide) (by simp) (by (repeat (first | exact pw_nil | refine pw_cons (by first | assumption | exact lit_pw (by decide) (by decide)) ?_))) (by (simp [tl_lit, JL, TL.joinL, TL.tl_append])) (readW_bad (by simp [LW]) (by simp [lineOf, ofString_eq, wa, wordsB])) ⟨h.a, h.b, ws1 h.a⟩ (use_len ⟨h.a, h.b, ws1 h.a⟩)
theorem wp_b13 (h : WIn a b n long key) : ∀ e ∈ (wpE.drop 17).take 1, ∃ d, (∀ M, ev C e (wpEnv k a b n long key) M = .ok d M) ∧ PW2 d := by
  have wa := wordB_iff.mpr h.a
  have wb := wordB_iff.mpr h.b
  have pa := h.a.pw
  have pb := h.b.pw
  have la := h.a.ln
  have lb := h.b.ln
  have ln := h.nl
  have ll := h.l.ln
  have pl := h.l.pw
  have pk := key_pw h.key
  have lk : key.length ≤ 12 := by have := kws_len h.key; omega
  have wk := wf_kw key h.key
  have wn := h.nn.nw
  obtain ⟨on, en⟩ := numB_int h.nn.num
  have pn : PW n := en ▸ num_pw _
  have hi := fun M => pr_int_of (M := M) h.nn.num
  have w3 := three_w (a := a)
  have wl := long_w h.ll
  have lbig : bigS.length ≤ 31 := by decide
  have nb1 := nb_big
  have nb2 := nb_big2
  have nb3 : numB "-0" = false := rfl
  have nb4 : numB "-" = false := rfl
  have o7 : NumOk 7 := ⟨by decide⟩
  have o0 : NumOk 0 := ⟨by decide⟩
  have o3 : NumOk 3 := ⟨by decide⟩
  have p1 : PW ("1" ++ bigS) := app_pw (lit_pw (by decide) (by decide)) (lit_pw (by decide) (by decide))
  have p2 : PW ("-1" ++ bigS) := app_pw (lit_pw (by decide) (by decide)) (lit_pw (by decide) (by decide))
  have p3 : PW (long ++ "a") := app_pw pl (lit_pw (by decide) (by decide))
  have p4 : PW ("3" ++ a) := app_pw (lit_pw (by decide) (by decide)) pa
  have r5 : ∀ x : Str, List.replicate 5 x = [x, x, x, x, x] := fun x => rfl
  simp only [wpE, b__law_word_pairs, List.drop, List.take, List.forall_mem_cons]
  refine ⟨?_, by simp⟩
  · exact mkW ["mustuse", a, ":", b, a, a, a, a, a] (.use true a b [a, a, a, a]) (es_add (by (repeat (first | exact es_lit | exact es_v rfl (by assumption) | apply es_add | decide))) (es_join (a := " ") (j := 5) rfl la (by omega) (by decide)) (by decide)) (fun M => by simp [Lin.d, useS]) (by decide) (by simp) (by (repeat (first | exact pw_nil | refine pw_cons (by first | assumption | exact lit_pw (by decide) (by decide)) ?_))) (by rw [TL.tl_append, tl_t, r5]; (simp [tl_lit, JL, TL.joinL, TL.tl_append])) (readW_bad (by simp [LW]) (by simp [lineOf, ofString_eq, wa, wordsB])) ⟨h.a, h.b, ws4 h.a⟩ (use_len ⟨h.a, h.b, ws4 h.a⟩)
theorem wp_b14 (h : WIn a b n long key) : ∀ e ∈ (wpE.drop 18).take 1, ∃ d, (∀ M, ev C e (wpEnv k a b n long key) M = .ok d M) ∧ PW2 d := by
  have wa := wordB_iff.mpr h.a
  have wb := wordB_iff.mpr h.b
  have pa := h.a.pw
  have pb := h.b.pw
  have la := h.a.ln
  have lb := h.b.ln
  have ln := h.nl
  have ll := h.l.ln
  have pl := h.l.pw
  have pk := key_pw h.key
  have lk : key.length ≤ 12 := by have := kws_len h.key; omega
  have wk := wf_kw key h.key
  have wn := h.nn.nw
  obtain ⟨on, en⟩ := numB_int h.nn.num
  have pn : PW n := en ▸ num_pw _
  have hi := fun M => pr_int_of (M := M) h.nn.num
  have w3 := three_w (a := a)
  have wl := long_w h.ll
  have lbig : bigS.length ≤ 31 := by decide
  have nb1 := nb_big
  have nb2 := nb_big2
  have nb3 : numB "-0" = false := rfl
  have nb4 : numB "-" = false := rfl
  have o7 : NumOk 7 := ⟨by decide⟩
  have o0 : NumOk 0 := ⟨by decide⟩
  have o3 : NumOk 3 := ⟨by decide⟩
  have p1 : PW ("1" ++ bigS) := app_pw (lit_pw (by decide) (by decide)) (lit_pw (by decide) (by decide))
  have p2 : PW ("-1" ++ bigS) := app_pw (lit_pw (by decide) (by decide)) (lit_pw (by decide) (by decide))
  have p3 : PW (long ++ "a") := app_pw pl (lit_pw (by decide) (by decide))
  have p4 : PW ("3" ++ a) := app_pw (lit_pw (by decide) (by decide)) pa
  have r5 : ∀ x : Str, List.replicate 5 x = [x, x, x, x, x] := fun x => rfl
  simp only [wpE, b__law_word_pairs, List.drop, List.take, List.forall_mem_cons]
  refine ⟨?_, by simp⟩
  · have c1 : (⟨a, .eq, [1]⟩ : Cnd).Ok := ⟨h.a, by simp; exact ⟨by decide⟩, by simp, by simp, fun _ => rfl, by intro k hk; simp at hk⟩
    have lc := cT_len c1
    exact mkW ["row", key, ":", a, "=", "1"] (.frm false a (.bas (.is ⟨a, .eq, [1]⟩))) (by (repeat (first | exact es_lit | exact es_v rfl (by assumption) | apply es_add | decide))) (fun M => by simp [Lin.d, rowS, Frm.d, Bas.d, Cnd.d, Sg.s]) (by decide) (by simp) (by (repeat (first | exact pw_nil | refine pw_cons (by first | assumption | exact lit_pw (by decide) (by decide)) ?_))) (by (simp [tl_lit, JL, TL.joinL, TL.tl_append])) (readW_bad (by simp [LW]) (by simp [lineOf, ofString_eq, wk])) ⟨h.a, c1⟩ (by
      rw [l_frm]
      have lf : (Frm.bas (.is ⟨a, .eq, [1]⟩)).t.length ≤ 400 := lc
      have e : (" : " : Str).length = 3 := rfl
      have e : (" " : Str).length = 1 := rfl
      have := rowS_len false
      simp only [len_app]; omega)
theorem wp_b (h : WIn a b n long key) : ∀ e ∈ wpE.drop 4, ∃ d, (∀ M, ev C e (wpEnv k a b n long key) M = .ok d M) ∧ PW2 d := by
  have e : wpE.drop 4 = (wpE.drop 4).take 1 ++ (wpE.drop 5).take 1 ++ (wpE.drop 6).take 1 ++ (wpE.drop 7).take 1 ++ (wpE.drop 8).take 1 ++ (wpE.drop 9).take 1 ++ (wpE.drop 10).take 1 ++ (wpE.drop 11).take 1 ++ (wpE.drop 12).take 1 ++ (wpE.drop 13).take 1 ++ (wpE.drop 14).take 1 ++ (wpE.drop 15).take 1 ++ (wpE.drop 16).take 1 ++ (wpE.drop 17).take 1 ++ (wpE.drop 18).take 1 := rfl
  rw [e]
  intro x hx
  simp only [List.mem_append] at hx
  rcases hx with (((((((((((((hx | hx) | hx) | hx) | hx) | hx) | hx) | hx) | hx) | hx) | hx) | hx) | hx) | hx) | hx
  · exact wp_b0 h x hx
  · exact wp_b1 h x hx
  · exact wp_b2 h x hx
  · exact wp_b3 h x hx
  · exact wp_b4 h x hx
  · exact wp_b5 h x hx
  · exact wp_b6 h x hx
  · exact wp_b7 h x hx
  · exact wp_b8 h x hx
  · exact wp_b9 h x hx
  · exact wp_b10 h x hx
  · exact wp_b11 h x hx
  · exact wp_b12 h x hx
  · exact wp_b13 h x hx
  · exact wp_b14 h x hx
end
end K01

namespace K01
open PySem PySem.Spec PyProof.Rows L2 DP
theorem nb_zero {r : Int} (h0 : 0 < r) : numB ("0" ++ numS r) = false := by
  have e : TL.tl ("0" ++ numS r) = 48 :: intL r := by rw [TL.tl_append, tl_int]; rfl
  unfold numB
  rw [e, figL_of (by omega)]
  have := intL_ne r
  have q : ¬ (48 :: intL r = [48]) := by simpa using this
  simp [q]
theorem kw_at {r : Int} (h0 : 0 ≤ r) (h : r < 19) : ∃ key ∈ kws, atI (kws.map D.str) r = some (.str key) := by
  obtain ⟨j, rfl⟩ := Int.eq_ofNat_of_zero_le h0
  have hj : j < kws.length := by show j < 19; omega
  refine ⟨kws[j], List.getElem_mem hj, ?_⟩
  show atI (kws.map D.str) (j : Int) = _
  rw [atI_nat, List.getElem?_map, List.getElem?_eq_getElem hj]; rfl
theorem small_ok {r : Int} (h0 : -100 ≤ r) (h1 : r ≤ 100) : NumOk r := by
  have e : (100 : Nat) < 10 ^ 31 := by decide
  exact ⟨by omega⟩
def wp4 : E := (wpE.drop 3).headD .never
theorem ev_four {C : Nat → List D → Mem → Res D} {env : DP.Env} {X L : E} {M M1 : Mem} {k q : Nat} {r : Int} {s : Str} {d : D} (hX : EvS C env X s q) (hq : q ≤ 90) (he : env[0]? = some (some (.loc k))) (hp : C i__law_pick [.loc k, .int 9] M = .ok (.int r) M1) (hn : NumOk (1 + r)) (hL : ∀ M, ev C L env M = .ok d M) :
    ev C (.pr .tup [.pr .add [X, .pr .str_ [.pr .add [.c (.int 1), .call i__law_pick [.v 0, .c (.int 9)]]]], L]) env M = .ok (.tup [.str (s ++ numS (1 + r)), d]) M1 := by
  have h1 := pr_str_num (M := M1) hn
  have h2 := adds (M := M1) (a := s) (b := numS (1 + r)) (by have := hX.l; have := num_len hn; rw [len_app]; omega)
  simp [hX.e, he, hp, h1, h2, hL]
theorem wp_four {C : Nat → List D → Mem → Res D} {M M1 : Mem} {k : Nat} {r : Int} {a b n long key : Str} (h : WIn a b n long key) (hp : C i__law_pick [.loc k, .int 9] M = .ok (.int r) M1) (h0 : 0 ≤ r) (h9 : r < 9) :
    ∃ d, ev C wp4 (wpEnv k a b n long key) M = .ok d M1 ∧ PW2 d := by
  have wa := wordB_iff.mpr h.a
  have pa := h.a.pw
  have la := h.a.ln
  have ln := h.nl
  obtain ⟨on, en⟩ := numB_int h.nn.num
  have pn : PW n := en ▸ num_pw _
  have hi := fun M => pr_int_of (M := M) h.nn.num
  have o1 : NumOk 1 := ⟨by decide⟩
  have or : NumOk (1 + r) := small_ok (by omega) (by omega)
  have nz := nb_zero (r := 1 + r) (by omega)
  have lr := num_len or
  have pz : PW ("0" ++ numS (1 + r)) := app_pw (lit_pw (by decide) (by decide)) (num_pw _)
  obtain ⟨q, hX, hq⟩ : ∃ q, EvS C (wpEnv k a b n long key) (.pr .add [.pr .add [.pr .add [.pr .add [.c (.str "name "), .v 1], .c (.str " ")], .v 3], .c (.str " 0")]) ("name " ++ a ++ " " ++ n ++ " 0") q ∧ q ≤ 90 := ⟨_, ⟨by (repeat (first | exact es_lit | exact es_v rfl (by assumption) | apply es_add | decide)), by decide⟩⟩
  refine ⟨_, ev_four hX hq rfl hp or (L := .pr .tup [.c (.str "name"), .v 1, .pr .int_ [.v 3], .c (.int 1)]) (d := (Lin.name a (intOf n) 1).d) (fun M => by simp [Lin.d, hi]), _, _, rfl, ⟨["name", a, n, "0" ++ numS (1 + r)], by simp, pw_cons (lit_pw (by decide) (by decide)) (pw_cons pa (pw_cons pn (pw_cons pz pw_nil))), TL.ext_tl ?_, readW_bad (by simp [LW]) (by simp [lineOf, ofString_eq, wa, nz])⟩, ?_, ⟨h.a, on, o1⟩, name_len h.a on o1⟩
  · rw [tl_t]; (simp [tl_lit, JL, TL.joinL, TL.tl_append])
  · have := hX.l
    rw [len_app]; omega
theorem wp_fin {C : Nat → List D → Mem → Res D} {M M1 M2 M3 : Mem} {k : Nat} {r : Int} {a b n long key : Str} {ds : List D} {es : List E} (e1 : C i__law_signs [.loc k, .int 12] M = .ok (.str long) M1) (e2 : ∀ M, C i__law_keywords [] M = .ok (.list (kws.map .str)) M) (e3 : C i__law_pick [.loc k, .int 19] M1 = .ok (.int r) M2) (e4 : atI (kws.map D.str) r = some (.str key))
    (e5 : evs C es (wpEnv k a b n long key) M2 = .ok ds M3) (hl : ds.length ≤ sizeLine) (tr : ∀ d, trim M d M3 = M3) :
    fin M (DP.execs C [.asg (.nm 4) (.call i__law_signs [(.v 0), (.c (.int (12)))]), .asg (.nm 5) (.pr .mul [(.c (.str "9")), (.c (.int (31)))]), .asg (.nm 6) (.pr .idx [(.call i__law_keywords []), (.call i__law_pick [(.v 0), (.c (.int (19)))])]), .ret (.pr .list es)]
      [some (.loc k), some (.str a), some (.str b), some (.str n), none, none, none] M) = .ok (.list ds) M3 := by
  have h1 := pr_idx_list (M := M2) e4
  have h2 := big_mul (M := M1)
  have h3 := pr_list (M := M3) hl
  simp [e1, e2, e3, h1, h2, e5, h3, tr]
theorem run_wpairs {m k b : Nat} {M : Mem} {a c n : Str} (s : Src k b M) (hb : b < 800000000) (ha : IsW a) (hc : IsW c) (hn : Nm n) (nl : n.length ≤ 2) :
    ∃ ds M', DP.run fs (m + 3) i__law_word_pairs [.loc k, .str a, .str c, .str n] M = .ok (.list ds) M' ∧ ds.length = 19 ∧ (∀ d ∈ ds, PW2 d) ∧ Src k (b + 20) M' ∧ Keep k M M' := by
  obtain ⟨long, M1, e1, hl, s1, k1, ll⟩ := run_signsL (n := m) s (by omega) (by omega) (Nat.le_refl 12)
  have e2 := fun M => run_kws (n := m + 1) (M := M)
  obtain ⟨r, M2, e3, r0, r1, s2, k2⟩ := pick (n := m + 1) (m := 19) s1 (by omega) (by omega) (by omega)
  obtain ⟨key, hk, e4⟩ := kw_at r0 r1
  have W : WIn a c n long key := ⟨ha, hc, hn, nl, hl, ll, hk⟩
  obtain ⟨d1, f1, l1, p1⟩ := evs_all (C := DP.run fs (m + 2)) (wp_a (k := k) W)
  obtain ⟨q, M3, e5, q0, q1, s3, k3⟩ := pick (n := m + 1) (m := 9) s2 (by omega) (by omega) (by omega)
  obtain ⟨d2, f2, p2⟩ := wp_four (k := k) W e5 q0 q1
  obtain ⟨d3, f3, l3, p3⟩ := evs_all (C := DP.run fs (m + 2)) (wp_b (k := k) W)
  have hE : wpE = wpE.take 3 ++ ([wp4] ++ wpE.drop 4) := rfl
  have f : evs (DP.run fs (m + 2)) wpE (wpEnv k a c n long key) M2 = .ok (d1 ++ ([d2] ++ d3)) M3 := by
    rw [hE, evs_append, f1]
    simp only [Res.bind]
    rw [evs_append]
    have : evs (DP.run fs (m + 2)) [wp4] (wpEnv k a c n long key) M2 = .ok [d2] M3 := by simp [f2]
    rw [this]
    simp only [Res.bind]
    rw [f3]
  have hlen : (d1 ++ ([d2] ++ d3)).length = 19 := by
    simp only [List.length_append, l1, l3]; rfl
  have kk := (k1.trans k2).trans k3
  refine ⟨_, M3, ?_, hlen, fun d hd => ?_, s3.mono (by omega), kk⟩
  · rw [run_at (d := ⟨4, 7, b__law_word_pairs⟩) rfl rfl]
    exact wp_fin (C := DP.run fs (m + 2)) e1 e2 e3 e4 f (by rw [hlen, sl_eq]; omega) fun d => trim_len kk.ln
  · rcases List.mem_append.mp hd with h | h
    · exact p1 d h
    · rcases List.mem_append.mp h with h | h
      · rw [List.mem_singleton.mp h]; exact p2
      · exact p3 d h
end K01

/-! forms that are not taken, as texts -/
namespace K01
open PySem PySem.Spec PyProof.Rows L2 DP
/-- a short condition -/
structure C30 (c : Cnd) : Prop where
  ok : c.Ok
  l : (cT c).length ≤ 32
theorem cT_tl {c : Cnd} : TL.tl (cT c) = JL c.ws := tl_t
theorem wT30 {sep : Str} {cs : List Cnd} (hs : sep.length ≤ 5) (h : ∀ c ∈ cs, C30 c) (hl : cs.length ≤ 13) : (wT sep cs).length ≤ 481 := by
  have := join_len (k := 32) hs (ss := cs.map cT) fun s hs => by
    obtain ⟨c, hc, rfl⟩ := List.mem_map.mp hs
    exact (h c hc).l
  rw [List.length_map] at this
  unfold wT
  have q : cs.length * (32 + 5) ≤ 13 * 37 := Nat.mul_le_mul_right _ hl
  omega
theorem c30_one {a n : Str} {i : Int} (g : Sg) (ha : IsW a) (ho : NumOk i) (en : n = numS i) (nl : n.length ≤ 2) : C30 ⟨a, g, [i]⟩ := by
  refine ⟨⟨ha, by simpa using ho, by simp, by simp, fun _ => rfl, by intro k hk; simp at hk⟩, ?_⟩
  have la := ha.ln
  subst en
  rw [TL.len_tl] at la nl
  rw [TL.len_tl, cT_tl]
  cases g <;> (simp [Cnd.ws, Sg.ws, JL, TL.joinL, tl_lit] at la nl ⊢; omega)
def t8 : List Int := [1, 2, 3, 4, 5, 6, 7, 8]
theorem c30_many {a : Str} {ns : List Int} (ha : IsW a) (h : ns = [1, 2] ∨ ns = t8) : C30 ⟨a, .in_, ns⟩ := by
  have la := ha.ln
  rw [TL.len_tl] at la
  have e : ∀ ns : List Int, TL.tl (cT ⟨a, .in_, ns⟩) = JL (a :: "in" :: ns.map numS) := fun ns => cT_tl
  rcases h with rfl | rfl
  · refine ⟨⟨ha, by intro i hi; simp at hi; exact small_ok (by omega) (by omega), by simp, by simp, by simp [Sg.many], ascB_get.mp rfl⟩, ?_⟩
    rw [TL.len_tl, e]
    have q : (JL ("in" :: [1, 2].map numS)).length = 6 := by decide +kernel
    rw [J_cons (by simp), List.length_append, List.length_cons, q]
    exact Nat.add_le_add (b := 12) (d := 20) la (by decide)
  · refine ⟨⟨ha, by intro i hi; simp [t8] at hi; exact small_ok (by omega) (by omega), by simp [t8], by simp [t8], by simp [Sg.many], ascB_get.mp rfl⟩, ?_⟩
    rw [TL.len_tl, e]
    have q : (JL ("in" :: t8.map numS)).length = 18 := by decide +kernel
    rw [J_cons (by simp), List.length_append, List.length_cons, q]
    exact Nat.add_le_add (b := 12) (d := 20) la (by decide)
theorem is_len {c : Cnd} (h : C30 c) : (Frm.bas (.is c)).t.length ≤ 770 := by
  have : (Frm.bas (.is c)).t.length ≤ 32 := h.l
  omega
theorem order_len {a b n : Str} {i : Int} (ha : IsW a) (hb : IsW b) (en : n = numS i) (nl : n.length ≤ 2) : (Frm.bas (.order a i b)).t.length ≤ 770 := by
  have e : (Frm.bas (.order a i b)).t = a ++ " + " ++ numS i ++ " <= " ++ b := t_order
  have := ha.ln; have := hb.ln
  rw [en] at nl
  have e1 : (" + " : Str).length = 3 := rfl
  have e1 : (" <= " : Str).length = 4 := rfl
  rw [e]; simp only [len_app]; omega
theorem either_len {cs : List Cnd} (h0 : cs ≠ []) (h : ∀ c ∈ cs, C30 c) (hl : cs.length ≤ 13) : (Frm.either cs).t.length ≤ 770 := by
  have := wT30 (sep := " or ") (by decide) h hl
  have e1 : ("either " : Str).length = 7 := rfl
  rw [t_either h0, len_app]; omega
theorem if_len {cs : List Cnd} {c : Cnd} (h0 : cs ≠ []) (h : ∀ c ∈ cs, C30 c) (hl : cs.length ≤ 13) (hc : C30 c) : (Frm.ifs cs (.is c)).t.length ≤ 770 := by
  have := wT30 (sep := " and ") (by decide) h hl
  have e1 : ("if " : Str).length = 3 := rfl
  have e1 : (" then " : Str).length = 6 := rfl
  have : (Bas.is c).t.length ≤ 32 := hc.l
  rw [t_if h0]; simp only [len_app]; omega
theorem at_len {m : Bool} {cs : List Cnd} {n : Str} {i : Int} (h0 : cs ≠ []) (h : ∀ c ∈ cs, C30 c) (hl : cs.length ≤ 13) (en : n = numS i) (nl : n.length ≤ 2) : (Frm.at_ m i cs).t.length ≤ 770 := by
  have := wT30 (sep := " , ") (by decide) h hl
  have e1 : ("at " : Str).length = 3 := rfl
  have e1 : (" of " : Str).length = 4 := rfl
  have e1 : (" " : Str).length = 1 := rfl
  have := mostS_len m
  rw [en] at nl
  rw [t_at h0]; simp only [len_app]; omega
theorem rep30 {c : Cnd} {j : Nat} (h : C30 c) : ∀ x ∈ List.replicate j c, C30 x := fun x hx => by rw [(List.mem_replicate.mp hx).2]; exact h
theorem rep_ok {c : Cnd} {j lo hi : Nat} (h : C30 c) (h1 : lo ≤ j) (h2 : j ≤ hi) : CsOk (List.replicate j c) lo hi := ⟨fun x hx => (rep30 h x hx).ok, by simpa using h1, by simpa using h2⟩
theorem tl_rep {sg w : Str} {cw : List Str} (j : Nat) (hc : cw ≠ []) (hw : TL.tl w = JL cw) : TL.tl (Str.join (" " ++ sg ++ " ") (List.replicate (j + 1) w)) = JL (weave sg (List.replicate (j + 1) cw)) := by
  rw [J_weave (by simp [List.replicate_succ]) (fun g hg => by rw [(List.mem_replicate.mp hg).2]; exact hc), TL.tl_join, List.map_replicate, List.map_replicate, hw]
  congr 1
  rw [TL.tl_append, TL.tl_append]
  simp [tl_lit]
theorem rep_pw {sg : Str} {g : List Str} {j : Nat} (hs : PW sg) (h : ∀ w ∈ g, PW w) : ∀ w ∈ weave sg (List.replicate j g), PW w :=
  weave_pw hs fun x hx => by rw [(List.mem_replicate.mp hx).2]; exact h
def fpE : List E := match b__law_form_pairs with
  | [_, _, _, _, .ret (.pr .list es)] => es
  | _ => []
def toldS : List Str := [1, 2, 3, 4, 5, 6, 7, 8, 9].map numS
section
variable {C : Nat → List D → Mem → Res D} {k : Nat} {a b n : Str} {i : Int}
abbrev fpEnv (k : Nat) (a b n : Str) (i : Int) (x : Option D) : DP.Env := [some (.loc k), some (.str a), some (.str b), some (.str n), some (Cnd.d ⟨a, .eq, [i]⟩), some (.str (a ++ " = " ++ n)), some (.list (toldS.map .str)), x, some (.tup (t8.map .int))]
structure FIn (a b n : Str) (i : Int) : Prop where
  a : IsW a
  b : IsW b
  nn : Nm n
  nl : n.length ≤ 2
  io : NumOk i
  en : n = numS i
theorem told_join {env : DP.Env} (h : env[6]? = some (some (.list (toldS.map .str)))) : EvS C env (.meth .join "str" (.c (.str " ")) [.v 6]) (Str.join " " toldS) 17 := by
  refine ⟨fun M => ?_, by decide +kernel⟩
  have h2 : pr .join M [.str " ", .list (toldS.map .str)] = some (.str (Txt.join " " toldS), M) := pr_join (by decide +kernel)
  rw [TL.join_eq] at h2
  simp [h, h2]
theorem fp_0 (h : FIn a b n i) {x : Option D} : ∀ e ∈ (fpE.drop 0).take 1, ∃ d, (∀ M, ev C e (fpEnv k a b n i x) M = .ok d M) ∧ PF2 d := by
  have pa := h.a.pw
  have pb := h.b.pw
  have la := h.a.ln
  have lb := h.b.ln
  have ln := h.nl
  have io := h.io
  have pn : PW n := h.en ▸ num_pw _
  have hi : ∀ M, pr .int_ M [.str n] = some (.int i, M) := fun M => h.en ▸ pr_int_num (M := M) h.io
  have c0 := c30_one .eq h.a io h.en ln
  have lw : (a ++ " = " ++ n).length ≤ 17 := by
    have e1 : (" = " : Str).length = 3 := rfl
    simp only [len_app]; omega
  have hw : TL.tl (a ++ " = " ++ n) = JL [a, "=", n] := by (simp [tl_lit, JL, TL.joinL, TL.tl_append])
  have pw3 : ∀ w ∈ [a, "=", n], PW w := pw_cons pa (pw_cons (lit_pw (by decide) (by decide)) (pw_cons pn pw_nil))
  have tu : ∀ (M : Mem) (j : Nat), pr .tuple_ M [.list (List.replicate j (Cnd.d ⟨a, .eq, [i]⟩))] = some (.tup (List.replicate j (Cnd.d ⟨a, .eq, [i]⟩)), M) := fun M j => rfl
  simp only [fpE, b__law_form_pairs, List.drop, List.take, List.forall_mem_cons]
  refine ⟨?_, by simp⟩
  exact mkF a ["==", n] (.bas (.is ⟨a, .eq, [i]⟩)) (by (repeat (first | exact es_lit | exact es_v rfl (by assumption) | apply es_add | decide))) (fun M => by simp [Frm.d, Bas.d, Cnd.d, Sg.s, hi]) (by decide) (by (repeat (first | exact pw_nil | refine pw_cons (by first | assumption | exact lit_pw (by decide) (by decide)) ?_))) (by (simp [tl_lit, JL, TL.joinL, TL.tl_append])) (fn_eqeq h.a) c0.ok (is_len c0)
theorem fp_1 (h : FIn a b n i) {x : Option D} : ∀ e ∈ (fpE.drop 1).take 1, ∃ d, (∀ M, ev C e (fpEnv k a b n i x) M = .ok d M) ∧ PF2 d := by
  have pa := h.a.pw
  have pb := h.b.pw
  have la := h.a.ln
  have lb := h.b.ln
  have ln := h.nl
  have io := h.io
  have pn : PW n := h.en ▸ num_pw _
  have hi : ∀ M, pr .int_ M [.str n] = some (.int i, M) := fun M => h.en ▸ pr_int_num (M := M) h.io
  have c0 := c30_one .eq h.a io h.en ln
  have lw : (a ++ " = " ++ n).length ≤ 17 := by
    have e1 : (" = " : Str).length = 3 := rfl
    simp only [len_app]; omega
  have hw : TL.tl (a ++ " = " ++ n) = JL [a, "=", n] := by (simp [tl_lit, JL, TL.joinL, TL.tl_append])
  have pw3 : ∀ w ∈ [a, "=", n], PW w := pw_cons pa (pw_cons (lit_pw (by decide) (by decide)) (pw_cons pn pw_nil))
  have tu : ∀ (M : Mem) (j : Nat), pr .tuple_ M [.list (List.replicate j (Cnd.d ⟨a, .eq, [i]⟩))] = some (.tup (List.replicate j (Cnd.d ⟨a, .eq, [i]⟩)), M) := fun M j => rfl
  simp only [fpE, b__law_form_pairs, List.drop, List.take, List.forall_mem_cons]
  refine ⟨?_, by simp⟩
  exact mkF a ["<", n] (.bas (.is ⟨a, .le, [i]⟩)) (by (repeat (first | exact es_lit | exact es_v rfl (by assumption) | apply es_add | decide))) (fun M => by simp [Frm.d, Bas.d, Cnd.d, Sg.s, hi]) (by decide) (by (repeat (first | exact pw_nil | refine pw_cons (by first | assumption | exact lit_pw (by decide) (by decide)) ?_))) (by (simp [tl_lit, JL, TL.joinL, TL.tl_append])) (fn_lt h.a) (c30_one .le h.a io h.en ln).ok (is_len (c30_one .le h.a io h.en ln))
theorem fp_2 (h : FIn a b n i) {x : Option D} : ∀ e ∈ (fpE.drop 2).take 1, ∃ d, (∀ M, ev C e (fpEnv k a b n i x) M = .ok d M) ∧ PF2 d := by
  have pa := h.a.pw
  have pb := h.b.pw
  have la := h.a.ln
  have lb := h.b.ln
  have ln := h.nl
  have io := h.io
  have pn : PW n := h.en ▸ num_pw _
  have hi : ∀ M, pr .int_ M [.str n] = some (.int i, M) := fun M => h.en ▸ pr_int_num (M := M) h.io
  have c0 := c30_one .eq h.a io h.en ln
  have lw : (a ++ " = " ++ n).length ≤ 17 := by
    have e1 : (" = " : Str).length = 3 := rfl
    simp only [len_app]; omega
  have hw : TL.tl (a ++ " = " ++ n) = JL [a, "=", n] := by (simp [tl_lit, JL, TL.joinL, TL.tl_append])
  have pw3 : ∀ w ∈ [a, "=", n], PW w := pw_cons pa (pw_cons (lit_pw (by decide) (by decide)) (pw_cons pn pw_nil))
  have tu : ∀ (M : Mem) (j : Nat), pr .tuple_ M [.list (List.replicate j (Cnd.d ⟨a, .eq, [i]⟩))] = some (.tup (List.replicate j (Cnd.d ⟨a, .eq, [i]⟩)), M) := fun M j => rfl
  simp only [fpE, b__law_form_pairs, List.drop, List.take, List.forall_mem_cons]
  refine ⟨?_, by simp⟩
  exact mkF a ["=>", n] (.bas (.is ⟨a, .ge, [i]⟩)) (by (repeat (first | exact es_lit | exact es_v rfl (by assumption) | apply es_add | decide))) (fun M => by simp [Frm.d, Bas.d, Cnd.d, Sg.s, hi]) (by decide) (by (repeat (first | exact pw_nil | refine pw_cons (by first | assumption | exact lit_pw (by decide) (by decide)) ?_))) (by (simp [tl_lit, JL, TL.joinL, TL.tl_append])) (fn_ge h.a) (c30_one .ge h.a io h.en ln).ok (is_len (c30_one .ge h.a io h.en ln))
theorem fp_3 (h : FIn a b n i) {x : Option D} : ∀ e ∈ (fpE.drop 3).take 1, ∃ d, (∀ M, ev C e (fpEnv k a b n i x) M = .ok d M) ∧ PF2 d := by
  have pa := h.a.pw
  have pb := h.b.pw
  have la := h.a.ln
  have lb := h.b.ln
  have ln := h.nl
  have io := h.io
  have pn : PW n := h.en ▸ num_pw _
  have hi : ∀ M, pr .int_ M [.str n] = some (.int i, M) := fun M => h.en ▸ pr_int_num (M := M) h.io
  have c0 := c30_one .eq h.a io h.en ln
  have lw : (a ++ " = " ++ n).length ≤ 17 := by
    have e1 : (" = " : Str).length = 3 := rfl
    simp only [len_app]; omega
  have hw : TL.tl (a ++ " = " ++ n) = JL [a, "=", n] := by (simp [tl_lit, JL, TL.joinL, TL.tl_append])
  have pw3 : ∀ w ∈ [a, "=", n], PW w := pw_cons pa (pw_cons (lit_pw (by decide) (by decide)) (pw_cons pn pw_nil))
  have tu : ∀ (M : Mem) (j : Nat), pr .tuple_ M [.list (List.replicate j (Cnd.d ⟨a, .eq, [i]⟩))] = some (.tup (List.replicate j (Cnd.d ⟨a, .eq, [i]⟩)), M) := fun M j => rfl
  simp only [fpE, b__law_form_pairs, List.drop, List.take, List.forall_mem_cons]
  refine ⟨?_, by simp⟩
  exact mkF a ["=", n, n] (.bas (.is ⟨a, .eq, [i]⟩)) (by (repeat (first | exact es_lit | exact es_v rfl (by assumption) | apply es_add | decide))) (fun M => by simp [Frm.d, Bas.d, Cnd.d, Sg.s, hi]) (by decide) (by (repeat (first | exact pw_nil | refine pw_cons (by first | assumption | exact lit_pw (by decide) (by decide)) ?_))) (by (simp [tl_lit, JL, TL.joinL, TL.tl_append])) (fn_two h.a) c0.ok (is_len c0)
theorem fp_4 (h : FIn a b n i) {x : Option D} : ∀ e ∈ (fpE.drop 4).take 1, ∃ d, (∀ M, ev C e (fpEnv k a b n i x) M = .ok d M) ∧ PF2 d := by
  have pa := h.a.pw
  have pb := h.b.pw
  have la := h.a.ln
  have lb := h.b.ln
  have ln := h.nl
  have io := h.io
  have pn : PW n := h.en ▸ num_pw _
  have hi : ∀ M, pr .int_ M [.str n] = some (.int i, M) := fun M => h.en ▸ pr_int_num (M := M) h.io
  have c0 := c30_one .eq h.a io h.en ln
  have lw : (a ++ " = " ++ n).length ≤ 17 := by
    have e1 : (" = " : Str).length = 3 := rfl
    simp only [len_app]; omega
  have hw : TL.tl (a ++ " = " ++ n) = JL [a, "=", n] := by (simp [tl_lit, JL, TL.joinL, TL.tl_append])
  have pw3 : ∀ w ∈ [a, "=", n], PW w := pw_cons pa (pw_cons (lit_pw (by decide) (by decide)) (pw_cons pn pw_nil))
  have tu : ∀ (M : Mem) (j : Nat), pr .tuple_ M [.list (List.replicate j (Cnd.d ⟨a, .eq, [i]⟩))] = some (.tup (List.replicate j (Cnd.d ⟨a, .eq, [i]⟩)), M) := fun M j => rfl
  simp only [fpE, b__law_form_pairs, List.drop, List.take, List.forall_mem_cons]
  refine ⟨?_, by simp⟩
  exact mkF a ["in"] (.bas (.is ⟨a, .in_, [i]⟩)) (by (repeat (first | exact es_lit | exact es_v rfl (by assumption) | apply es_add | decide))) (fun M => by simp [Frm.d, Bas.d, Cnd.d, Sg.s, hi]) (by decide) (by (repeat (first | exact pw_nil | refine pw_cons (by first | assumption | exact lit_pw (by decide) (by decide)) ?_))) (by (simp [tl_lit, JL, TL.joinL, TL.tl_append])) (fn_in0 h.a) (c30_one .in_ h.a io h.en ln).ok (is_len (c30_one .in_ h.a io h.en ln))
theorem fp_5 (h : FIn a b n i) {x : Option D} : ∀ e ∈ (fpE.drop 5).take 1, ∃ d, (∀ M, ev C e (fpEnv k a b n i x) M = .ok d M) ∧ PF2 d := by
  have pa := h.a.pw
  have pb := h.b.pw
  have la := h.a.ln
  have lb := h.b.ln
  have ln := h.nl
  have io := h.io
  have pn : PW n := h.en ▸ num_pw _
  have hi : ∀ M, pr .int_ M [.str n] = some (.int i, M) := fun M => h.en ▸ pr_int_num (M := M) h.io
  have c0 := c30_one .eq h.a io h.en ln
  have lw : (a ++ " = " ++ n).length ≤ 17 := by
    have e1 : (" = " : Str).length = 3 := rfl
    simp only [len_app]; omega
  have hw : TL.tl (a ++ " = " ++ n) = JL [a, "=", n] := by (simp [tl_lit, JL, TL.joinL, TL.tl_append])
  have pw3 : ∀ w ∈ [a, "=", n], PW w := pw_cons pa (pw_cons (lit_pw (by decide) (by decide)) (pw_cons pn pw_nil))
  have tu : ∀ (M : Mem) (j : Nat), pr .tuple_ M [.list (List.replicate j (Cnd.d ⟨a, .eq, [i]⟩))] = some (.tup (List.replicate j (Cnd.d ⟨a, .eq, [i]⟩)), M) := fun M j => rfl
  simp only [fpE, b__law_form_pairs, List.drop, List.take, List.forall_mem_cons]
  refine ⟨?_, by simp⟩
  exact mkF a ["in", "2", "1"] (.bas (.is ⟨a, .in_, [1, 2]⟩)) (by (repeat (first | exact es_lit | exact es_v rfl (by assumption) | apply es_add | decide))) (fun M => by simp [Frm.d, Bas.d, Cnd.d, Sg.s, hi]) (by decide) (by (repeat (first | exact pw_nil | refine pw_cons (by first | assumption | exact lit_pw (by decide) (by decide)) ?_))) (by (simp [tl_lit, JL, TL.joinL, TL.tl_append])) (fn_in21 h.a) (c30_many h.a (.inl rfl)).ok (is_len (c30_many h.a (.inl rfl)))
theorem fp_6 (h : FIn a b n i) {x : Option D} : ∀ e ∈ (fpE.drop 6).take 1, ∃ d, (∀ M, ev C e (fpEnv k a b n i x) M = .ok d M) ∧ PF2 d := by
  have pa := h.a.pw
  have pb := h.b.pw
  have la := h.a.ln
  have lb := h.b.ln
  have ln := h.nl
  have io := h.io
  have pn : PW n := h.en ▸ num_pw _
  have hi : ∀ M, pr .int_ M [.str n] = some (.int i, M) := fun M => h.en ▸ pr_int_num (M := M) h.io
  have c0 := c30_one .eq h.a io h.en ln
  have lw : (a ++ " = " ++ n).length ≤ 17 := by
    have e1 : (" = " : Str).length = 3 := rfl
    simp only [len_app]; omega
  have hw : TL.tl (a ++ " = " ++ n) = JL [a, "=", n] := by (simp [tl_lit, JL, TL.joinL, TL.tl_append])
  have pw3 : ∀ w ∈ [a, "=", n], PW w := pw_cons pa (pw_cons (lit_pw (by decide) (by decide)) (pw_cons pn pw_nil))
  have tu : ∀ (M : Mem) (j : Nat), pr .tuple_ M [.list (List.replicate j (Cnd.d ⟨a, .eq, [i]⟩))] = some (.tup (List.replicate j (Cnd.d ⟨a, .eq, [i]⟩)), M) := fun M j => rfl
  simp only [fpE, b__law_form_pairs, List.drop, List.take, List.forall_mem_cons]
  refine ⟨?_, by simp⟩
  exact mkF a ["not", "in", n, n] (.bas (.is ⟨a, .nin, [i]⟩)) (by (repeat (first | exact es_lit | exact es_v rfl (by assumption) | apply es_add | decide))) (fun M => by simp [Frm.d, Bas.d, Cnd.d, Sg.s, hi]) (by decide) (by (repeat (first | exact pw_nil | refine pw_cons (by first | assumption | exact lit_pw (by decide) (by decide)) ?_))) (by (simp [tl_lit, JL, TL.joinL, TL.tl_append])) (fn_nin h.a h.nn) (c30_one .nin h.a io h.en ln).ok (is_len (c30_one .nin h.a io h.en ln))
theorem fp_7 (h : FIn a b n i) {x : Option D} : ∀ e ∈ (fpE.drop 7).take 1, ∃ d, (∀ M, ev C e (fpEnv k a b n i x) M = .ok d M) ∧ PF2 d := by
  have pa := h.a.pw
  have pb := h.b.pw
  have la := h.a.ln
  have lb := h.b.ln
  have ln := h.nl
  have io := h.io
  have pn : PW n := h.en ▸ num_pw _
  have hi : ∀ M, pr .int_ M [.str n] = some (.int i, M) := fun M => h.en ▸ pr_int_num (M := M) h.io
  have c0 := c30_one .eq h.a io h.en ln
  have lw : (a ++ " = " ++ n).length ≤ 17 := by
    have e1 : (" = " : Str).length = 3 := rfl
    simp only [len_app]; omega
  have hw : TL.tl (a ++ " = " ++ n) = JL [a, "=", n] := by (simp [tl_lit, JL, TL.joinL, TL.tl_append])
  have pw3 : ∀ w ∈ [a, "=", n], PW w := pw_cons pa (pw_cons (lit_pw (by decide) (by decide)) (pw_cons pn pw_nil))
  have tu : ∀ (M : Mem) (j : Nat), pr .tuple_ M [.list (List.replicate j (Cnd.d ⟨a, .eq, [i]⟩))] = some (.tup (List.replicate j (Cnd.d ⟨a, .eq, [i]⟩)), M) := fun M j => rfl
  simp only [fpE, b__law_form_pairs, List.drop, List.take, List.forall_mem_cons]
  refine ⟨?_, by simp⟩
  exact mkF a ["not", n] (.bas (.is ⟨a, .nin, [i]⟩)) (by (repeat (first | exact es_lit | exact es_v rfl (by assumption) | apply es_add | decide))) (fun M => by simp [Frm.d, Bas.d, Cnd.d, Sg.s, hi]) (by decide) (by (repeat (first | exact pw_nil | refine pw_cons (by first | assumption | exact lit_pw (by decide) (by decide)) ?_))) (by (simp [tl_lit, JL, TL.joinL, TL.tl_append])) (fn_not h.a h.nn) (c30_one .nin h.a io h.en ln).ok (is_len (c30_one .nin h.a io h.en ln))
theorem fp_8 (h : FIn a b n i) {x : Option D} : ∀ e ∈ (fpE.drop 8).take 1, ∃ d, (∀ M, ev C e (fpEnv k a b n i x) M = .ok d M) ∧ PF2 d := by
  have pa := h.a.pw
  have pb := h.b.pw
  have la := h.a.ln
  have lb := h.b.ln
  have ln := h.nl
  have io := h.io
  have pn : PW n := h.en ▸ num_pw _
  have hi : ∀ M, pr .int_ M [.str n] = some (.int i, M) := fun M => h.en ▸ pr_int_num (M := M) h.io
  have c0 := c30_one .eq h.a io h.en ln
  have lw : (a ++ " = " ++ n).length ≤ 17 := by
    have e1 : (" = " : Str).length = 3 := rfl
    simp only [len_app]; omega
  have hw : TL.tl (a ++ " = " ++ n) = JL [a, "=", n] := by (simp [tl_lit, JL, TL.joinL, TL.tl_append])
  have pw3 : ∀ w ∈ [a, "=", n], PW w := pw_cons pa (pw_cons (lit_pw (by decide) (by decide)) (pw_cons pn pw_nil))
  have tu : ∀ (M : Mem) (j : Nat), pr .tuple_ M [.list (List.replicate j (Cnd.d ⟨a, .eq, [i]⟩))] = some (.tup (List.replicate j (Cnd.d ⟨a, .eq, [i]⟩)), M) := fun M j => rfl
  simp only [fpE, b__law_form_pairs, List.drop, List.take, List.forall_mem_cons]
  refine ⟨?_, by simp⟩
  exact mkF a ("in" :: numS 1 :: [numS 2, numS 3, numS 4, numS 5, numS 6, numS 7, numS 8, numS 9]) (.bas (.is ⟨a, .in_, t8⟩)) (es_add (by (repeat (first | exact es_lit | exact es_v rfl (by assumption) | apply es_add | decide))) (told_join rfl) (by decide)) (fun M => by simp [Frm.d, Bas.d, Cnd.d, Sg.s]) (by decide) (pw_cons pa (pw_cons (lit_pw (by decide) (by decide)) (by simp only [List.forall_mem_cons]; exact ⟨num_pw _, num_pw _, num_pw _, num_pw _, num_pw _, num_pw _, num_pw _, num_pw _, num_pw _, by simp⟩))) (by rw [J_cons (by simp), J_cons (by simp), TL.tl_append, tl_t, TL.tl_append]; show _ = _ ++ 32 :: (_ ++ 32 :: JL toldS); simp [tl_lit]) (fn_in9 h.a rfl) (c30_many h.a (.inr rfl)).ok (is_len (c30_many h.a (.inr rfl)))
theorem fp_9 (h : FIn a b n i) {x : Option D} : ∀ e ∈ (fpE.drop 9).take 1, ∃ d, (∀ M, ev C e (fpEnv k a b n i x) M = .ok d M) ∧ PF2 d := by
  have pa := h.a.pw
  have pb := h.b.pw
  have la := h.a.ln
  have lb := h.b.ln
  have ln := h.nl
  have io := h.io
  have pn : PW n := h.en ▸ num_pw _
  have hi : ∀ M, pr .int_ M [.str n] = some (.int i, M) := fun M => h.en ▸ pr_int_num (M := M) h.io
  have c0 := c30_one .eq h.a io h.en ln
  have lw : (a ++ " = " ++ n).length ≤ 17 := by
    have e1 : (" = " : Str).length = 3 := rfl
    simp only [len_app]; omega
  have hw : TL.tl (a ++ " = " ++ n) = JL [a, "=", n] := by (simp [tl_lit, JL, TL.joinL, TL.tl_append])
  have pw3 : ∀ w ∈ [a, "=", n], PW w := pw_cons pa (pw_cons (lit_pw (by decide) (by decide)) (pw_cons pn pw_nil))
  have tu : ∀ (M : Mem) (j : Nat), pr .tuple_ M [.list (List.replicate j (Cnd.d ⟨a, .eq, [i]⟩))] = some (.tup (List.replicate j (Cnd.d ⟨a, .eq, [i]⟩)), M) := fun M j => rfl
  simp only [fpE, b__law_form_pairs, List.drop, List.take, List.forall_mem_cons]
  refine ⟨?_, by simp⟩
  exact mkF a ["+", n, "<=", "3"] (.bas (.order a i b)) (by (repeat (first | exact es_lit | exact es_v rfl (by assumption) | apply es_add | decide))) (fun M => by simp [Frm.d, Bas.d, Cnd.d, Sg.s, hi]) (by decide) (by (repeat (first | exact pw_nil | refine pw_cons (by first | assumption | exact lit_pw (by decide) (by decide)) ?_))) (by (simp [tl_lit, JL, TL.joinL, TL.tl_append])) (fn_o1 h.a) ⟨h.a, io, h.b⟩ (order_len h.a h.b h.en ln)
theorem fp_10 (h : FIn a b n i) {x : Option D} : ∀ e ∈ (fpE.drop 10).take 1, ∃ d, (∀ M, ev C e (fpEnv k a b n i x) M = .ok d M) ∧ PF2 d := by
  have pa := h.a.pw
  have pb := h.b.pw
  have la := h.a.ln
  have lb := h.b.ln
  have ln := h.nl
  have io := h.io
  have pn : PW n := h.en ▸ num_pw _
  have hi : ∀ M, pr .int_ M [.str n] = some (.int i, M) := fun M => h.en ▸ pr_int_num (M := M) h.io
  have c0 := c30_one .eq h.a io h.en ln
  have lw : (a ++ " = " ++ n).length ≤ 17 := by
    have e1 : (" = " : Str).length = 3 := rfl
    simp only [len_app]; omega
  have hw : TL.tl (a ++ " = " ++ n) = JL [a, "=", n] := by (simp [tl_lit, JL, TL.joinL, TL.tl_append])
  have pw3 : ∀ w ∈ [a, "=", n], PW w := pw_cons pa (pw_cons (lit_pw (by decide) (by decide)) (pw_cons pn pw_nil))
  have tu : ∀ (M : Mem) (j : Nat), pr .tuple_ M [.list (List.replicate j (Cnd.d ⟨a, .eq, [i]⟩))] = some (.tup (List.replicate j (Cnd.d ⟨a, .eq, [i]⟩)), M) := fun M j => rfl
  simp only [fpE, b__law_form_pairs, List.drop, List.take, List.forall_mem_cons]
  refine ⟨?_, by simp⟩
  exact mkF a ["+", b, "<=", n] (.bas (.order a i b)) (by (repeat (first | exact es_lit | exact es_v rfl (by assumption) | apply es_add | decide))) (fun M => by simp [Frm.d, Bas.d, Cnd.d, Sg.s, hi]) (by decide) (by (repeat (first | exact pw_nil | refine pw_cons (by first | assumption | exact lit_pw (by decide) (by decide)) ?_))) (by (simp [tl_lit, JL, TL.joinL, TL.tl_append])) (fn_o2 h.a h.b) ⟨h.a, io, h.b⟩ (order_len h.a h.b h.en ln)
theorem fp_11 (h : FIn a b n i) {x : Option D} : ∀ e ∈ (fpE.drop 11).take 1, ∃ d, (∀ M, ev C e (fpEnv k a b n i x) M = .ok d M) ∧ PF2 d := by
  have pa := h.a.pw
  have pb := h.b.pw
  have la := h.a.ln
  have lb := h.b.ln
  have ln := h.nl
  have io := h.io
  have pn : PW n := h.en ▸ num_pw _
  have hi : ∀ M, pr .int_ M [.str n] = some (.int i, M) := fun M => h.en ▸ pr_int_num (M := M) h.io
  have c0 := c30_one .eq h.a io h.en ln
  have lw : (a ++ " = " ++ n).length ≤ 17 := by
    have e1 : (" = " : Str).length = 3 := rfl
    simp only [len_app]; omega
  have hw : TL.tl (a ++ " = " ++ n) = JL [a, "=", n] := by (simp [tl_lit, JL, TL.joinL, TL.tl_append])
  have pw3 : ∀ w ∈ [a, "=", n], PW w := pw_cons pa (pw_cons (lit_pw (by decide) (by decide)) (pw_cons pn pw_nil))
  have tu : ∀ (M : Mem) (j : Nat), pr .tuple_ M [.list (List.replicate j (Cnd.d ⟨a, .eq, [i]⟩))] = some (.tup (List.replicate j (Cnd.d ⟨a, .eq, [i]⟩)), M) := fun M j => rfl
  simp only [fpE, b__law_form_pairs, List.drop, List.take, List.forall_mem_cons]
  refine ⟨?_, by simp⟩
  exact mkF a ["+", n, ">=", b] (.bas (.order a i b)) (by (repeat (first | exact es_lit | exact es_v rfl (by assumption) | apply es_add | decide))) (fun M => by simp [Frm.d, Bas.d, Cnd.d, Sg.s, hi]) (by decide) (by (repeat (first | exact pw_nil | refine pw_cons (by first | assumption | exact lit_pw (by decide) (by decide)) ?_))) (by (simp [tl_lit, JL, TL.joinL, TL.tl_append])) (fn_o3 h.a) ⟨h.a, io, h.b⟩ (order_len h.a h.b h.en ln)
theorem fp_12 (h : FIn a b n i) {x : Option D} : ∀ e ∈ (fpE.drop 12).take 1, ∃ d, (∀ M, ev C e (fpEnv k a b n i x) M = .ok d M) ∧ PF2 d := by
  have pa := h.a.pw
  have pb := h.b.pw
  have la := h.a.ln
  have lb := h.b.ln
  have ln := h.nl
  have io := h.io
  have pn : PW n := h.en ▸ num_pw _
  have hi : ∀ M, pr .int_ M [.str n] = some (.int i, M) := fun M => h.en ▸ pr_int_num (M := M) h.io
  have c0 := c30_one .eq h.a io h.en ln
  have lw : (a ++ " = " ++ n).length ≤ 17 := by
    have e1 : (" = " : Str).length = 3 := rfl
    simp only [len_app]; omega
  have hw : TL.tl (a ++ " = " ++ n) = JL [a, "=", n] := by (simp [tl_lit, JL, TL.joinL, TL.tl_append])
  have pw3 : ∀ w ∈ [a, "=", n], PW w := pw_cons pa (pw_cons (lit_pw (by decide) (by decide)) (pw_cons pn pw_nil))
  have tu : ∀ (M : Mem) (j : Nat), pr .tuple_ M [.list (List.replicate j (Cnd.d ⟨a, .eq, [i]⟩))] = some (.tup (List.replicate j (Cnd.d ⟨a, .eq, [i]⟩)), M) := fun M j => rfl
  simp only [fpE, b__law_form_pairs, List.drop, List.take, List.forall_mem_cons]
  refine ⟨?_, by simp⟩
  exact mkF "either" [a, "=", n] (.either (List.replicate 2 ⟨a, .eq, [i]⟩)) (by (repeat (first | exact es_lit | exact es_v rfl (by assumption) | apply es_add | decide))) (fun M => by simp [Frm.d, Bas.d, hi, List.replicate]) (by decide) (by (repeat (first | exact pw_nil | refine pw_cons (by first | assumption | exact lit_pw (by decide) (by decide)) ?_))) (by (simp [tl_lit, JL, TL.joinL, TL.tl_append])) (fn_e1 h.a h.nn) (rep_ok c0 (by omega) (by omega)) (either_len (by simp) (rep30 c0) (by simp))
theorem fp_13 (h : FIn a b n i) {x : Option D} : ∀ e ∈ (fpE.drop 13).take 1, ∃ d, (∀ M, ev C e (fpEnv k a b n i x) M = .ok d M) ∧ PF2 d := by
  have pa := h.a.pw
  have pb := h.b.pw
  have la := h.a.ln
  have lb := h.b.ln
  have ln := h.nl
  have io := h.io
  have pn : PW n := h.en ▸ num_pw _
  have hi : ∀ M, pr .int_ M [.str n] = some (.int i, M) := fun M => h.en ▸ pr_int_num (M := M) h.io
  have c0 := c30_one .eq h.a io h.en ln
  have lw : (a ++ " = " ++ n).length ≤ 17 := by
    have e1 : (" = " : Str).length = 3 := rfl
    simp only [len_app]; omega
  have hw : TL.tl (a ++ " = " ++ n) = JL [a, "=", n] := by (simp [tl_lit, JL, TL.joinL, TL.tl_append])
  have pw3 : ∀ w ∈ [a, "=", n], PW w := pw_cons pa (pw_cons (lit_pw (by decide) (by decide)) (pw_cons pn pw_nil))
  have tu : ∀ (M : Mem) (j : Nat), pr .tuple_ M [.list (List.replicate j (Cnd.d ⟨a, .eq, [i]⟩))] = some (.tup (List.replicate j (Cnd.d ⟨a, .eq, [i]⟩)), M) := fun M j => rfl
  simp only [fpE, b__law_form_pairs, List.drop, List.take, List.forall_mem_cons]
  refine ⟨?_, by simp⟩
  exact mkF "either" (weave "or" (List.replicate 14 [a, "=", n])) (.either (List.replicate 13 ⟨a, .eq, [i]⟩)) (es_add es_lit (es_join (a := " or ") (j := 14) rfl lw (by omega) (by decide)) (by decide)) (fun M => by have m : pr .mul M [.list [Cnd.d ⟨a, .eq, [i]⟩], .int 13] = some (.list (List.replicate 13 (Cnd.d ⟨a, .eq, [i]⟩)), M) := mul_list (j := 13) (by omega); simp [Frm.d, Bas.d, hi, list_one, m, tu]) (by decide) (pw_cons (lit_pw (by decide) (by decide)) (rep_pw (lit_pw (by decide) (by decide)) pw3)) (by rw [J_cons (weave_ne (by simp) fun g hg => by rw [(List.mem_replicate.mp hg).2]; simp), TL.tl_append]; rw [← tl_rep 13 (by simp) hw]; show _ ++ TL.tl (Str.join (" " ++ "or" ++ " ") _) = _; simp [tl_lit]) (fn_e14 h.a h.nn) (rep_ok c0 (by omega) (by omega)) (either_len (by simp) (rep30 c0) (by simp))
theorem fp_14 (h : FIn a b n i) {x : Option D} : ∀ e ∈ (fpE.drop 14).take 1, ∃ d, (∀ M, ev C e (fpEnv k a b n i x) M = .ok d M) ∧ PF2 d := by
  have pa := h.a.pw
  have pb := h.b.pw
  have la := h.a.ln
  have lb := h.b.ln
  have ln := h.nl
  have io := h.io
  have pn : PW n := h.en ▸ num_pw _
  have hi : ∀ M, pr .int_ M [.str n] = some (.int i, M) := fun M => h.en ▸ pr_int_num (M := M) h.io
  have c0 := c30_one .eq h.a io h.en ln
  have lw : (a ++ " = " ++ n).length ≤ 17 := by
    have e1 : (" = " : Str).length = 3 := rfl
    simp only [len_app]; omega
  have hw : TL.tl (a ++ " = " ++ n) = JL [a, "=", n] := by (simp [tl_lit, JL, TL.joinL, TL.tl_append])
  have pw3 : ∀ w ∈ [a, "=", n], PW w := pw_cons pa (pw_cons (lit_pw (by decide) (by decide)) (pw_cons pn pw_nil))
  have tu : ∀ (M : Mem) (j : Nat), pr .tuple_ M [.list (List.replicate j (Cnd.d ⟨a, .eq, [i]⟩))] = some (.tup (List.replicate j (Cnd.d ⟨a, .eq, [i]⟩)), M) := fun M j => rfl
  simp only [fpE, b__law_form_pairs, List.drop, List.take, List.forall_mem_cons]
  refine ⟨?_, by simp⟩
  exact mkF "either" [a, "=", n, "and", a, "=", n] (.either (List.replicate 2 ⟨a, .eq, [i]⟩)) (by (repeat (first | exact es_lit | exact es_v rfl (by assumption) | apply es_add | decide))) (fun M => by simp [Frm.d, Bas.d, hi, List.replicate]) (by decide) (by (repeat (first | exact pw_nil | refine pw_cons (by first | assumption | exact lit_pw (by decide) (by decide)) ?_))) (by (simp [tl_lit, JL, TL.joinL, TL.tl_append])) (fn_eand h.a h.nn) (rep_ok c0 (by omega) (by omega)) (either_len (by simp) (rep30 c0) (by simp))
theorem fp_15 (h : FIn a b n i) {x : Option D} : ∀ e ∈ (fpE.drop 15).take 1, ∃ d, (∀ M, ev C e (fpEnv k a b n i x) M = .ok d M) ∧ PF2 d := by
  have pa := h.a.pw
  have pb := h.b.pw
  have la := h.a.ln
  have lb := h.b.ln
  have ln := h.nl
  have io := h.io
  have pn : PW n := h.en ▸ num_pw _
  have hi : ∀ M, pr .int_ M [.str n] = some (.int i, M) := fun M => h.en ▸ pr_int_num (M := M) h.io
  have c0 := c30_one .eq h.a io h.en ln
  have lw : (a ++ " = " ++ n).length ≤ 17 := by
    have e1 : (" = " : Str).length = 3 := rfl
    simp only [len_app]; omega
  have hw : TL.tl (a ++ " = " ++ n) = JL [a, "=", n] := by (simp [tl_lit, JL, TL.joinL, TL.tl_append])
  have pw3 : ∀ w ∈ [a, "=", n], PW w := pw_cons pa (pw_cons (lit_pw (by decide) (by decide)) (pw_cons pn pw_nil))
  have tu : ∀ (M : Mem) (j : Nat), pr .tuple_ M [.list (List.replicate j (Cnd.d ⟨a, .eq, [i]⟩))] = some (.tup (List.replicate j (Cnd.d ⟨a, .eq, [i]⟩)), M) := fun M j => rfl
  simp only [fpE, b__law_form_pairs, List.drop, List.take, List.forall_mem_cons]
  refine ⟨?_, by simp⟩
  exact mkF "if" (weave "and" (List.replicate 9 [a, "=", n]) ++ ("then" : Str) :: [a, "=", n]) (.ifs (List.replicate 8 ⟨a, .eq, [i]⟩) (.is ⟨a, .eq, [i]⟩)) (es_add (es_add (es_add es_lit (es_join (a := " and ") (j := 9) rfl lw (by omega) (by decide)) (by decide)) es_lit (by decide)) (es_v rfl lw) (by decide)) (fun M => by have m : pr .mul M [.list [Cnd.d ⟨a, .eq, [i]⟩], .int 8] = some (.list (List.replicate 8 (Cnd.d ⟨a, .eq, [i]⟩)), M) := mul_list (j := 8) (by omega); simp [Frm.d, Bas.d, hi, list_one, m, tu]) (by decide) (pw_cons (lit_pw (by decide) (by decide)) fun w hw => by rcases List.mem_append.mp hw with q | q; exact rep_pw (lit_pw (by decide) (by decide)) pw3 w q; exact pw_cons (lit_pw (by decide) (by decide)) pw3 w q) (by rw [J_cons (by simp), J_app (weave_ne (by simp) fun g hg => by rw [(List.mem_replicate.mp hg).2]; simp) (by simp), J_cons (by simp), ← tl_rep 8 (by simp) hw, ← hw]; show TL.tl ("if " ++ Str.join (" " ++ "and" ++ " ") _ ++ " then " ++ _) = _; simp only [TL.tl_append]; simp [tl_lit]) (fn_if9 h.a h.nn) ⟨rep_ok c0 (by omega) (by omega), c0.ok⟩ (if_len (by simp) (rep30 c0) (by simp) c0)
theorem fp_16 (h : FIn a b n i) {x : Option D} : ∀ e ∈ (fpE.drop 16).take 1, ∃ d, (∀ M, ev C e (fpEnv k a b n i x) M = .ok d M) ∧ PF2 d := by
  have pa := h.a.pw
  have pb := h.b.pw
  have la := h.a.ln
  have lb := h.b.ln
  have ln := h.nl
  have io := h.io
  have pn : PW n := h.en ▸ num_pw _
  have hi : ∀ M, pr .int_ M [.str n] = some (.int i, M) := fun M => h.en ▸ pr_int_num (M := M) h.io
  have c0 := c30_one .eq h.a io h.en ln
  have lw : (a ++ " = " ++ n).length ≤ 17 := by
    have e1 : (" = " : Str).length = 3 := rfl
    simp only [len_app]; omega
  have hw : TL.tl (a ++ " = " ++ n) = JL [a, "=", n] := by (simp [tl_lit, JL, TL.joinL, TL.tl_append])
  have pw3 : ∀ w ∈ [a, "=", n], PW w := pw_cons pa (pw_cons (lit_pw (by decide) (by decide)) (pw_cons pn pw_nil))
  have tu : ∀ (M : Mem) (j : Nat), pr .tuple_ M [.list (List.replicate j (Cnd.d ⟨a, .eq, [i]⟩))] = some (.tup (List.replicate j (Cnd.d ⟨a, .eq, [i]⟩)), M) := fun M j => rfl
  simp only [fpE, b__law_form_pairs, List.drop, List.take, List.forall_mem_cons]
  refine ⟨?_, by simp⟩
  exact mkF "if" [a, "=", n, "then", a, "=", n, "then", a, "=", n] (.ifs (List.replicate 1 ⟨a, .eq, [i]⟩) (.is ⟨a, .eq, [i]⟩)) (by (repeat (first | exact es_lit | exact es_v rfl (by assumption) | apply es_add | decide))) (fun M => by simp [Frm.d, Bas.d, hi, List.replicate]) (by decide) (by (repeat (first | exact pw_nil | refine pw_cons (by first | assumption | exact lit_pw (by decide) (by decide)) ?_))) (by (simp [tl_lit, JL, TL.joinL, TL.tl_append])) (fn_if3 h.a h.nn) ⟨rep_ok c0 (by omega) (by omega), c0.ok⟩ (if_len (by simp) (rep30 c0) (by simp) c0)
theorem fp_17 (h : FIn a b n i) {x : Option D} : ∀ e ∈ (fpE.drop 17).take 1, ∃ d, (∀ M, ev C e (fpEnv k a b n i x) M = .ok d M) ∧ PF2 d := by
  have pa := h.a.pw
  have pb := h.b.pw
  have la := h.a.ln
  have lb := h.b.ln
  have ln := h.nl
  have io := h.io
  have pn : PW n := h.en ▸ num_pw _
  have hi : ∀ M, pr .int_ M [.str n] = some (.int i, M) := fun M => h.en ▸ pr_int_num (M := M) h.io
  have c0 := c30_one .eq h.a io h.en ln
  have lw : (a ++ " = " ++ n).length ≤ 17 := by
    have e1 : (" = " : Str).length = 3 := rfl
    simp only [len_app]; omega
  have hw : TL.tl (a ++ " = " ++ n) = JL [a, "=", n] := by (simp [tl_lit, JL, TL.joinL, TL.tl_append])
  have pw3 : ∀ w ∈ [a, "=", n], PW w := pw_cons pa (pw_cons (lit_pw (by decide) (by decide)) (pw_cons pn pw_nil))
  have tu : ∀ (M : Mem) (j : Nat), pr .tuple_ M [.list (List.replicate j (Cnd.d ⟨a, .eq, [i]⟩))] = some (.tup (List.replicate j (Cnd.d ⟨a, .eq, [i]⟩)), M) := fun M j => rfl
  simp only [fpE, b__law_form_pairs, List.drop, List.take, List.forall_mem_cons]
  refine ⟨?_, by simp⟩
  exact mkF "if" [a, "=", n] (.ifs (List.replicate 1 ⟨a, .eq, [i]⟩) (.is ⟨a, .eq, [i]⟩)) (by (repeat (first | exact es_lit | exact es_v rfl (by assumption) | apply es_add | decide))) (fun M => by simp [Frm.d, Bas.d, hi, List.replicate]) (by decide) (by (repeat (first | exact pw_nil | refine pw_cons (by first | assumption | exact lit_pw (by decide) (by decide)) ?_))) (by (simp [tl_lit, JL, TL.joinL, TL.tl_append])) (fn_if1 h.a h.nn) ⟨rep_ok c0 (by omega) (by omega), c0.ok⟩ (if_len (by simp) (rep30 c0) (by simp) c0)
theorem fp_18 (h : FIn a b n i) {x : Option D} : ∀ e ∈ (fpE.drop 18).take 1, ∃ d, (∀ M, ev C e (fpEnv k a b n i x) M = .ok d M) ∧ PF2 d := by
  have pa := h.a.pw
  have pb := h.b.pw
  have la := h.a.ln
  have lb := h.b.ln
  have ln := h.nl
  have io := h.io
  have pn : PW n := h.en ▸ num_pw _
  have hi : ∀ M, pr .int_ M [.str n] = some (.int i, M) := fun M => h.en ▸ pr_int_num (M := M) h.io
  have c0 := c30_one .eq h.a io h.en ln
  have lw : (a ++ " = " ++ n).length ≤ 17 := by
    have e1 : (" = " : Str).length = 3 := rfl
    simp only [len_app]; omega
  have hw : TL.tl (a ++ " = " ++ n) = JL [a, "=", n] := by (simp [tl_lit, JL, TL.joinL, TL.tl_append])
  have pw3 : ∀ w ∈ [a, "=", n], PW w := pw_cons pa (pw_cons (lit_pw (by decide) (by decide)) (pw_cons pn pw_nil))
  have tu : ∀ (M : Mem) (j : Nat), pr .tuple_ M [.list (List.replicate j (Cnd.d ⟨a, .eq, [i]⟩))] = some (.tup (List.replicate j (Cnd.d ⟨a, .eq, [i]⟩)), M) := fun M j => rfl
  simp only [fpE, b__law_form_pairs, List.drop, List.take, List.forall_mem_cons]
  refine ⟨?_, by simp⟩
  exact mkF "if" [a, "=", n, "then", "either", a, "=", n, "or", a, "=", n] (.ifs (List.replicate 1 ⟨a, .eq, [i]⟩) (.is ⟨a, .eq, [i]⟩)) (by (repeat (first | exact es_lit | exact es_v rfl (by assumption) | apply es_add | decide))) (fun M => by simp [Frm.d, Bas.d, hi, List.replicate]) (by decide) (by (repeat (first | exact pw_nil | refine pw_cons (by first | assumption | exact lit_pw (by decide) (by decide)) ?_))) (by (simp [tl_lit, JL, TL.joinL, TL.tl_append])) (fn_ife h.a h.nn) ⟨rep_ok c0 (by omega) (by omega), c0.ok⟩ (if_len (by simp) (rep30 c0) (by simp) c0)
theorem fp_19 (h : FIn a b n i) {x : Option D} : ∀ e ∈ (fpE.drop 19).take 1, ∃ d, (∀ M, ev C e (fpEnv k a b n i x) M = .ok d M) ∧ PF2 d := by
  have pa := h.a.pw
  have pb := h.b.pw
  have la := h.a.ln
  have lb := h.b.ln
  have ln := h.nl
  have io := h.io
  have pn : PW n := h.en ▸ num_pw _
  have hi : ∀ M, pr .int_ M [.str n] = some (.int i, M) := fun M => h.en ▸ pr_int_num (M := M) h.io
  have c0 := c30_one .eq h.a io h.en ln
  have lw : (a ++ " = " ++ n).length ≤ 17 := by
    have e1 : (" = " : Str).length = 3 := rfl
    simp only [len_app]; omega
  have hw : TL.tl (a ++ " = " ++ n) = JL [a, "=", n] := by (simp [tl_lit, JL, TL.joinL, TL.tl_append])
  have pw3 : ∀ w ∈ [a, "=", n], PW w := pw_cons pa (pw_cons (lit_pw (by decide) (by decide)) (pw_cons pn pw_nil))
  have tu : ∀ (M : Mem) (j : Nat), pr .tuple_ M [.list (List.replicate j (Cnd.d ⟨a, .eq, [i]⟩))] = some (.tup (List.replicate j (Cnd.d ⟨a, .eq, [i]⟩)), M) := fun M j => rfl
  simp only [fpE, b__law_form_pairs, List.drop, List.take, List.forall_mem_cons]
  refine ⟨?_, by simp⟩
  exact mkF "at" ["most", n, "of"] (.at_ true i (List.replicate 1 ⟨a, .eq, [i]⟩)) (by (repeat (first | exact es_lit | exact es_v rfl (by assumption) | apply es_add | decide))) (fun M => by simp [Frm.d, Bas.d, hi, List.replicate, mostS]) (by decide) (by (repeat (first | exact pw_nil | refine pw_cons (by first | assumption | exact lit_pw (by decide) (by decide)) ?_))) (by (simp [tl_lit, JL, TL.joinL, TL.tl_append])) (fn_at0 h.nn) ⟨io, rep_ok c0 (by omega) (by omega)⟩ (at_len (by simp) (rep30 c0) (by simp) h.en ln)
theorem fp_20 (h : FIn a b n i) {x : Option D} : ∀ e ∈ (fpE.drop 20).take 1, ∃ d, (∀ M, ev C e (fpEnv k a b n i x) M = .ok d M) ∧ PF2 d := by
  have pa := h.a.pw
  have pb := h.b.pw
  have la := h.a.ln
  have lb := h.b.ln
  have ln := h.nl
  have io := h.io
  have pn : PW n := h.en ▸ num_pw _
  have hi : ∀ M, pr .int_ M [.str n] = some (.int i, M) := fun M => h.en ▸ pr_int_num (M := M) h.io
  have c0 := c30_one .eq h.a io h.en ln
  have lw : (a ++ " = " ++ n).length ≤ 17 := by
    have e1 : (" = " : Str).length = 3 := rfl
    simp only [len_app]; omega
  have hw : TL.tl (a ++ " = " ++ n) = JL [a, "=", n] := by (simp [tl_lit, JL, TL.joinL, TL.tl_append])
  have pw3 : ∀ w ∈ [a, "=", n], PW w := pw_cons pa (pw_cons (lit_pw (by decide) (by decide)) (pw_cons pn pw_nil))
  have tu : ∀ (M : Mem) (j : Nat), pr .tuple_ M [.list (List.replicate j (Cnd.d ⟨a, .eq, [i]⟩))] = some (.tup (List.replicate j (Cnd.d ⟨a, .eq, [i]⟩)), M) := fun M j => rfl
  simp only [fpE, b__law_form_pairs, List.drop, List.take, List.forall_mem_cons]
  refine ⟨?_, by simp⟩
  exact mkF "at" ("most" :: n :: "of" :: weave "," (List.replicate 9 [a, "=", n])) (.at_ true i (List.replicate 8 ⟨a, .eq, [i]⟩)) (es_add (by (repeat (first | exact es_lit | exact es_v rfl (by assumption) | apply es_add | decide))) (es_join (a := " , ") (j := 9) rfl lw (by omega) (by decide)) (by decide)) (fun M => by have m : pr .mul M [.list [Cnd.d ⟨a, .eq, [i]⟩], .int 8] = some (.list (List.replicate 8 (Cnd.d ⟨a, .eq, [i]⟩)), M) := mul_list (j := 8) (by omega); simp [Frm.d, Bas.d, mostS, hi, list_one, m, tu]) (by decide) (pw_cons (lit_pw (by decide) (by decide)) (pw_cons (lit_pw (by decide) (by decide)) (pw_cons pn (pw_cons (lit_pw (by decide) (by decide)) (rep_pw (lit_pw (by decide) (by decide)) pw3))))) (by rw [J_cons (by simp), J_cons (by simp), J_cons (by simp), J_cons (weave_ne (by simp) fun g hg => by rw [(List.mem_replicate.mp hg).2]; simp), ← tl_rep 8 (by simp) hw]; show TL.tl ("at most " ++ n ++ " of " ++ Str.join (" " ++ "," ++ " ") _) = _; simp only [TL.tl_append]; simp [tl_lit]) (fn_at9 h.a h.nn) ⟨io, rep_ok c0 (by omega) (by omega)⟩ (at_len (by simp) (rep30 c0) (by simp) h.en ln)
theorem fp_21 (h : FIn a b n i) {x : Option D} : ∀ e ∈ (fpE.drop 21).take 1, ∃ d, (∀ M, ev C e (fpEnv k a b n i x) M = .ok d M) ∧ PF2 d := by
  have pa := h.a.pw
  have pb := h.b.pw
  have la := h.a.ln
  have lb := h.b.ln
  have ln := h.nl
  have io := h.io
  have pn : PW n := h.en ▸ num_pw _
  have hi : ∀ M, pr .int_ M [.str n] = some (.int i, M) := fun M => h.en ▸ pr_int_num (M := M) h.io
  have c0 := c30_one .eq h.a io h.en ln
  have lw : (a ++ " = " ++ n).length ≤ 17 := by
    have e1 : (" = " : Str).length = 3 := rfl
    simp only [len_app]; omega
  have hw : TL.tl (a ++ " = " ++ n) = JL [a, "=", n] := by (simp [tl_lit, JL, TL.joinL, TL.tl_append])
  have pw3 : ∀ w ∈ [a, "=", n], PW w := pw_cons pa (pw_cons (lit_pw (by decide) (by decide)) (pw_cons pn pw_nil))
  have tu : ∀ (M : Mem) (j : Nat), pr .tuple_ M [.list (List.replicate j (Cnd.d ⟨a, .eq, [i]⟩))] = some (.tup (List.replicate j (Cnd.d ⟨a, .eq, [i]⟩)), M) := fun M j => rfl
  simp only [fpE, b__law_form_pairs, List.drop, List.take, List.forall_mem_cons]
  refine ⟨?_, by simp⟩
  exact mkF "at" ["least", n, "of", a, "=", n, a, "=", n] (.at_ false i (List.replicate 2 ⟨a, .eq, [i]⟩)) (by (repeat (first | exact es_lit | exact es_v rfl (by assumption) | apply es_add | decide))) (fun M => by simp [Frm.d, Bas.d, hi, List.replicate, mostS]) (by decide) (by (repeat (first | exact pw_nil | refine pw_cons (by first | assumption | exact lit_pw (by decide) (by decide)) ?_))) (by (simp [tl_lit, JL, TL.joinL, TL.tl_append])) (fn_at2 h.a h.nn) ⟨io, rep_ok c0 (by omega) (by omega)⟩ (at_len (by simp) (rep30 c0) (by simp) h.en ln)
theorem fp_22 (h : FIn a b n i) {x : Option D} : ∀ e ∈ (fpE.drop 22).take 1, ∃ d, (∀ M, ev C e (fpEnv k a b n i x) M = .ok d M) ∧ PF2 d := by
  have pa := h.a.pw
  have pb := h.b.pw
  have la := h.a.ln
  have lb := h.b.ln
  have ln := h.nl
  have io := h.io
  have pn : PW n := h.en ▸ num_pw _
  have hi : ∀ M, pr .int_ M [.str n] = some (.int i, M) := fun M => h.en ▸ pr_int_num (M := M) h.io
  have c0 := c30_one .eq h.a io h.en ln
  have lw : (a ++ " = " ++ n).length ≤ 17 := by
    have e1 : (" = " : Str).length = 3 := rfl
    simp only [len_app]; omega
  have hw : TL.tl (a ++ " = " ++ n) = JL [a, "=", n] := by (simp [tl_lit, JL, TL.joinL, TL.tl_append])
  have pw3 : ∀ w ∈ [a, "=", n], PW w := pw_cons pa (pw_cons (lit_pw (by decide) (by decide)) (pw_cons pn pw_nil))
  have tu : ∀ (M : Mem) (j : Nat), pr .tuple_ M [.list (List.replicate j (Cnd.d ⟨a, .eq, [i]⟩))] = some (.tup (List.replicate j (Cnd.d ⟨a, .eq, [i]⟩)), M) := fun M j => rfl
  simp only [fpE, b__law_form_pairs, List.drop, List.take, List.forall_mem_cons]
  refine ⟨?_, by simp⟩
  exact mkF "at" ["least", a, "of", a, "=", n] (.at_ false i (List.replicate 1 ⟨a, .eq, [i]⟩)) (by (repeat (first | exact es_lit | exact es_v rfl (by assumption) | apply es_add | decide))) (fun M => by simp [Frm.d, Bas.d, hi, List.replicate, mostS]) (by decide) (by (repeat (first | exact pw_nil | refine pw_cons (by first | assumption | exact lit_pw (by decide) (by decide)) ?_))) (by (simp [tl_lit, JL, TL.joinL, TL.tl_append])) (fn_ata h.a h.nn) ⟨io, rep_ok c0 (by omega) (by omega)⟩ (at_len (by simp) (rep30 c0) (by simp) h.en ln)
theorem fp_23 (h : FIn a b n i) {x : Option D} : ∀ e ∈ (fpE.drop 23).take 1, ∃ d, (∀ M, ev C e (fpEnv k a b n i x) M = .ok d M) ∧ PF2 d := by
  have pa := h.a.pw
  have pb := h.b.pw
  have la := h.a.ln
  have lb := h.b.ln
  have ln := h.nl
  have io := h.io
  have pn : PW n := h.en ▸ num_pw _
  have hi : ∀ M, pr .int_ M [.str n] = some (.int i, M) := fun M => h.en ▸ pr_int_num (M := M) h.io
  have c0 := c30_one .eq h.a io h.en ln
  have lw : (a ++ " = " ++ n).length ≤ 17 := by
    have e1 : (" = " : Str).length = 3 := rfl
    simp only [len_app]; omega
  have hw : TL.tl (a ++ " = " ++ n) = JL [a, "=", n] := by (simp [tl_lit, JL, TL.joinL, TL.tl_append])
  have pw3 : ∀ w ∈ [a, "=", n], PW w := pw_cons pa (pw_cons (lit_pw (by decide) (by decide)) (pw_cons pn pw_nil))
  have tu : ∀ (M : Mem) (j : Nat), pr .tuple_ M [.list (List.replicate j (Cnd.d ⟨a, .eq, [i]⟩))] = some (.tup (List.replicate j (Cnd.d ⟨a, .eq, [i]⟩)), M) := fun M j => rfl
  simp only [fpE, b__law_form_pairs, List.drop, List.take, List.forall_mem_cons]
  refine ⟨?_, by simp⟩
  exact mkF "at" [n, "of", a, "=", n] (.at_ true i (List.replicate 1 ⟨a, .eq, [i]⟩)) (by (repeat (first | exact es_lit | exact es_v rfl (by assumption) | apply es_add | decide))) (fun M => by simp [Frm.d, Bas.d, hi, List.replicate, mostS]) (by decide) (by (repeat (first | exact pw_nil | refine pw_cons (by first | assumption | exact lit_pw (by decide) (by decide)) ?_))) (by (simp [tl_lit, JL, TL.joinL, TL.tl_append])) (fn_atn h.a h.nn) ⟨io, rep_ok c0 (by omega) (by omega)⟩ (at_len (by simp) (rep30 c0) (by simp) h.en ln)
theorem fp_24 (h : FIn a b n i) {x : Option D} : ∀ e ∈ (fpE.drop 24).take 1, ∃ d, (∀ M, ev C e (fpEnv k a b n i x) M = .ok d M) ∧ PF2 d := by
  have pa := h.a.pw
  have pb := h.b.pw
  have la := h.a.ln
  have lb := h.b.ln
  have ln := h.nl
  have io := h.io
  have pn : PW n := h.en ▸ num_pw _
  have hi : ∀ M, pr .int_ M [.str n] = some (.int i, M) := fun M => h.en ▸ pr_int_num (M := M) h.io
  have c0 := c30_one .eq h.a io h.en ln
  have lw : (a ++ " = " ++ n).length ≤ 17 := by
    have e1 : (" = " : Str).length = 3 := rfl
    simp only [len_app]; omega
  have hw : TL.tl (a ++ " = " ++ n) = JL [a, "=", n] := by (simp [tl_lit, JL, TL.joinL, TL.tl_append])
  have pw3 : ∀ w ∈ [a, "=", n], PW w := pw_cons pa (pw_cons (lit_pw (by decide) (by decide)) (pw_cons pn pw_nil))
  have tu : ∀ (M : Mem) (j : Nat), pr .tuple_ M [.list (List.replicate j (Cnd.d ⟨a, .eq, [i]⟩))] = some (.tup (List.replicate j (Cnd.d ⟨a, .eq, [i]⟩)), M) := fun M j => rfl
  simp only [fpE, b__law_form_pairs, List.drop, List.take, List.forall_mem_cons]
  refine ⟨?_, by simp⟩
  exact mkF "most" [n, "of", a, "=", n] (.at_ true i (List.replicate 1 ⟨a, .eq, [i]⟩)) (by (repeat (first | exact es_lit | exact es_v rfl (by assumption) | apply es_add | decide))) (fun M => by simp [Frm.d, Bas.d, hi, List.replicate, mostS]) (by decide) (by (repeat (first | exact pw_nil | refine pw_cons (by first | assumption | exact lit_pw (by decide) (by decide)) ?_))) (by (simp [tl_lit, JL, TL.joinL, TL.tl_append])) (fn_most h.a h.nn) ⟨io, rep_ok c0 (by omega) (by omega)⟩ (at_len (by simp) (rep30 c0) (by simp) h.en ln)
theorem fp_all (h : FIn a b n i) {x : Option D} : ∀ e ∈ fpE, ∃ d, (∀ M, ev C e (fpEnv k a b n i x) M = .ok d M) ∧ PF2 d := by
  have e : fpE = (fpE.drop 0).take 1 ++ (fpE.drop 1).take 1 ++ (fpE.drop 2).take 1 ++ (fpE.drop 3).take 1 ++ (fpE.drop 4).take 1 ++ (fpE.drop 5).take 1 ++ (fpE.drop 6).take 1 ++ (fpE.drop 7).take 1 ++ (fpE.drop 8).take 1 ++ (fpE.drop 9).take 1 ++ (fpE.drop 10).take 1 ++ (fpE.drop 11).take 1 ++ (fpE.drop 12).take 1 ++ (fpE.drop 13).take 1 ++ (fpE.drop 14).take 1 ++ (fpE.drop 15).take 1 ++ (fpE.drop 16).take 1 ++ (fpE.drop 17).take 1 ++ (fpE.drop 18).take 1 ++ (fpE.drop 19).take 1 ++ (fpE.drop 20).take 1 ++ (fpE.drop 21).take 1 ++ (fpE.drop 22).take 1 ++ (fpE.drop 23).take 1 ++ (fpE.drop 24).take 1 := rfl
  intro y hy
  rw [e] at hy
  simp only [List.mem_append] at hy
  rcases hy with (((((((((((((((((((((((hx | hx) | hx) | hx) | hx) | hx) | hx) | hx) | hx) | hx) | hx) | hx) | hx) | hx) | hx) | hx) | hx) | hx) | hx) | hx) | hx) | hx) | hx) | hx) | hx
  · exact fp_0 h y hx
  · exact fp_1 h y hx
  · exact fp_2 h y hx
  · exact fp_3 h y hx
  · exact fp_4 h y hx
  · exact fp_5 h y hx
  · exact fp_6 h y hx
  · exact fp_7 h y hx
  · exact fp_8 h y hx
  · exact fp_9 h y hx
  · exact fp_10 h y hx
  · exact fp_11 h y hx
  · exact fp_12 h y hx
  · exact fp_13 h y hx
  · exact fp_14 h y hx
  · exact fp_15 h y hx
  · exact fp_16 h y hx
  · exact fp_17 h y hx
  · exact fp_18 h y hx
  · exact fp_19 h y hx
  · exact fp_20 h y hx
  · exact fp_21 h y hx
  · exact fp_22 h y hx
  · exact fp_23 h y hx
  · exact fp_24 h y hx
end
end K01

namespace K01
open PySem PySem.Spec PyProof.Rows L2 DP
theorem told_comp {C : Nat → List D → Mem → Res D} {env : DP.Env} {M : Mem} (he : 7 < env.length) : ev C (.comp false [7] (.nm 7) .rng2 [(.c (.int (1))), (.c (.int (10)))] none (.pr .str_ [(.v 7)])) env M = .ok (.list (toldS.map .str)) M := by
  refine comp_ok (ds := [.int 1, .int 10]) (w := .items (rngD 1 9)) (M1 := M) (by simp) (walk_rng2 (i := 1) (j := 10) (by omega)) ?_ (by rw [sl_eq]; show 9 ≤ _; omega)
  have e : rngD 1 9 = ([1, 2, 3, 4, 5, 6, 7, 8, 9] : List Int).map .int := rfl
  show compLoop _ _ (rngD 1 9) M = _
  rw [e]
  have e2 : toldS.map D.str = ([1, 2, 3, 4, 5, 6, 7, 8, 9] : List Int).map fun i => .str (numS i) := by simp [toldS]
  rw [e2]
  refine compLoop_on D.int (fun i => .str (numS i)) _ fun i hi => ?_
  have h := pr_str_num (M := M) (i := i) (small_ok (by simp at hi; omega) (by simp at hi; omega))
  simp [compF, he, h]
theorem eight_comp {C : Nat → List D → Mem → Res D} {env : DP.Env} {M : Mem} (he : 7 < env.length) : ev C (.comp false [7] (.nm 7) .rng2 [(.c (.int (1))), (.c (.int (9)))] none (.v 7)) env M = .ok (.list (t8.map .int)) M := by
  refine comp_ok (ds := [.int 1, .int 9]) (w := .items (rngD 1 8)) (M1 := M) (by simp) (walk_rng2 (i := 1) (j := 9) (by omega)) ?_ (by rw [sl_eq]; show 8 ≤ _; omega)
  have e : rngD 1 8 = t8.map .int := rfl
  show compLoop _ _ (rngD 1 8) M = _
  rw [e]
  refine compLoop_on D.int (fun i => .int i) _ fun i hi => ?_
  simp [compF, he]
theorem fp_fin {C : Nat → List D → Mem → Res D} {M : Mem} {k : Nat} {a b n : Str} {i : Int} {ds : List D} {es : List E} {X6 X8 : E} (hi : pr .int_ M [.str n] = some (.int i, M)) (ha : pr .add M [.str a, .str " = "] = some (.str (a ++ " = "), M)) (hb : pr .add M [.str (a ++ " = "), .str n] = some (.str (a ++ " = " ++ n), M))
    (h6 : ev C X6 [some (.loc k), some (.str a), some (.str b), some (.str n), some (Cnd.d ⟨a, .eq, [i]⟩), some (.str (a ++ " = " ++ n)), none, none, none] M = .ok (.list (toldS.map .str)) M)
    (h8 : ev C X8 [some (.loc k), some (.str a), some (.str b), some (.str n), some (Cnd.d ⟨a, .eq, [i]⟩), some (.str (a ++ " = " ++ n)), some (.list (toldS.map .str)), none, none] M = .ok (.list (t8.map .int)) M)
    (e5 : evs C es (fpEnv k a b n i none) M = .ok ds M) (hl : ds.length ≤ sizeLine) :
    fin M (DP.execs C [.asg (.nm 4) (.pr .tup [(.v 1), (.c (.str "=")), (.pr .tup [(.pr .int_ [(.v 3)])])]), .asg (.nm 5) (.pr .add [(.pr .add [(.v 1), (.c (.str " = "))]), (.v 3)]), .asg (.nm 6) X6, .asg (.nm 8) (.pr .tuple_ [X8]), .ret (.pr .list es)]
      [some (.loc k), some (.str a), some (.str b), some (.str n), none, none, none, none, none] M) = .ok (.list ds) M := by
  have h3 := pr_list (M := M) hl
  have hc : Cnd.d ⟨a, .eq, [i]⟩ = .tup [.str a, .str "=", .tup [.int i]] := rfl
  rw [hc] at h6 h8
  simp only [fpEnv, hc] at e5
  simp [hi, ha, hb, h6, h8, e5, h3]
theorem run_fpairs {m k : Nat} {M : Mem} {a b n : Str} {i : Int} (h : FIn a b n i) :
    ∃ ds, DP.run fs (m + 1) i__law_form_pairs [.loc k, .str a, .str b, .str n] M = .ok (.list ds) M ∧ ds.length = 25 ∧ (∀ d ∈ ds, PF2 d) := by
  obtain ⟨ds, f, hl, p⟩ := evs_all (C := DP.run fs m) (fp_all (k := k) h (x := none))
  have hlen : ds.length = 25 := hl
  have la := h.a.ln
  have ln := h.nl
  have e1 : (" = " : Str).length = 3 := rfl
  refine ⟨ds, ?_, hlen, p⟩
  rw [run_at (d := ⟨4, 9, b__law_form_pairs⟩) rfl rfl]
  exact fp_fin (C := DP.run fs m) (h.en ▸ pr_int_num h.io) (adds (by simp only [len_app]; omega)) (adds (by simp only [len_app]; omega)) (told_comp (by simp)) (eight_comp (by simp)) (f M) (by rw [hlen, sl_eq]; omega)
end K01

/-! a sign that is not allowed -/
namespace K01
open PySem PySem.Spec PyProof.Rows L2 DP
/-- a line that may be spoilt -/
structure Cl (T : Str) : Prop where
  s : ∀ c ∈ TL.tl T, c < 1000 ∧ c ≠ 10
  ne : ∃ c ∈ TL.tl T, c ≠ 32
theorem tl_cutR {T : Str} {p : Nat} : TL.tl (cutS T none (some (p : Int))) = (TL.tl T).take p := by
  unfold cutS
  rw [TL.tl_mk]
  simp [HT.sIx_none, HT.sIx_nat, TL.tl]
  show min p (min T.cps.size T.cps.size) = _
  simp
theorem tl_cutL {T : Str} {p : Nat} : TL.tl (cutS T (some (p : Int)) none) = (TL.tl T).drop p := by
  unfold cutS
  rw [TL.tl_mk]
  have hl : T.length = T.cps.toList.length := TL.len_tl T
  simp only [HT.sIx_none, HT.sIx_nat, TL.tl, hl]
  by_cases h : p ≤ T.cps.toList.length
  · rw [Nat.min_eq_left h]
    exact List.take_of_length_le (by simp)
  · rw [Nat.min_eq_right (by omega), List.drop_length, List.drop_eq_nil_of_le (by omega)]
    simp
def bad11 : List Nat := [65, 66, 90, 95, 46, 42, 59, 126, 33, 40, 9]
theorem bad_at {M : Mem} {r : Int} (h0 : 0 ≤ r) (h : r < 11) : ∃ c, pr .idx M [.str "ABZ_.*;~!(\t", .int r] = some (.str ⟨#[c]⟩, M) ∧ signB c = false ∧ c < 1000 ∧ c ≠ 10 ∧ c ≠ 32 := by
  obtain ⟨j, rfl⟩ := Int.eq_ofNat_of_zero_le h0
  have hj : j < bad11.length := by show j < 11; omega
  have hb : ∀ c ∈ bad11, signB c = false ∧ c < 1000 ∧ c ≠ 10 ∧ c ≠ 32 := by decide +kernel
  refine ⟨bad11[j], pr_idx_str (by decide +kernel) ?_, hb _ (List.getElem_mem hj)⟩
  show atI _ (j : Int) = _
  have e : ("ABZ_.*;~!(\t" : Str).cps.toList = bad11 := by decide +kernel
  rw [atI_nat, e]
  exact List.getElem?_eq_getElem hj
/-- a spoilt line -/
structure Spoilt (T U : Str) : Prop where
  b : SignBad U
  c : ∀ c ∈ TL.tl U, c < 1000 ∧ c ≠ 10
  l : U.length ≤ T.length + 1
theorem sp_ins {T : Str} {c p : Nat} (h : Cl T) (hc : signB c = false ∧ c < 1000 ∧ c ≠ 10 ∧ c ≠ 32) : Spoilt T (cutS T none (some (p : Int)) ++ ⟨#[c]⟩ ++ cutS T (some (p : Int)) none) := by
  have e : TL.tl (cutS T none (some (p : Int)) ++ ⟨#[c]⟩ ++ cutS T (some (p : Int)) none) = (TL.tl T).take p ++ [c] ++ (TL.tl T).drop p := by
    rw [TL.tl_append, TL.tl_append, tl_cutR, tl_cutL]
  have hm : ∀ x ∈ (TL.tl T).take p ++ [c] ++ (TL.tl T).drop p, x < 1000 ∧ x ≠ 10 := fun x hx => by
    simp only [List.mem_append, List.mem_singleton] at hx
    rcases hx with (h1 | rfl) | h1
    · exact h.s x (List.mem_of_mem_take h1)
    · exact ⟨hc.2.1, hc.2.2.1⟩
    · exact h.s x (List.mem_of_mem_drop h1)
  refine ⟨⟨fun x hx => (hm x (e ▸ hx)).1, ⟨c, by rw [e]; simp, hc.2.2.2⟩, .inl ⟨c, by rw [e]; simp, hc.1⟩⟩, fun x hx => hm x (e ▸ hx), ?_⟩
  rw [TL.len_tl, e, TL.len_tl]
  simp only [List.length_append, List.length_take, List.length_drop, List.length_singleton]
  omega
theorem sp_end {T : Str} (h : Cl T) : Spoilt T (T ++ " ") := by
  have e : TL.tl (T ++ " ") = TL.tl T ++ [32] := by rw [TL.tl_append]; rfl
  obtain ⟨c, hc, hn⟩ := h.ne
  have hm : ∀ x ∈ TL.tl T ++ [32], x < 1000 ∧ x ≠ 10 := fun x hx => by
    simp only [List.mem_append, List.mem_singleton] at hx
    rcases hx with h1 | rfl
    · exact h.s x h1
    · omega
  refine ⟨⟨fun x hx => (hm x (e ▸ hx)).1, ⟨c, by rw [e]; simp [hc], hn⟩, .inr (.inr (.inr ⟨_, e⟩))⟩, fun x hx => hm x (e ▸ hx), ?_⟩
  rw [TL.len_tl, e, TL.len_tl]; simp
theorem sp_hd {T : Str} (h : Cl T) : Spoilt T (" " ++ T) := by
  have e : TL.tl (" " ++ T) = 32 :: TL.tl T := by rw [TL.tl_append]; rfl
  obtain ⟨c, hc, hn⟩ := h.ne
  have hm : ∀ x ∈ 32 :: TL.tl T, x < 1000 ∧ x ≠ 10 := fun x hx => by
    rcases List.mem_cons.mp hx with rfl | h1
    · omega
    · exact h.s x h1
  refine ⟨⟨fun x hx => (hm x (e ▸ hx)).1, ⟨c, by rw [e]; simp [hc], hn⟩, .inr (.inr (.inl ⟨_, e⟩))⟩, fun x hx => hm x (e ▸ hx), ?_⟩
  rw [TL.len_tl, e, TL.len_tl]; simp
theorem sp_q {T : Str} (h : Cl T) : Spoilt T (T ++ "Q") := by
  have e : TL.tl (T ++ "Q") = TL.tl T ++ [81] := by rw [TL.tl_append]; rfl
  obtain ⟨c, hc, hn⟩ := h.ne
  have hm : ∀ x ∈ TL.tl T ++ [81], x < 1000 ∧ x ≠ 10 := fun x hx => by
    simp only [List.mem_append, List.mem_singleton] at hx
    rcases hx with h1 | rfl
    · exact h.s x h1
    · omega
  refine ⟨⟨fun x hx => (hm x (e ▸ hx)).1, ⟨c, by rw [e]; simp [hc], hn⟩, .inl ⟨81, by rw [e]; simp, by decide +kernel⟩⟩, fun x hx => hm x (e ▸ hx), ?_⟩
  rw [TL.len_tl, e, TL.len_tl]; simp
theorem sp_two {T : Str} (h : Cl T) (h32 : 32 ∈ TL.tl T) (hl : T.length ≤ 900) : ∃ U, (∀ M, pr .repl1 M [.str T, .str " ", .str "  "] = some (.str U, M)) ∧ Spoilt T U := by
  obtain ⟨i, hi, hib⟩ : ∃ i, Builtin.Str.occurrences T " " 0 T.length 1 = [i] ∧ i + 1 ≤ T.length := by
    have h1 := StrLaws.occ_length_le T " " 0 T.length 1
    have h2 := StrLaws.occ_spec T " " 0 T.length 1
    have h3 : (!(Builtin.Str.occurrences T " " 0 T.length 1).isEmpty) = true := by
      rw [StrLaws.found_iff]
      obtain ⟨i, hi, e⟩ := List.mem_iff_getElem.mp h32
      refine ⟨i, ?_, ?_⟩
      · have q : (" " : Str).length = 1 := rfl
        rw [q, TL.len_tl]; omega
      · rw [StrLaws.subAt_eq]
        have q : (" " : Str).length = 1 := rfl
        have q2 : (" " : Str).cps.toList = [32] := rfl
        rw [q, q2, StrLaws.take1_drop]
        show (TL.tl T)[i]? = _
        rw [List.getElem?_eq_getElem hi, e]
    generalize Builtin.Str.occurrences T " " 0 T.length 1 = o at h1 h2 h3
    match o, h1, h2, h3 with
    | [i], _, h2, _ => exact ⟨i, rfl, (h2 i (by simp)).1⟩
    | _ :: _ :: _, h1, _, _ => simp at h1
  have hU : repl1 T " " "  " = Str.join "  " [Builtin.Str.strSub T 0 i, Builtin.Str.strSub T (i + 1) T.length] := by
    unfold repl1
    rw [hi, StrLaws.glued_eq_join, StrLaws.partsBetween_eq]
    rfl
  have e : TL.tl (repl1 T " " "  ") = (TL.tl T).take i ++ ([32, 32] ++ (TL.tl T).drop (i + 1)) := by
    rw [hU, TL.tl_join]
    have s1 : TL.tl (Builtin.Str.strSub T 0 i) = (TL.tl T).take i := by
      have := StrLaws.strSub_toList T 0 i
      simpa [TL.tl] using this
    have s2 : TL.tl (Builtin.Str.strSub T (i + 1) T.length) = (TL.tl T).drop (i + 1) := by
      have := StrLaws.strSub_toList T (i + 1) T.length
      have q : T.length = (TL.tl T).length := TL.len_tl T
      rw [show TL.tl (Builtin.Str.strSub T (i + 1) T.length) = _ from this]
      exact List.take_of_length_le (by rw [List.length_drop, q]; exact Nat.le_refl _)
    simp only [List.map_cons, List.map_nil, TL.joinL, s1, s2]
    rfl
  have hm : ∀ x ∈ (TL.tl T).take i ++ ([32, 32] ++ (TL.tl T).drop (i + 1)), x < 1000 ∧ x ≠ 10 := fun x hx => by
    simp only [List.mem_append, List.mem_cons, List.not_mem_nil, or_false] at hx
    rcases hx with h1 | (rfl | rfl) | h1
    · exact h.s x (List.mem_of_mem_take h1)
    · omega
    · omega
    · exact h.s x (List.mem_of_mem_drop h1)
  have hlen : (repl1 T " " "  ").length = T.length + 1 := by
    have q : T.length = (TL.tl T).length := TL.len_tl T
    rw [TL.len_tl, e]
    simp only [List.length_append, List.length_take, List.length_drop, List.length_cons, List.length_nil]
    omega
  refine ⟨repl1 T " " "  ", fun M => ?_, ⟨fun x hx => (hm x (e ▸ hx)).1, ?_, .inr (.inl ?_)⟩, fun x hx => hm x (e ▸ hx), Nat.le_of_eq hlen⟩
  · show prRepl1 M [.str T, .str " ", .str "  "] = _
    unfold prRepl1
    dsimp only
    rw [if_pos]
    have q : ("  " : Str).length = 2 := rfl
    refine ⟨by decide, ?_, ?_⟩
    · rw [hi, q, sl_eq]
      simp only [List.length_singleton]
      omega
    · rw [hlen, sl_eq]; omega
  · obtain ⟨c, hc, hn⟩ := h.ne
    obtain ⟨j, hj, ej⟩ := List.mem_iff_getElem.mp hc
    refine ⟨c, ?_, hn⟩
    rw [e]
    by_cases hji : j < i
    · refine List.mem_append.mpr (.inl (List.mem_iff_getElem.mpr ⟨j, by rw [List.length_take]; omega, by rw [List.getElem_take]; exact ej⟩))
    · by_cases hj2 : j = i
      · exfalso
        subst hj2
        have h2 := (StrLaws.occ_spec T " " 0 T.length 1 j (by rw [hi]; simp)).2
        rw [StrLaws.subAt_eq] at h2
        have q : (" " : Str).length = 1 := rfl
        have q2 : (" " : Str).cps.toList = [32] := rfl
        rw [q, q2, StrLaws.take1_drop] at h2
        have h3 : (TL.tl T)[j]? = some 32 := h2
        rw [List.getElem?_eq_getElem hj, ej] at h3
        exact hn (Option.some.inj h3)
      · refine List.mem_append.mpr (.inr (List.mem_append.mpr (.inr (List.mem_iff_getElem.mpr ⟨j - (i + 1), by rw [List.length_drop]; omega, ?_⟩))))
        rw [List.getElem_drop]
        have : i + 1 + (j - (i + 1)) = j := by omega
        simp only [this]
        exact ej
  · rw [dblB_iff]
    refine ⟨i, ?_⟩
    rw [e, List.drop_append_of_le_length (by rw [List.length_take]; have q : T.length = (TL.tl T).length := TL.len_tl T; omega), List.drop_eq_nil_of_le (by rw [List.length_take]; omega)]
    rfl
theorem slice_to {M : Mem} {T : Str} {p : Nat} (h : T.length ≤ 900) : pr (.slice false true) M [.str T, .int p] = some (.str (cutS T none (some (p : Int))), M) := by
  show slc M none (some (p : Int)) (.str T) = _
  exact if_pos (by rw [sl_eq]; omega)
theorem slice_from {M : Mem} {T : Str} {p : Nat} (h : T.length ≤ 900) : pr (.slice true false) M [.str T, .int p] = some (.str (cutS T (some (p : Int)) none), M) := by
  show slc M (some (p : Int)) none (.str T) = _
  exact if_pos (by rw [sl_eq]; omega)
theorem wr_0 {C : Nat → List D → Mem → Res D} {M M1 M2 M3 : Mem} {k p : Nat} {T U A B : Str} {c : Nat} {r : Int} {R : List S} (e1 : C i__law_pick [.loc k, .int 4] M = .ok (.int 0) M1) (hl : pr .len M1 [.str T] = some (.int T.length, M1)) (e2 : C i__law_pick [.loc k, .int T.length] M1 = .ok (.int p) M2)
    (e3 : C i__law_pick [.loc k, .int 11] M2 = .ok (.int r) M3) (h4 : pr .idx M3 [.str "ABZ_.*;~!(\t", .int r] = some (.str ⟨#[c]⟩, M3)) (h5 : pr (.slice false true) M2 [.str T, .int p] = some (.str A, M2)) (h6 : pr (.slice true false) M3 [.str T, .int p] = some (.str B, M3))
    (h7 : pr .add M3 [.str A, .str ⟨#[c]⟩] = some (.str (A ++ ⟨#[c]⟩), M3)) (h8 : pr .add M3 [.str (A ++ ⟨#[c]⟩), .str B] = some (.str U, M3)) (tr : ∀ d, trim M d M3 = M3) :
    fin M (DP.execs C (.asg (.nm 2) (.call i__law_pick [(.v 0), (.c (.int (4)))]) :: .asg (.nm 3) (.call i__law_pick [(.v 0), (.pr .len [(.v 1)])]) ::
      .ife (.pr .eq [(.v 2), (.c (.int (0)))]) [.ret (.pr .add [(.pr .add [(.pr (.slice false true) [(.v 1), (.v 3)]), (.pr .idx [(.c (.str "ABZ_.*;~!(\t")), (.call i__law_pick [(.v 0), (.c (.int (11)))])])]), (.pr (.slice true false) [(.v 1), (.v 3)])])] [] :: R)
      [some (.loc k), some (.str T), none, none] M) = .ok (.str U) M3 := by
  simp [e1, hl, e2, e3, h4, h5, h6, h7, h8, tr]
theorem wr_1 {C : Nat → List D → Mem → Res D} {M M1 M2 : Mem} {k p : Nat} {T U : Str} {q : Int} {B0 R : List S} (h0 : q ≠ 0) (e1 : C i__law_pick [.loc k, .int 4] M = .ok (.int q) M1) (hl : pr .len M1 [.str T] = some (.int T.length, M1)) (e2 : C i__law_pick [.loc k, .int T.length] M1 = .ok (.int p) M2)
    (hR : ∃ env', DP.execs C R [some (.loc k), some (.str T), some (.int q), some (.int p)] M2 = .done (.rt (.str U)) env' M2) (tr : ∀ d, trim M d M2 = M2) :
    fin M (DP.execs C (.asg (.nm 2) (.call i__law_pick [(.v 0), (.c (.int (4)))]) :: .asg (.nm 3) (.call i__law_pick [(.v 0), (.pr .len [(.v 1)])]) ::
      .ife (.pr .eq [(.v 2), (.c (.int (0)))]) B0 [] :: R) [some (.loc k), some (.str T), none, none] M) = .ok (.str U) M2 := by
  obtain ⟨env', hR⟩ := hR
  simp [e1, hl, e2, h0, hR, tr]
theorem run_wrong {m k b : Nat} {M : Mem} {T : Str} (s : Src k b M) (hb : b < 800000000) (h : Cl T) (hT : T.length ≤ 800) :
    ∃ U M', DP.run fs (m + 2) i__law_wrong_sign [.loc k, .str T] M = .ok (.str U) M' ∧ Spoilt T U ∧ Src k (b + 3) M' ∧ Keep k M M' := by
  have hlT : 0 < T.length := by
    obtain ⟨c, hc, _⟩ := h.ne
    rw [TL.len_tl]
    exact List.length_pos_of_mem hc
  have hsz : T.length ≤ sizeLine := by rw [sl_eq]; omega
  obtain ⟨r, M1, e1, r0, r1, s1, k1⟩ := pick (n := m) (m := 4) s (by omega) (by omega) (by omega)
  obtain ⟨p, M2, e2, p0, p1, s2, k2⟩ := pick (n := m) (m := T.length) s1 (by omega) (by omega) (by omega)
  obtain ⟨p, rfl⟩ := Int.eq_ofNat_of_zero_le p0
  have hl := pr_len_str (M := M1) hsz
  have kk := k1.trans k2
  have tr : ∀ d, trim M d M2 = M2 := fun d => trim_len kk.ln
  rw [run_at (d := ⟨2, 4, b__law_wrong_sign⟩) rfl rfl]
  have l1 : (" " : Str).length = 1 := rfl
  by_cases q0 : r = 0
  · subst q0
    obtain ⟨r3, M3, e3, a0, a1, s3, k3⟩ := pick (n := m) (m := 11) s2 (by omega) (by omega) (by omega)
    obtain ⟨c, h4, hc⟩ := bad_at (M := M3) a0 a1
    have sp := sp_ins (p := p) h hc
    have sl := sp.l
    have kk3 := kk.trans k3
    simp only [len_app] at sl
    refine ⟨_, M3, wr_0 (C := DP.run fs (m + 1)) e1 hl e2 e3 h4 (slice_to (by omega)) (slice_from (by omega)) (adds (by rw [len_app]; omega)) (adds (by simp only [len_app]; omega)) (fun d => trim_len kk3.ln), sp, s3.mono (by omega), kk3⟩
  by_cases q1 : r = 1
  · subst q1
    have h1 : pr .ne M2 [.str T, .str ""] = some (.bl true, M2) := by
      rw [pr_ne_str (strOk_of fun c hc => (h.s c hc).1) (strOk_lit rfl)]
      have : T ≠ "" := by rintro rfl; exact absurd hlT (by decide)
      simp [this]
    have h2 := adds (M := M2) (a := T) (b := " ") (by rw [len_app]; omega)
    exact ⟨_, M2, wr_1 (C := DP.run fs (m + 1)) (U := T ++ " ") q0 e1 hl e2 ⟨_, by simp [h1, h2]; rfl⟩ tr, sp_end h, s2.mono (by omega), kk⟩
  by_cases q2 : r = 2
  · subst q2
    have h2 := adds (M := M2) (a := " ") (b := T) (by rw [len_app]; omega)
    exact ⟨_, M2, wr_1 (C := DP.run fs (m + 1)) (U := " " ++ T) q0 e1 hl e2 ⟨_, by simp [h2]; rfl⟩ tr, sp_hd h, s2.mono (by omega), kk⟩
  have hin : pr .in_ M2 [.str " ", .str T] = some (.bl (decide (32 ∈ TL.tl T)), M2) := rfl
  by_cases q3 : 32 ∈ TL.tl T
  · obtain ⟨U, hU, sp⟩ := sp_two h q3 (by omega)
    have hU := hU M2
    rw [decide_eq_true q3] at hin
    exact ⟨_, M2, wr_1 (C := DP.run fs (m + 1)) (U := U) q0 e1 hl e2 ⟨_, by simp [q1, q2, hin, hU]; rfl⟩ tr, sp, s2.mono (by omega), kk⟩
  · have h2 := adds (M := M2) (a := T) (b := "Q") (by rw [len_app]; have e : ("Q" : Str).length = 1 := rfl; omega)
    rw [decide_eq_false q3] at hin
    exact ⟨_, M2, wr_1 (C := DP.run fs (m + 1)) (U := T ++ "Q") q0 e1 hl e2 ⟨_, by simp [q1, q2, hin, h2]; rfl⟩ tr, sp_q h, s2.mono (by omega), kk⟩
end K01

/-! a faulty line -/
namespace K01
open PySem PySem.Spec PyProof.Rows L2 DP
inductive Wh where
  | empty | sign | word | form
def Wh.s : Wh → Str
  | .empty => "empty" | .sign => "sign" | .word => "word" | .form => "form"
def Wh.w : Wh → Bool
  | .word => true | .form => true | _ => false
structure Flt (T : Str) (w : Wh) (l : Lin) : Prop where
  c : ∀ c ∈ TL.tl T, c < 1000 ∧ c ≠ 10
  len : T.length ≤ 800
  bad : ∀ n k M, DP.run fs (n + 6) i_read_line [.str T, .int k] M = .exc (badT k w.s) M
  ok : l.Ok
  lt : l.t.length ≤ 800
  cl : w.w = true → Cl T ∧ T.length ≤ 799
theorem words_cl {ws : List Str} (hne : ws ≠ []) (hw : ∀ w ∈ ws, PW w) : Cl (Str.join " " ws) := by
  have T := txt1 hne hw
  have hT : TL.tl (Str.join " " ws) = TL.joinL [32] (ws.map TL.tl) := TL.tl_join " " ws
  rw [← hT] at T
  obtain ⟨c, r, e, hc⟩ := T.hd
  refine ⟨fun c hc => ?_, c, by rw [e]; simp, (sig_ne hc).1⟩
  rcases T.al c hc with q | q
  · have := sig_ne q; unfold Sig at q; omega
  · omega
theorem flt_w {ws : List Str} {w : Wh} {l : Lin} (hne : ws ≠ []) (hw : ∀ w ∈ ws, PW w) (hl : (Str.join " " ws).length ≤ 799) (hr : readW ws = .bad w.s) (ho : l.Ok) (lt : l.t.length ≤ 800) : Flt (Str.join " " ws) w l := by
  have c := words_cl hne hw
  exact ⟨c.s, by omega, fun n k M => by rw [run_rl_words hne hw (by omega), hr]; rfl, ho, lt, fun _ => ⟨c, hl⟩⟩
theorem flt_empty {l : Lin} {p : Nat} (ho : l.Ok) (lt : l.t.length ≤ 800) : Flt (cutS "   " none (some (p : Int))) .empty l := by
  have e : TL.tl (cutS "   " none (some (p : Int))) = [32, 32, 32].take p := tl_cutR
  have hc : ∀ c ∈ TL.tl (cutS "   " none (some (p : Int))), c = 32 := fun c hc => by
    rw [e] at hc
    have := List.mem_of_mem_take hc
    simpa using this
  have hl : (cutS "   " none (some (p : Int))).length ≤ 800 := by
    rw [TL.len_tl, e, List.length_take]
    exact Nat.le_trans (Nat.min_le_right _ _) (by decide)
  exact ⟨fun c h => by have := hc c h; omega, hl, fun n k M => run_rl_empty hc (by omega), ho, lt, fun h => by cases h⟩
theorem flt_sign {T U : Str} {l : Lin} (h : Spoilt T U) (hT : T.length ≤ 799) (ho : l.Ok) (lt : l.t.length ≤ 800) : Flt U .sign l :=
  ⟨h.c, by have := h.l; omega, fun n k M => run_rl_sign h.b (by have := h.l; omega), ho, lt, fun h => by cases h⟩
theorem lin_cl {l : Lin} (h : l.Ok) : Cl l.t := words_cl (lin_ne l) (lin_pw h)
def firsts (a : Str) : List Str := ["closes", "clos", "names", "rows", "either", "at", "7", ":", "nd", a ++ "x"]
theorem x_no {a : Str} : a ++ "x" ∉ LW := by
  intro h
  have key : ∀ s ∈ LW, (TL.tl s).getLast? ≠ some 120 := by decide +kernel
  refine key _ h ?_
  have e : TL.tl (a ++ "x") = TL.tl a ++ [120] := by rw [TL.tl_append]; rfl
  rw [e]
  simp
theorem first_ok {a f : Str} (ha : IsW a) (h : f ∈ firsts a) : PW f ∧ f.length ≤ 13 ∧ f ∉ LW := by
  have ln := ha.ln
  simp only [firsts, List.mem_cons, List.not_mem_nil, or_false] at h
  rcases h with h | h | h | h | h | h | h | h | h | h
  case inr.inr.inr.inr.inr.inr.inr.inr.inr =>
    rw [h]
    exact ⟨app_pw ha.pw (lit_pw (by decide) (by decide)), by rw [len_app]; have e : ("x" : Str).length = 1 := rfl; omega, x_no⟩
  all_goals (rw [h]; exact ⟨lit_pw (by decide) (by decide), by decide, by decide +kernel⟩)
theorem flt_first {a f : Str} (ha : IsW a) (h : f ∈ firsts a) : Flt (f ++ " " ++ a) .word (.close a) := by
  obtain ⟨p, l, n⟩ := first_ok ha h
  have e : f ++ " " ++ a = Str.join " " [f, a] := TL.ext_tl (by rw [tl_t]; (simp [tl_lit, JL, TL.joinL, TL.tl_append]))
  have ln := ha.ln
  have hl : (f ++ " " ++ a).length ≤ 799 := by have e : (" " : Str).length = 1 := rfl; simp only [len_app]; omega
  rw [e] at hl ⊢
  exact flt_w (by simp) (pw_cons p (pw_cons ha.pw pw_nil)) hl (by simp [readW, n, Wh.s]) ha (close_len ha)
theorem flt_form {T b : Str} {f : Frm} {m : Bool} (h : BadF T f) (hb : IsW b) : Flt (rowS m ++ " " ++ b ++ " : " ++ T) .form (.frm m b f) := by
  obtain ⟨v, r, hw, e, hn⟩ := h.ws
  have e2 : rowS m ++ " " ++ b ++ " : " ++ T = Str.join " " (rowS m :: b :: (":" : Str) :: v :: r) := by
    apply TL.ext_tl
    rw [tl_t, J_cons (by simp), J_cons (by simp), J_cons (by simp), e]
    simp only [TL.tl_append, tl_t]
    simp [tl_lit]
  have lb := hb.ln
  have lr := rowS_len m
  have lT := h.len
  have q1 : (" : " : Str).length = 3 := rfl
  have q2 : (" " : Str).length = 1 := rfl
  have hl : (rowS m ++ " " ++ b ++ " : " ++ T).length ≤ 799 := by simp only [len_app]; omega
  have hrow : PW (rowS m) := by cases m <;> exact lit_pw (by decide) (by decide)
  have hin : rowS m ∈ LW := by cases m <;> simp [rowS, LW]
  have wb := wordB_iff.mpr hb
  have hline : lineOf (rowS m :: b :: (":" : Str) :: v :: r) = none := by
    cases m <;> simp [lineOf, rowS, ofString_eq, wb, hn]
  rw [e2] at hl ⊢
  refine flt_w (by simp) (pw_cons hrow (pw_cons hb.pw (pw_cons (lit_pw (by decide) (by decide)) hw))) hl ?_ ⟨hb, h.ok⟩ ?_
  · exact readW_bad hin hline
  · have := h.lt
    rw [l_frm]
    simp only [len_app]; omega
theorem flt_word {T : Str} {l : Lin} (h : BadW T l) : Flt T .form l := by
  obtain ⟨ws, hne, hw, rfl, hr⟩ := h.ws
  exact flt_w hne hw h.len hr h.ok h.lt
section
variable {C : Nat → List D → Mem → Res D} {M M1 M2 M3 M4 M5 M6 M7 : Mem} {k : Nat} {a b n : Str} {q : Int}
abbrev fe (k : Nat) (a b n : Str) (q : Int) : DP.Env := [some (.loc k), some (.str a), some (.str b), some (.str n), some (.int q), none, none, none, none, none, none]
theorem ft_head {R : List S} {r : Int} (e1 : C i__law_word [.loc k] M = .ok (.str a) M1) (e2 : C i__law_word [.loc k] M1 = .ok (.str b) M2) (e3 : C i__law_pick [.loc k, .int 30] M2 = .ok (.int r) M3) (hn : pr .str_ M3 [.int (r - 9)] = some (.str n, M3)) (e4 : C i__law_pick [.loc k, .int 8] M3 = .ok (.int q) M4) :
    DP.execs C (.asg (.nm 1) (.call i__law_word [(.v 0)]) :: .asg (.nm 2) (.call i__law_word [(.v 0)]) :: .asg (.nm 3) (.pr .str_ [(.pr .sub [(.call i__law_pick [(.v 0), (.c (.int (30)))]), (.c (.int (9)))])]) :: .asg (.nm 4) (.call i__law_pick [(.v 0), (.c (.int (8)))]) :: R)
      [some (.loc k), none, none, none, none, none, none, none, none, none, none] M = DP.execs C R (fe k a b n q) M4 := by
  simp [e1, e2, e3, hn, e4]
theorem ft_ret {R : List S} {c : E} {Bk : List S} {d : D} (hc : ev C c (fe k a b n q) M4 = .ok (.bl true) M4) (h : ∃ env, DP.execs C Bk (fe k a b n q) M4 = .done (.rt d) env M5) : ∃ env, DP.execs C (.ife c Bk [] :: R) (fe k a b n q) M4 = .done (.rt d) env M5 := by
  obtain ⟨env, h⟩ := h
  exact ⟨env, by simp [hc, h]⟩
theorem ft_skip {R : List S} {c : E} {Bk : List S} {d : D} (hc : ev C c (fe k a b n q) M4 = .ok (.bl false) M4) (h : ∃ env, DP.execs C R (fe k a b n q) M4 = .done (.rt d) env M5) : ∃ env, DP.execs C (.ife c Bk [] :: R) (fe k a b n q) M4 = .done (.rt d) env M5 := by
  obtain ⟨env, h⟩ := h
  exact ⟨env, by simp [hc, h]⟩
theorem ft_0 {r : Nat} (e : C i__law_pick [.loc k, .int 4] M4 = .ok (.int r) M5) (h : pr (.slice false true) M5 [.str "   ", .int r] = some (.str (cutS "   " none (some (r : Int))), M5)) :
    ∃ env, DP.execs C [.ret (.pr .tup [(.pr (.slice false true) [(.c (.str "   ")), (.call i__law_pick [(.v 0), (.c (.int (4)))])]), (.c (.str "empty")), (.pr .tup [(.c (.str "close")), (.v 1)])])] (fe k a b n q) M4 = .done (.rt (.tup [.str (cutS "   " none (some (r : Int))), .str Wh.empty.s, (Lin.close a).d])) env M5 :=
  ⟨_, by simp [e, h, Lin.d, Wh.s]; rfl⟩
theorem ft_1 {i : Int} {T U : Str} (hi : pr .int_ M4 [.str n] = some (.int i, M4)) (e1 : C i__law_line [(Lin.name a i 40).d] M4 = .ok (.str T) M4) (e2 : C i__law_wrong_sign [.loc k, .str T] M4 = .ok (.str U) M5) :
    ∃ env, DP.execs C [.asg (.nm 5) (.pr .tup [(.c (.str "name")), (.v 1), (.pr .int_ [(.v 3)]), (.c (.int (40)))]), .ret (.pr .tup [(.call i__law_wrong_sign [(.v 0), (.call i__law_line [(.v 5)])]), (.c (.str "sign")), (.v 5)])] (fe k a b n q) M4 = .done (.rt (.tup [.str U, .str Wh.sign.s, (Lin.name a i 40).d])) env M5 := by
  simp only [Lin.d] at e1
  exact ⟨_, by simp [hi, e1, e2, Lin.d, Wh.s]; rfl⟩
theorem ft_2 {f : Str} {r : Int} (hx : pr .add M4 [.str a, .str "x"] = some (.str (a ++ "x"), M4)) (hl : pr .list M4 [.str "closes", .str "clos", .str "names", .str "rows", .str "either", .str "at", .str "7", .str ":", .str "nd", .str (a ++ "x")] = some (.list ((firsts a).map .str), M4)) (e : C i__law_pick [.loc k, .int 10] M4 = .ok (.int r) M5) (hf : pr .idx M5 [.list ((firsts a).map .str), .int r] = some (.str f, M5)) (h1 : pr .add M5 [.str f, .str " "] = some (.str (f ++ " "), M5)) (h2 : pr .add M5 [.str (f ++ " "), .str a] = some (.str (f ++ " " ++ a), M5)) :
    ∃ env, DP.execs C [.asg (.nm 5) (.pr .tup [(.c (.str "close")), (.v 1)]), .asg (.nm 6) (.pr .idx [(.pr .list [(.c (.str "closes")), (.c (.str "clos")), (.c (.str "names")), (.c (.str "rows")), (.c (.str "either")), (.c (.str "at")), (.c (.str "7")), (.c (.str ":")), (.c (.str "nd")), (.pr .add [(.v 1), (.c (.str "x"))])]), (.call i__law_pick [(.v 0), (.c (.int (10)))])]), .ret (.pr .tup [(.pr .add [(.pr .add [(.v 6), (.c (.str " "))]), (.v 1)]), (.c (.str "word")), (.v 5)])] (fe k a b n q) M4 = .done (.rt (.tup [.str (f ++ " " ++ a), .str Wh.word.s, (Lin.close a).d])) env M5 := by
  exact ⟨_, by simp [hx, hl, e, hf, h1, h2, Lin.d, Wh.s]; rfl⟩
theorem ft_3 {T : Str} {l : Lin} {r : Int} {ds : List D} (e1 : C i__law_word_pairs [.loc k, .str a, .str b, .str n] M4 = .ok (.list ds) M5) (e : C i__law_pick [.loc k, .int ds.length] M5 = .ok (.int r) M6) (hf : pr .idx M6 [.list ds, .int r] = some (.tup [.str T, l.d], M6)) :
    ∃ env, DP.execs C [.asg (.nm 7) (.call i__law_word_pairs [(.v 0), (.v 1), (.v 2), (.v 3)]), .asg (.tp [8, 5]) (.pr .idx [(.v 7), (.call i__law_pick [(.v 0), (.pr .len [(.v 7)])])]), .ret (.pr .tup [(.v 8), (.c (.str "form")), (.v 5)])] (fe k a b n q) M4 = .done (.rt (.tup [.str T, .str Wh.form.s, l.d])) env M6 := by
  exact ⟨_, by simp [e1, e, hf, Wh.s]; rfl⟩
theorem ft_5 {T : Str} {f : Frm} {m : Bool} {r r2 : Int} {ds : List D} (e1 : C i__law_form_pairs [.loc k, .str a, .str b, .str n] M4 = .ok (.list ds) M4) (e : C i__law_pick [.loc k, .int ds.length] M4 = .ok (.int r) M6) (hf : pr .idx M6 [.list ds, .int r] = some (.tup [.str T, f.d], M6))
    (hl : ∀ M, pr .list M [.str "row", .str "must"] = some (.list [.str "row", .str "must"], M)) (e2 : C i__law_pick [.loc k, .int 2] M6 = .ok (.int r2) M7) (hr : pr .idx M7 [.list [.str "row", .str "must"], .int r2] = some (.str (rowS m), M7))
    (h1 : pr .add M7 [.str (rowS m), .str " "] = some (.str (rowS m ++ " "), M7)) (h2 : pr .add M7 [.str (rowS m ++ " "), .str b] = some (.str (rowS m ++ " " ++ b), M7)) (h3 : pr .add M7 [.str (rowS m ++ " " ++ b), .str " : "] = some (.str (rowS m ++ " " ++ b ++ " : "), M7)) (h4 : pr .add M7 [.str (rowS m ++ " " ++ b ++ " : "), .str T] = some (.str (rowS m ++ " " ++ b ++ " : " ++ T), M7)) :
    ∃ env, DP.execs C [.asg (.nm 7) (.call i__law_form_pairs [(.v 0), (.v 1), (.v 2), (.v 3)]),
    .asg (.tp [8, 9]) (.pr .idx [(.v 7), (.call i__law_pick [(.v 0), (.pr .len [(.v 7)])])]),
    .asg (.nm 10) (.pr .idx [(.pr .list [(.c (.str "row")), (.c (.str "must"))]), (.call i__law_pick [(.v 0), (.c (.int (2)))])]),
    .ret (.pr .tup [(.pr .add [(.pr .add [(.pr .add [(.pr .add [(.v 10), (.c (.str " "))]), (.v 2)]), (.c (.str " : "))]), (.v 8)]), (.c (.str "form")), (.pr .tup [(.v 10), (.v 2), (.v 9)])])] (fe k a b n q) M4 = .done (.rt (.tup [.str (rowS m ++ " " ++ b ++ " : " ++ T), .str Wh.form.s, (Lin.frm m b f).d])) env M7 := by
  exact ⟨_, by simp [e1, e, hf, hl, e2, hr, h1, h2, h3, h4, Wh.s, Lin.d]; rfl⟩
end
end K01

namespace K01
open PySem PySem.Spec PyProof.Rows L2 DP
theorem at_mem {α : Type} {ds : List α} {r : Int} (h0 : 0 ≤ r) (h : r < ds.length) : ∃ d ∈ ds, atI ds r = some d := by
  obtain ⟨j, rfl⟩ := Int.eq_ofNat_of_zero_le h0
  have hj : j < ds.length := by
    have : (j : Int) < ds.length := h
    omega
  refine ⟨ds[j], List.getElem_mem hj, ?_⟩
  show atI ds (j : Int) = _
  rw [atI_nat]
  exact List.getElem?_eq_getElem hj
theorem small_n {r : Int} (h0 : 0 ≤ r) (h : r < 30) : (numS (r - 9)).length ≤ 2 := by
  obtain ⟨j, rfl⟩ := Int.eq_ofNat_of_zero_le h0
  have key : ∀ j ∈ List.range 30, (numS ((j : Int) - 9)).length ≤ 2 := by decide +kernel
  exact key j (List.mem_range.mpr (by
    have : (j : Int) < 30 := h
    omega))
theorem fin_of {M M' : Mem} {r : SRes} {d : D} (h : ∃ env, r = .done (.rt d) env M') (tr : ∀ d, trim M d M' = M') : fin M r = .ok d M' := by
  obtain ⟨env, rfl⟩ := h
  rw [fin_ret, tr]
theorem run_faulty {m k b : Nat} {M : Mem} (s : Src k b M) (hb : b < 800000000 - 200) :
    ∃ T w l M', DP.run fs (m + 5) i__law_faulty [.loc k] M = .ok (.tup [.str T, .str (Wh.s w), l.d]) M' ∧ Flt T w l ∧ Src k (b + 100) M' ∧ Keep k M M' := by
  obtain ⟨a, M1, e1, ha, s1, k1⟩ := run_dword (n := m + 1) s (by omega)
  obtain ⟨c, M2, e2, hc, s2, k2⟩ := run_dword (n := m + 1) s1 (by omega)
  obtain ⟨r, M3, e3, r0, r1, s3, k3⟩ := pick (n := m + 3) (m := 30) s2 (by omega) (by omega) (by omega)
  obtain ⟨q, M4, e4, q0, q8, s4, k4⟩ := pick (n := m + 3) (m := 8) s3 (by omega) (by omega) (by omega)
  have io : NumOk (r - 9) := small_ok (by omega) (by omega)
  have nl := small_n r0 r1
  have hn := pr_str_num (M := M3) io
  have nm := nm_of io
  have hd := fun R => ft_head (C := DP.run fs (m + 4)) (R := R) e1 e2 e3 hn e4
  have kk := ((k1.trans k2).trans k3).trans k4
  generalize hN : numS (r - 9) = n at *
  have hi : ∀ M, pr .int_ M [.str n] = some (.int (r - 9), M) := fun M => hN ▸ pr_int_num (M := M) io
  rw [run_at (d := ⟨1, 11, b__law_faulty⟩) rfl rfl]
  have done : ∀ {T w l M5}, (∃ env, DP.execs (DP.run fs (m + 4)) b__law_faulty [some (.loc k), none, none, none, none, none, none, none, none, none, none] M = .done (.rt (.tup [.str T, .str (Wh.s w), l.d])) env M5) → Flt T w l → Src k (b + 100) M5 → Keep k M4 M5 →
      ∃ T w l M', fin M (DP.execs (DP.run fs (m + 4)) b__law_faulty [some (.loc k), none, none, none, none, none, none, none, none, none, none] M) = .ok (.tup [.str T, .str (Wh.s w), l.d]) M' ∧ Flt T w l ∧ Src k (b + 100) M' ∧ Keep k M M' := by
    intro T w l M5 h f s5 k5
    have kx := kk.trans k5
    exact ⟨T, w, l, M5, fin_of h fun d => trim_len kx.ln, f, s5, kx⟩
  have sp : (" " : Str).length = 1 := rfl
  have lna := ha.ln
  have lnc := hc.ln
  by_cases q00 : q = 0
  · subst q00
    obtain ⟨p, M5, e5, p0, p1, s5, k5⟩ := pick (n := m + 3) (m := 4) s4 (by omega) (by omega) (by omega)
    obtain ⟨p, rfl⟩ := Int.eq_ofNat_of_zero_le p0
    refine done (w := .empty) (l := .close a) (T := cutS "   " none (some (p : Int))) ?_ (flt_empty ha (close_len ha)) (s5.mono (by omega)) k5
    rw [b__law_faulty, hd]
    exact ft_ret (by simp) (ft_0 e5 (slice_to (by decide)))
  by_cases q01 : q = 1
  · subst q01
    have o40 : NumOk 40 := ⟨by decide⟩
    have hL : (Lin.name a (r - 9) 40).Ok := ⟨ha, io, o40⟩
    have lt := name_len ha io o40
    have lt2 : (Lin.name a (r - 9) 40).t.length ≤ 799 := by
      have := num_len io; have := num_len o40
      rw [l_name]
      have e : ("name " : Str).length = 5 := rfl
      simp only [len_app]; omega
    obtain ⟨U, M5, e5, hU, s5, k5⟩ := run_wrong (m := m + 2) s4 (by omega) (lin_cl hL) (by omega)
    refine done (w := .sign) (l := .name a (r - 9) 40) (T := U) ?_ (flt_sign hU lt2 hL lt) (s5.mono (by omega)) k5
    rw [b__law_faulty, hd]
    exact ft_skip (by simp) (ft_ret (by simp) (ft_1 (hi M4) (run_line (n := m) hL) e5))
  by_cases q02 : q = 2
  · subst q02
    obtain ⟨p, M5, e5, p0, p1, s5, k5⟩ := pick (n := m + 3) (m := 10) s4 (by omega) (by omega) (by omega)
    obtain ⟨f, hf, ef⟩ := at_mem (ds := firsts a) p0 (by show p < 10; exact p1)
    obtain ⟨pf, lf, _⟩ := first_ok ha hf
    have ex : ("x" : Str).length = 1 := rfl
    refine done (w := .word) (l := .close a) (T := f ++ " " ++ a) ?_ (flt_first ha hf) (s5.mono (by omega)) k5
    have hat : atI ((firsts a).map D.str) p = some (.str f) := by
      obtain ⟨j, rfl⟩ := Int.eq_ofNat_of_zero_le p0
      have ef : atI (firsts a) (j : Int) = some f := ef
      show atI ((firsts a).map D.str) (j : Int) = _
      rw [atI_nat] at ef ⊢
      rw [List.getElem?_map, ef]; rfl
    rw [b__law_faulty, hd]
    exact ft_skip (by simp) (ft_skip (by simp) (ft_ret (by simp) (ft_2 (adds (by simp only [len_app]; omega)) (pr_list (by rw [sl_eq]; show 10 ≤ _; omega)) e5 (pr_idx_list hat) (adds (by simp only [len_app]; omega)) (adds (by simp only [len_app]; omega)))))
  by_cases q03 : q ≤ 4
  · obtain ⟨ds, M5, e5, hl, hP, s5, k5⟩ := run_wpairs (m := m + 1) s4 (by omega) ha hc nm nl
    obtain ⟨p, M6, e6, p0, p1, s6, k6⟩ := pick (n := m + 3) (m := ds.length) s5 (by omega) (by omega) (by omega)
    obtain ⟨d, hd1, hat⟩ := at_mem p0 p1
    obtain ⟨T, l, rfl, hB⟩ := hP d hd1
    refine done (w := .form) (l := l) (T := T) ?_ (flt_word hB) (s6.mono (by omega)) (k5.trans k6)
    rw [b__law_faulty, hd]
    exact ft_skip (by simp [q00]) (ft_skip (by simp [q01]) (ft_skip (by simp [q02]) (ft_ret (by simp [q03]) (ft_3 e5 e6 (pr_idx_list hat)))))
  · obtain ⟨ds, e5, hl, hP⟩ := run_fpairs (m := m + 3) (k := k) (M := M4) (a := a) (b := c) (n := n) (i := r - 9) ⟨ha, hc, nm, nl, io, hN.symm⟩
    obtain ⟨p, M6, e6, p0, p1, s6, k6⟩ := pick (n := m + 3) (m := ds.length) s4 (by omega) (by omega) (by omega)
    obtain ⟨d, hd1, hat⟩ := at_mem p0 p1
    obtain ⟨T, f, rfl, hB⟩ := hP d hd1
    obtain ⟨r2, M7, e7, a0, a1, s7, k7⟩ := pick (n := m + 3) (m := 2) s6 (by omega) (by omega) (by omega)
    obtain ⟨mm, hm⟩ : ∃ mm : Bool, atI [D.str "row", .str "must"] r2 = some (.str (rowS mm)) := by
      rcases (show r2 = 0 ∨ r2 = 1 by omega) with rfl | rfl
      · exact ⟨false, rfl⟩
      · exact ⟨true, rfl⟩
    have lT := hB.len
    have lr := rowS_len mm
    have sc : (" : " : Str).length = 3 := rfl
    refine done (w := .form) (l := .frm mm c f) (T := rowS mm ++ " " ++ c ++ " : " ++ T) ?_ (flt_form hB hc) (s7.mono (by omega)) (k6.trans k7)
    rw [b__law_faulty, hd]
    refine ft_skip (by simp [q00]) (ft_skip (by simp [q01]) (ft_skip (by simp [q02]) (ft_skip (by simp [q03]) (ft_5 e5 e6 (pr_idx_list hat) (fun M => pr_list (by rw [sl_eq]; show 2 ≤ _; omega)) e7 (pr_idx_list hm) ?_ ?_ ?_ ?_))))
    all_goals (refine adds ?_; simp only [len_app]; omega)
end K01

/-! reading a text, its fault told -/
namespace K01
open PySem PySem.Spec PyProof.Rows L2 DP
mutual
theorem below_sm {n : Nat} : ∀ {k : Nat} {d : D}, Sm k d → below n d = true
  | _, _, .int k i => rfl
  | _, _, .str k s h => rfl
  | _, _, .tup k xs h hl => by
    simp only [below]
    exact belows_sm xs h
theorem belows_sm {n : Nat} : ∀ {k : Nat} (xs : List D), (∀ x ∈ xs, Sm k x) → belows n xs = true
  | _, [], _ => rfl
  | k, x :: xs, h => by
    simp only [belows, Bool.and_eq_true]
    exact ⟨below_sm (h x List.mem_cons_self), belows_sm xs fun y m => h y (List.mem_cons_of_mem _ m)⟩
end
theorem lin_below {n : Nat} {ls : List Lin} (h : ∀ l ∈ ls, l.Ok) : belows n (ls.map Lin.d) = true := belows_sm (k := 5) _ fun d hd => by
  obtain ⟨l, hl, rfl⟩ := List.mem_map.mp hd
  exact lin_sm (h l hl)
theorem fz_lins {k : Nat} {M : Mem} : ∀ (ls : List Lin) (acc : List D), (ls.map Lin.d).foldl (fzF k) (some (acc, M)) = some (acc ++ ls.map Lin.d, M)
  | [], acc => by simp
  | l :: ls, acc => by
    have e : fzF k (some (acc, M)) l.d = some (acc ++ [l.d], M) := by
      cases k <;> cases l <;> rfl
    rw [List.map_cons, List.foldl_cons, e, fz_lins ls]
    simp
theorem run_read_lines {n : Nat} {M : Mem} {ls : List Lin} {x : Str} (h : TextOk (ls.map Lin.t)) (hx : TextOf (ls.map Lin.t) x) (h1 : ∀ l ∈ ls, l.Ok) :
    DP.run fs (n + 7) i_read_lines [.str x] M = .ok (.list (ls.map Lin.d)) M := by
  have h2 : ∀ l ∈ ls, l.t.length ≤ 800 := fun l hl => h.t _ (List.mem_map.mpr ⟨l, hl, rfl⟩)
  have hi := h.hi
  rw [List.length_map] at hi
  obtain ⟨b, c, e⟩ := rl_loop (n := n) (M := M) (a := some (.str x)) (ys := enumD 0 (ls.map (D.str ∘ Lin.t))) ls 0 [] none none h1 h2 (by simp; omega)
  have ht := fun M => run_textL (n := n + 5) (M := M) h hx
  rw [run_at (d := ⟨1, 4, b_read_lines⟩) rfl rfl]
  have hf : DP.exec (DP.run fs (n + 6)) (.for_ (.tp [2, 3]) .enum [(.call i_text_lines [(.v 0), (.c (.int (600))), (.c (.int (800)))])] rlB) [some (.str x), some (.loc M.length), none, none] (M ++ [.lst []]) = .done .nx [some (.str x), some (.loc M.length), b, c] (M ++ [.lst (ls.map Lin.d)]) := by
    rw [ex_for]
    have hs : evs (DP.run fs (n + 6)) [(.call i_text_lines [(.v 0), (.c (.int (600))), (.c (.int (800)))])] [some (.str x), some (.loc M.length), none, none] (M ++ [.lst []]) = .ok [.list (ls.map (D.str ∘ Lin.t))] (M ++ [.lst []]) := by
      simp [ht]
    rw [hs]
    simp only [Res.sb, walk_enum, walk_xs]
    rw [List.nil_append] at e
    exact e
  have hm : pr .listM M [] = some (.loc M.length, M ++ [.lst []]) := pr_listM (by rw [sl_eq]; exact Nat.zero_le _)
  have hc : (M ++ [Cell.lst (ls.map Lin.d)])[M.length]? = some (.lst (ls.map Lin.d)) := by rw [List.getElem?_append_right (Nat.le_refl _)]; simp
  have ef : pr .freeze (M ++ [.lst (ls.map Lin.d)]) [.loc M.length] = some (.list (ls.map Lin.d), M ++ [.dead]) := by
    show fz 4 (M ++ [.lst (ls.map Lin.d)]) (.loc M.length) = _
    have : fz 4 (M ++ [.lst (ls.map Lin.d)]) (.loc M.length) = (match (M ++ [Cell.lst (ls.map Lin.d)])[M.length]? with
          | some (.lst xs) => (xs.foldl (fzF 3) (some ([], (M ++ [Cell.lst (ls.map Lin.d)]).set M.length .dead))).map fun p => (D.list p.1, p.2)
          | _ => none) := rfl
    rw [this, hc]
    simp only [fz_lins, Option.map_some, List.nil_append]
    simp
  have tr : trim M (.list (ls.map Lin.d)) (M ++ [.dead]) = M := trim_new (by simp only [below]; exact lin_below h1)
  simp only [rlB] at hf
  simp [b_read_lines, hm, hf, ef, tr]
theorem isc_n {M : Mem} {ns : List Str} {ds : List D} : pr (.isC [] [0]) M [.err 0 ns ds] = some (.bl false, M) := rfl
theorem isc_y {M : Mem} {ns : List Str} {ds : List D} : pr (.isC [0] []) M [.err 0 ns ds] = some (.bl true, M) := rfl
abbrev errT (w : Str) (k : Int) : D := .err 0 ["what", "line"] [.str w, .int k]
theorem flt_skip {C : Nat → List D → Mem → Res D} {M : Mem} {w : Str} {k : Int} {x : Option D} {Bk R : List S} : DP.execs C (.ife (.pr (.isC [] [0]) [(.v 0)]) Bk [] :: R) [some (errT w k), x] M = DP.execs C R [some (errT w k), x] M := by
  simp [isc_n]
theorem flt_hit {C : Nat → List D → Mem → Res D} {M : Mem} {w : Str} {k : Int} {j : Nat} {R : List S} (hj : M[j]? = some (.lst [])) : DP.execs C (.ife (.pr (.isC [0] []) [(.v 0)]) [.ex (.meth .append "list" (.v 1) [(.pr .tup [(.c (.str "BadText")), (.pr (.fld "line") [(.v 0)]), (.pr (.fld "what") [(.v 0)])])])] [] :: R) [some (errT w k), some (.loc j)] M
    = DP.execs C R [some (errT w k), some (.loc j)] (M.set j (.lst [.tup [.str "BadText", .int k, .str w]])) := by
  have f1 : pr (.fld "line") M [errT w k] = some (.int k, M) := rfl
  have f2 : pr (.fld "what") M [errT w k] = some (.str w, M) := rfl
  have hty : (D.loc j).ty M = some "list" := ty_loc hj
  have ha := append_loc (d := .tup [.str "BadText", .int k, .str w]) hj (by rw [sl_eq]; exact Nat.zero_lt_succ _)
  rw [List.nil_append] at ha
  simp [isc_y, f1, f2, hty, ha]
theorem run_fault {n : Nat} {M : Mem} {w : Str} {k : Int} : DP.run fs (n + 1) i__law_fault [errT w k] M = .ok (.tup [.str "BadText", .int k, .str w]) M := by
  have hm : pr .listM M [] = some (.loc M.length, M ++ [.lst []]) := pr_listM (by rw [sl_eq]; exact Nat.zero_le _)
  have hc : (M ++ [Cell.lst []])[M.length]? = some (.lst []) := by rw [List.getElem?_append_right (Nat.le_refl _)]; simp
  have hs : (M ++ [Cell.lst []]).set M.length (.lst [.tup [.str "BadText", .int k, .str w]]) = M ++ [.lst [.tup [.str "BadText", .int k, .str w]]] := by simp
  have hc2 : (M ++ [Cell.lst [.tup [.str "BadText", .int k, .str w]]])[M.length]? = some (.lst [.tup [.str "BadText", .int k, .str w]]) := by rw [List.getElem?_append_right (Nat.le_refl _)]; simp
  have hix : pr .idx (M ++ [Cell.lst [.tup [.str "BadText", .int k, .str w]]]) [.loc M.length, .int 0] = some (.tup [.str "BadText", .int k, .str w], M ++ [Cell.lst [.tup [.str "BadText", .int k, .str w]]]) := ix3 hc2 0 rfl
  have hln : pr .len (M ++ [Cell.lst [.tup [.str "BadText", .int k, .str w]]]) [.loc M.length] = some (.int 1, M ++ [Cell.lst [.tup [.str "BadText", .int k, .str w]]]) := by
    show prLen _ [.loc M.length] = _
    simp [prLen, asSeq, asL]
  have tr : trim M (.tup [.str "BadText", .int k, .str w]) (M ++ [Cell.lst [.tup [.str "BadText", .int k, .str w]]]) = M := trim_new rfl
  rw [run_at (d := ⟨1, 2, b__law_fault⟩) rfl rfl]
  show fin M (DP.execs _ b__law_fault [some (errT w k), none] M) = _
  have h0 : ∀ R, DP.execs (DP.run fs n) (.asg (.nm 1) (.pr .listM []) :: R) [some (errT w k), none] M = DP.execs (DP.run fs n) R [some (errT w k), some (.loc M.length)] (M ++ [.lst []]) := fun R => by simp [hm]
  rw [b__law_fault, h0, flt_skip, flt_hit hc, hs]
  repeat rw [flt_skip]
  simp [isc_y, hln, hix, tr]
theorem run_read_ok {n : Nat} {M : Mem} {ls : List Lin} {x : Str} (h : TextOk (ls.map Lin.t)) (hx : TextOf (ls.map Lin.t) x) (h1 : ∀ l ∈ ls, l.Ok) :
    DP.run fs (n + 8) i__law_read [.str x] M = .ok (.tup [.str "lines", .list (ls.map Lin.d)]) M := by
  have e := run_read_lines (n := n) (M := M) h hx h1
  rw [run_at (d := ⟨1, 3, b__law_read⟩) rfl rfl]
  simp [b__law_read, e]
theorem run_read_bad {n : Nat} {M : Mem} {ls : List Lin} {T w x : Str} {rest : List Str} (hT : ∀ k M, DP.run fs (n + 6) i_read_line [.str T, .int k] M = .exc (badT k w) M) (h : TextOk (ls.map Lin.t ++ T :: rest)) (hx : TextOf (ls.map Lin.t ++ T :: rest) x) (h1 : ∀ l ∈ ls, l.Ok) :
    DP.run fs (n + 8) i__law_read [.str x] M = .ok (.tup [.str "raised", .tup [.str "BadText", .int ((ls.length : Int) + 1), .str w]]) M := by
  obtain ⟨c, e⟩ := run_lines_bad (M := M) hT h hx h1
  have f := run_fault (n := n + 6) (M := M ++ [c]) (w := w) (k := (ls.length : Int) + 1)
  have tr : trim M (.tup [.str "raised", .tup [.str "BadText", .int ((ls.length : Int) + 1), .str w]]) (M ++ [c]) = M := trim_new rfl
  rw [run_at (d := ⟨1, 3, b__law_read⟩) rfl rfl]
  simp [b__law_read, e, badT, f, tr]
end K01

/-! one turn of the law -/
namespace K01
open PySem PySem.Spec PyProof.Rows L2 DP
theorem pr_slice_hi {M : Mem} {xs : List D} {p : Nat} : pr (.slice false true) M [.list xs, .int p] = some (.list (xs.take p), M) := by
  show slc M none (some (p : Int)) (.list xs) = _
  simp only [slc, asL, DP.cutD, HT.sIx_none, HT.sIx_nat, Nat.sub_zero, List.drop_zero]
  congr 3
  rw [List.take_eq_take_iff]
  simp
theorem pr_slice_lo1 {M : Mem} {xs : List D} {p : Nat} : pr (.slice true false) M [.list xs, .int ((p : Int) + 1)] = some (.list (xs.drop (p + 1)), M) := pr_slice_lo (k := p + 1)
theorem add_list {M : Mem} {xs ys : List D} (h : xs.length + ys.length ≤ 1000) : pr .add M [.list xs, .list ys] = some (.list (xs ++ ys), M) := by
  show prAdd M [.list xs, .list ys] = _
  simp only [prAdd, asLL, asL]
  rw [if_pos (by rw [sl_eq]; omega)]
theorem join_nl {M : Mem} {xs : List Str} (h : TextOk xs) : pr .join M [.str "\n", .list (xs.map .str)] = some (.str (joinN xs), M) := by
  have e : ("\n" : Str).length = 1 := rfl
  have := joinSize_le (s := "\n") (k := 800) h.t
  rw [e] at this
  have := h.hi
  rw [pr_join (by omega), TL.join_eq]; rfl
theorem add_nl {M : Mem} {xs : List Str} (h : TextOk xs) : pr .add M [.str (joinN xs), .str "\n"] = some (.str (joinN xs ++ "\n"), M) :=
  pr_adds (by have := h.len; have e : ("\n" : Str).length = 1 := rfl; rw [sl_eq]; omega)
theorem textOk_of {xs : List Str} {T : Str} {p : Nat} (h : TextOk xs) (hp : p < xs.length) (hc : ∀ c ∈ TL.tl T, c < 1000 ∧ c ≠ 10) (hl : T.length ≤ 800) : TextOk (xs.take p ++ T :: xs.drop (p + 1)) := by
  have hm : ∀ s ∈ xs.take p ++ T :: xs.drop (p + 1), s ∈ xs ∨ s = T := fun s hs => by
    rcases List.mem_append.mp hs with q | q
    · exact .inl (List.mem_of_mem_take q)
    · rcases List.mem_cons.mp q with q | q
      · exact .inr q
      · exact .inl (List.mem_of_mem_drop q)
  have hi := h.hi
  refine ⟨fun s hs => ?_, fun s hs => ?_, by simp; omega, ?_⟩
  · rcases hm s hs with q | rfl
    · exact h.c s q
    · exact hc
  · rcases hm s hs with q | rfl
    · exact h.t s q
    · exact hl
  · simp only [List.length_append, List.length_take, List.length_cons, List.length_drop]; omega
theorem textOk_snoc {xs : List Str} {T : Str} (h : TextOk xs) (hn : xs.length ≤ 500) (hc : ∀ c ∈ TL.tl T, c < 1000 ∧ c ≠ 10) (hl : T.length ≤ 800) : TextOk (xs ++ [T]) := by
  refine ⟨fun s hs => ?_, fun s hs => ?_, by simp, by simp; omega⟩
  · rcases List.mem_append.mp hs with q | q
    · exact h.c s q
    · rw [List.mem_singleton.mp q]; exact hc
  · rcases List.mem_append.mp hs with q | q
    · exact h.t s q
    · rw [List.mem_singleton.mp q]; exact hl
theorem same_pair {m : Nat} {M : Mem} {x : Str} {xs : List D} {k : Nat} (hx : PyData.strOk x = true) (h : ∀ d ∈ xs, Sm k d) (hl : xs.length ≤ 10000) : DP.run fs (m + k + 3) i__law_same [.tup [.str x, .list xs], .tup [.str x, .list xs]] M = .ok (.bl true) M := by
  refine @same_seq M (m + k + 2) (.tup [.str x, .list xs]) (.tup [.str x, .list xs]) [.str x, .list xs] "tuple" (.inr rfl) rfl rfl pr_len_tup pr_len_tup
      (fun j hj => pr_idx_tup (by rw [atI_nat]; simp [hj])) (fun j hj => pr_idx_tup (by rw [atI_nat]; simp [hj])) (fun j hj => ?_) rfl rfl (by simp)
  have hj : j < 2 := hj
  match j, hj with
  | 0, _ => exact same_str hx
  | 1, _ => exact same_list h hl
abbrev te (a s ls rows line w t p T wh due bad later both near : Option D) : DP.Env := [a, s, ls, rows, line, w, t, p, T, wh, due, bad, later, both, near]
section
variable {C : Nat → List D → Mem → Res D} {M M1 M2 M3 : Mem} {a s ls rows line w t p T wh due bad later both near : Option D}
theorem tn_1 {R : List S} {q : Nat} {rs : List D} {X : Str} {v l : D} {B1 B : List D} (e1 : C i__law_faulty [.loc 1] M = .ok (.tup [.str X, v, l]) M1)
    (hs : ∀ M, pr (.slice false true) M [.list rs, .int q] = some (.list B1, M)) (hs2 : ∀ M, pr (.slice true false) M [.list rs, .int ((q : Int) + 1)] = some (.list (rs.drop (q + 1)), M)) (a1 : ∀ M, pr .add M [.list B1, .list [.str X]] = some (.list (B1 ++ [.str X]), M)) (a2 : ∀ M, pr .add M [.list (B1 ++ [.str X]), .list (rs.drop (q + 1))] = some (.list B, M)) :
    DP.execs C (.asg (.tp [8, 9, 4]) (.call i__law_faulty [(.v 5)]) :: .asg (.nm 10) (.pr .tup [(.c (.str "raised")), (.pr .tup [(.c (.str "BadText")), (.pr .add [(.v 7), (.c (.int (1)))]), (.v 9)])]) :: .asg (.nm 11) (.pr .add [(.pr .add [(.pr (.slice false true) [(.v 3), (.v 7)]), (.pr .list [(.v 8)])]), (.pr (.slice true false) [(.v 3), (.pr .add [(.v 7), (.c (.int (1)))])])]) :: R)
      (te a s ls (some (.list rs)) line (some (.loc 1)) t (some (.int q)) T wh due bad later both near) M
    = DP.execs C R (te a s ls (some (.list rs)) (some l) (some (.loc 1)) t (some (.int q)) (some (.str X)) (some v) (some (.tup [.str "raised", .tup [.str "BadText", .int ((q : Int) + 1), v]])) (some (.list B)) later both near) M1 := by
  simp [e1, hs, hs2, a1, a2, list_one]
theorem tn_2 {R B0 : List S} {B : List D} {X : Str} {u d : D} (hj : pr .join M [.str "\n", .list B] = some (.str X, M)) (ha : pr .add M [.str X, .str "\n"] = some (.str (X ++ "\n"), M)) (hr : C i__law_read [.str (X ++ "\n")] M = .ok u M) (hq : C i__law_same [u, d] M = .ok (.bl true) M) :
    DP.execs C (.ife (.pr .not_ [(.call i__law_same [(.call i__law_read [(.pr .add [(.meth .join "str" (.c (.str "\n")) [(.v 11)]), (.c (.str "\n"))])]), (.v 10)])]) B0 [] :: R) (te a s ls rows line w t p T wh (some d) (some (.list B)) later both near) M
    = DP.execs C R (te a s ls rows line w t p T wh (some d) (some (.list B)) later both near) M := by
  simp [hj, ha, hr, hq]
theorem tn_3 {R B0 : List S} {B B2 : List D} {X X2 : Str} {u d v l : D} (e1 : C i__law_faulty [.loc 1] M = .ok (.tup [.str X2, v, l]) M1) (a1 : pr .add M1 [.list B, .list [.str X2]] = some (.list B2, M1)) (hj : pr .join M1 [.str "\n", .list B2] = some (.str X, M1)) (ha : pr .add M1 [.str X, .str "\n"] = some (.str (X ++ "\n"), M1)) (hr : C i__law_read [.str (X ++ "\n")] M1 = .ok u M1) (hq : C i__law_same [u, d] M1 = .ok (.bl true) M1) :
    DP.execs C (.asg (.nm 12) (.pr .add [(.v 11), (.pr .list [(.pr .idx [(.call i__law_faulty [(.v 5)]), (.c (.int (0)))])])]) :: .ife (.pr .not_ [(.call i__law_same [(.call i__law_read [(.pr .add [(.meth .join "str" (.c (.str "\n")) [(.v 12)]), (.c (.str "\n"))])]), (.v 10)])]) B0 [] :: R) (te a s ls rows line (some (.loc 1)) t p T wh (some d) (some (.list B)) later both near) M
    = DP.execs C R (te a s ls rows line (some (.loc 1)) t p T wh (some d) (some (.list B)) (some (.list B2)) both near) M1 := by
  simp [e1, a1, hj, ha, hr, hq, list_one]
theorem tn_4a {R B0 : List S} {X v : Str} {b1 : Bool} (hn : pr .ne M [.str X, .str ""] = some (.bl b1, M)) (hi : pr .in_ M [.str v, .tup [.str "word", .str "form"]] = some (.bl false, M)) :
    DP.execs C (.ife (.and_ (.pr .ne [(.v 8), (.c (.str ""))]) (.pr .in_ [(.v 9), (.pr .tup [(.c (.str "word")), (.c (.str "form"))])])) B0 [] :: R) (te a s ls rows line w t p (some (.str X)) (some (.str v)) due bad later both near) M
    = DP.execs C R (te a s ls rows line w t p (some (.str X)) (some (.str v)) due bad later both near) M := by
  cases b1 <;> simp [hn, hi]
theorem tn_4b {R B0 : List S} {X v U Y : Str} {q : Nat} {rs B1 B : List D} {u : D} (hn : pr .ne M [.str X, .str ""] = some (.bl true, M)) (hi : pr .in_ M [.str v, .tup [.str "word", .str "form"]] = some (.bl true, M)) (e1 : C i__law_wrong_sign [.loc 1, .str X] M = .ok (.str U) M1)
    (hs : ∀ M, pr (.slice false true) M [.list rs, .int q] = some (.list B1, M)) (hs2 : ∀ M, pr (.slice true false) M [.list rs, .int ((q : Int) + 1)] = some (.list (rs.drop (q + 1)), M)) (a1 : ∀ M, pr .add M [.list B1, .list [.str U]] = some (.list (B1 ++ [.str U]), M)) (a2 : ∀ M, pr .add M [.list (B1 ++ [.str U]), .list (rs.drop (q + 1))] = some (.list B, M))
    (hj : pr .join M1 [.str "\n", .list B] = some (.str Y, M1)) (hr : C i__law_read [.str Y] M1 = .ok u M1) (hq : C i__law_same [u, .tup [.str "raised", .tup [.str "BadText", .int ((q : Int) + 1), .str "sign"]]] M1 = .ok (.bl true) M1) :
    DP.execs C (.ife (.and_ (.pr .ne [(.v 8), (.c (.str ""))]) (.pr .in_ [(.v 9), (.pr .tup [(.c (.str "word")), (.c (.str "form"))])])) [.asg (.nm 13) (.pr .add [(.pr .add [(.pr (.slice false true) [(.v 3), (.v 7)]), (.pr .list [(.call i__law_wrong_sign [(.v 5), (.v 8)])])]), (.pr (.slice true false) [(.v 3), (.pr .add [(.v 7), (.c (.int (1)))])])]), .ife (.pr .not_ [(.call i__law_same [(.call i__law_read [(.meth .join "str" (.c (.str "\n")) [(.v 13)])]), (.pr .tup [(.c (.str "raised")), (.pr .tup [(.c (.str "BadText")), (.pr .add [(.v 7), (.c (.int (1)))]), (.c (.str "sign"))])])])]) B0 []] [] :: R) (te a s ls (some (.list rs)) line (some (.loc 1)) t (some (.int q)) (some (.str X)) (some (.str v)) due bad later both near) M
    = DP.execs C R (te a s ls (some (.list rs)) line (some (.loc 1)) t (some (.int q)) (some (.str X)) (some (.str v)) due bad later (some (.list B)) near) M1 := by
  simp [hn, hi, e1, hs, hs2, a1, a2, hj, hr, hq, list_one]
theorem tn_5 {B0 : List S} {L Y : Str} {q : Nat} {rs ds B1 B E1 E2 : List D} {u l : D} (e1 : ∀ M, C i__law_line [l] M = .ok (.str L) M)
    (hs : ∀ M, pr (.slice false true) M [.list rs, .int q] = some (.list B1, M)) (hs2 : ∀ M, pr (.slice true false) M [.list rs, .int ((q : Int) + 1)] = some (.list (rs.drop (q + 1)), M)) (a1 : ∀ M, pr .add M [.list B1, .list [.str L]] = some (.list (B1 ++ [.str L]), M)) (a2 : ∀ M, pr .add M [.list (B1 ++ [.str L]), .list (rs.drop (q + 1))] = some (.list B, M))
    (hj : pr .join M [.str "\n", .list B] = some (.str Y, M)) (hr : C i__law_read [.str Y] M = .ok u M)
    (gs : ∀ M, pr (.slice false true) M [.list ds, .int q] = some (.list E1, M)) (gs2 : ∀ M, pr (.slice true false) M [.list ds, .int ((q : Int) + 1)] = some (.list (ds.drop (q + 1)), M)) (b1 : ∀ M, pr .add M [.list E1, .list [l]] = some (.list (E1 ++ [l]), M)) (b2 : ∀ M, pr .add M [.list (E1 ++ [l]), .list (ds.drop (q + 1))] = some (.list E2, M))
    (hq : C i__law_same [u, .tup [.str "lines", .list E2]] M = .ok (.bl true) M) :
    DP.execs C [.asg (.nm 14) (.meth .join "str" (.c (.str "\n")) [(.pr .add [(.pr .add [(.pr (.slice false true) [(.v 3), (.v 7)]), (.pr .list [(.call i__law_line [(.v 4)])])]), (.pr (.slice true false) [(.v 3), (.pr .add [(.v 7), (.c (.int (1)))])])])]), .ife (.pr .not_ [(.call i__law_same [(.call i__law_read [(.v 14)]), (.pr .tup [(.c (.str "lines")), (.pr .add [(.pr .add [(.pr (.slice false true) [(.v 2), (.v 7)]), (.pr .list [(.v 4)])]), (.pr (.slice true false) [(.v 2), (.pr .add [(.v 7), (.c (.int (1)))])])])])])]) B0 []] (te a s (some (.list ds)) (some (.list rs)) (some l) w t (some (.int q)) T wh due bad later both near) M
    = .done .nx (te a s (some (.list ds)) (some (.list rs)) (some l) w t (some (.int q)) T wh due bad later both (some (.str Y))) M := by
  simp [e1, hs, hs2, a1, a2, hj, hr, gs, gs2, b1, b2, hq, list_one]
end
end K01

namespace K01
open PySem PySem.Spec PyProof.Rows L2 DP
structure Gd (ls : List Lin) : Prop where
  l : ∀ l ∈ ls, l.Ok
  t : ∀ l ∈ ls, l.t.length ≤ 800
  lo : 1 ≤ ls.length
  hi : ls.length ≤ 20
theorem rows_ok {ls : List Lin} (h : Gd ls) : TextOk (ls.map Lin.t) := by
  refine ⟨fun s hs => ?_, fun s hs => ?_, by simpa using h.lo, by have := h.hi; simp; omega⟩
  · obtain ⟨l, hl, rfl⟩ := List.mem_map.mp hs
    exact (lin_cl (h.l l hl)).s
  · obtain ⟨l, hl, rfl⟩ := List.mem_map.mp hs
    exact h.t l hl
theorem lin_tne {l : Lin} (h : l.Ok) : TL.tl l.t ≠ [] := by
  obtain ⟨c, hc, _⟩ := (lin_cl h).ne
  intro e; rw [e] at hc; cases hc
theorem tn_0 {C : Nat → List D → Mem → Res D} {M M2 : Mem} {a s ls rows line w t p T wh due bad later both near : Option D} {R : List S} {X : E} {d : D}
    (h : ev C X (te a s ls rows line w t p T wh due bad later both near) M = .ok d M2) :
    DP.execs C (.asg (.nm 7) X :: R) (te a s ls rows line w t p T wh due bad later both near) M
    = DP.execs C R (te a s ls rows line w t (some d) T wh due bad later both near) M2 := by
  simp [h]
def tB : List S := match b_law with
  | [_, _, _, _, .for_ _ _ _ B, _] => B
  | _ => []
theorem wh_ok (w : Wh) : PyData.strOk w.s = true := by cases w <;> exact strOk_lit rfl
theorem wh_in {M : Mem} (w : Wh) : pr .in_ M [.str w.s, .tup [.str "word", .str "form"]] = some (.bl w.w, M) := by
  have key : ∀ a : String, (a.toList.all fun c => decide (c.toNat < 1000)) = true → pr .in_ M [.str (Str.ofString a), .tup [.str "word", .str "form"]] = some (.bl (decide (a ∈ ["word", "form"])), M) := fun a h => lit_in a ["word", "form"] h (by simp)
  cases w
  · exact (key "empty" rfl).trans (by simp; rfl)
  · exact (key "sign" rfl).trans (by simp; rfl)
  · exact (key "word" rfl).trans (by simp; rfl)
  · exact (key "form" rfl).trans (by simp; rfl)
theorem turn_at {m b : Nat} {M : Mem} {a s ls line t p T wh due bad later both near : Option D} {rs : List D} (h1 : 1 ≤ rs.length) (h2 : rs.length ≤ 1000) (s0 : Src 1 b M) (hb : b < 800000000) :
    ∃ q M2, ev (DP.run fs (m + 1)) (.ite (.pr .eq [(.call i__law_pick [(.v 5), (.c (.int (3)))]), (.c (.int (0)))]) (.pr .sub [(.pr .len [(.v 3)]), (.c (.int (1)))]) (.call i__law_pick [(.v 5), (.pr .len [(.v 3)])])) (te a s ls (some (.list rs)) line (some (.loc 1)) t p T wh due bad later both near) M = .ok (.int ((q : Nat) : Int)) M2 ∧ q < rs.length ∧ Src 1 (b + 2) M2 ∧ Keep 1 M M2 := by
  obtain ⟨r, M1, e1, r0, r1, s1, k1⟩ := pick (n := m) (m := 3) s0 (by omega) (by omega) (by omega)
  have hl := fun M => pr_len_list (M := M) (xs := rs)
  by_cases q : r = 0
  · refine ⟨rs.length - 1, M1, ?_, by omega, s1.mono (by omega), k1⟩
    have e : ((rs.length - 1 : Nat) : Int) = rs.length - 1 := by omega
    simp [e1, q, hl, e]
  · obtain ⟨r2, M2, e2, a0, a1, s2, k2⟩ := pick (n := m) (m := rs.length) s1 (by omega) (by omega) (by omega)
    obtain ⟨j, rfl⟩ := Int.eq_ofNat_of_zero_le a0
    refine ⟨j, M2, ?_, by have : (j : Int) < rs.length := a1; omega, s2.mono (by omega), k1.trans k2⟩
    simp [e1, q, hl, e2]
theorem sm_due {q : Int} {w : Str} (hw : PyData.strOk w = true) : Sm 2 (.tup [.str "raised", .tup [.str "BadText", .int q, .str w]]) := by
  refine .tup 1 _ (fun x hx => ?_) (by simp)
  simp only [List.mem_cons, List.not_mem_nil, or_false] at hx
  rcases hx with rfl | rfl
  · exact .str 1 _ (strOk_lit rfl)
  · refine .tup 0 _ (fun x hx => ?_) (by simp)
    simp only [List.mem_cons, List.not_mem_nil, or_false] at hx
    rcases hx with rfl | rfl | rfl
    · exact .str 0 _ (strOk_lit rfl)
    · exact .int 0 _
    · exact .str 0 _ hw
theorem rep_map {α : Type} {f : α → D} {xs : List α} {x : α} {q : Nat} : (xs.map f).take q ++ [f x] ++ (xs.map f).drop (q + 1) = (xs.take q ++ x :: xs.drop (q + 1)).map f := by
  simp [List.map_take, List.map_drop]
theorem run_turn {b : Nat} {M : Mem} {ls : List Lin} {a line t p T wh due bad later both near : Option D} (g : Gd ls) (s0 : Src 1 b M) (hb : b < 700000000) :
    ∃ line' p' T' wh' due' bad' later' both' near' M', DP.execs (DP.run fs 19) tB (te a (some (.loc 0)) (some (.list (ls.map Lin.d))) (some (.list ((ls.map Lin.t).map .str))) line (some (.loc 1)) t p T wh due bad later both near) M
      = .done .nx (te a (some (.loc 0)) (some (.list (ls.map Lin.d))) (some (.list ((ls.map Lin.t).map .str))) line' (some (.loc 1)) t p' T' wh' due' bad' later' both' near') M' ∧ Src 1 (b + 300) M' ∧ Keep 1 M M' := by
  have rok := rows_ok g
  have glo := g.lo
  have ghi := g.hi
  generalize hR : ls.map Lin.t = rows at *
  have lR : rows.length = ls.length := by rw [← hR]; simp
  obtain ⟨q, M2, e0, hq, s2, k2⟩ := turn_at (m := 18) (a := a) (s := some (.loc 0)) (ls := some (.list (ls.map Lin.d))) (line := line) (t := t) (p := p) (T := T) (wh := wh) (due := due) (bad := bad) (later := later) (both := both) (near := near) (rs := rows.map .str) (by simp; omega) (by simp; omega) s0 (by omega)
  rw [List.length_map] at hq
  obtain ⟨X, w, l, M3, e1, hF, s3, k3⟩ := run_faulty (m := 14) s2 (by omega)
  obtain ⟨X2, w2, l2, M4, e2, hF2, s4, k4⟩ := run_faulty (m := 14) s3 (by omega)
  have hs : ∀ M, pr (.slice false true) M [.list (rows.map .str), .int q] = some (.list ((rows.map .str).take q), M) := fun M => pr_slice_hi
  have hs2 : ∀ M, pr (.slice true false) M [.list (rows.map .str), .int ((q : Int) + 1)] = some (.list ((rows.map .str).drop (q + 1)), M) := fun M => pr_slice_lo1
  have gs : ∀ M, pr (.slice false true) M [.list (ls.map Lin.d), .int q] = some (.list ((ls.map Lin.d).take q), M) := fun M => pr_slice_hi
  have gs2 : ∀ M, pr (.slice true false) M [.list (ls.map Lin.d), .int ((q : Int) + 1)] = some (.list ((ls.map Lin.d).drop (q + 1)), M) := fun M => pr_slice_lo1
  have a1 : ∀ (Y : Str) M, pr .add M [.list ((rows.map .str).take q), .list [.str Y]] = some (.list ((rows.map .str).take q ++ [.str Y]), M) := fun Y M => add_list (by simp; omega)
  have a2 : ∀ (Y : Str) M, pr .add M [.list ((rows.map .str).take q ++ [.str Y]), .list ((rows.map .str).drop (q + 1))] = some (.list ((rows.take q ++ Y :: rows.drop (q + 1)).map .str), M) := fun Y M => by
    rw [← rep_map]
    exact add_list (by simp; omega)
  have b1 : ∀ (d : D) M, pr .add M [.list ((ls.map Lin.d).take q), .list [d]] = some (.list ((ls.map Lin.d).take q ++ [d]), M) := fun Y M => add_list (by simp; omega)
  have b2 : ∀ (l : Lin) M, pr .add M [.list ((ls.map Lin.d).take q ++ [l.d]), .list ((ls.map Lin.d).drop (q + 1))] = some (.list ((ls.take q ++ l :: ls.drop (q + 1)).map Lin.d), M) := fun l M => by
    rw [← rep_map]
    exact add_list (by simp; omega)
  have hok : ∀ l ∈ ls.take q, l.Ok := fun l h => g.l l (List.mem_of_mem_take h)
  have lt : (ls.take q).length = q := by rw [List.length_take]; omega
  have eT : rows.take q = (ls.take q).map Lin.t := by rw [← hR, List.map_take]
  -- the bad text
  have B1 := textOk_of rok hq hF.c hF.len
  have T1 := textOf_nl B1
  have lB : (rows.take q ++ X :: rows.drop (q + 1)).length ≤ 20 := by simp; omega
  have r1 : ∀ M, DP.run fs 19 i__law_read [.str (joinN (rows.take q ++ X :: rows.drop (q + 1)) ++ "\n")] M = .ok (.tup [.str "raised", .tup [.str "BadText", .int ((q : Int) + 1), .str w.s]]) M := fun M => by
    rw [eT] at B1 T1 ⊢
    have := run_read_bad (n := 11) (M := M) (hF.bad 11) B1 T1 hok
    rw [lt] at this
    exact this
  -- and a second fault behind it
  have B2 := textOk_snoc B1 (by omega) hF2.c hF2.len
  have T2 := textOf_nl B2
  have r2 : ∀ M, DP.run fs 19 i__law_read [.str (joinN (rows.take q ++ X :: rows.drop (q + 1) ++ [X2]) ++ "\n")] M = .ok (.tup [.str "raised", .tup [.str "BadText", .int ((q : Int) + 1), .str w.s]]) M := fun M => by
    rw [eT, List.append_assoc, List.cons_append] at B2 T2 ⊢
    have := run_read_bad (n := 11) (M := M) (hF.bad 11) B2 T2 hok
    rw [lt] at this
    exact this
  have sd : ∀ M, DP.run fs 19 i__law_same [.tup [.str "raised", .tup [.str "BadText", .int ((q : Int) + 1), .str w.s]], .tup [.str "raised", .tup [.str "BadText", .int ((q : Int) + 1), .str w.s]]] M = .ok (.bl true) M := fun M => same_sm 2 (sm_due (wh_ok w)) 16
  have sd2 : ∀ M, DP.run fs 19 i__law_same [.tup [.str "raised", .tup [.str "BadText", .int ((q : Int) + 1), .str "sign"]], .tup [.str "raised", .tup [.str "BadText", .int ((q : Int) + 1), .str "sign"]]] M = .ok (.bl true) M := fun M => same_sm 2 (sm_due (strOk_lit rfl)) 16
  have al : ∀ M, pr .add M [.list ((rows.take q ++ X :: rows.drop (q + 1)).map .str), .list [.str X2]] = some (.list ((rows.take q ++ X :: rows.drop (q + 1) ++ [X2]).map .str), M) := fun M => by
    rw [List.map_append (l₂ := [X2])]
    exact add_list (by rw [List.length_map]; simp only [List.length_singleton]; omega)
  -- the near text
  have nok : ∀ x ∈ ls.take q ++ l :: ls.drop (q + 1), x.Ok := fun x hx => by
    rcases List.mem_append.mp hx with h | h
    · exact hok x h
    · rcases List.mem_cons.mp h with h | h
      · rw [h]; exact hF.ok
      · exact g.l x (List.mem_of_mem_drop h)
  have eN : rows.take q ++ l.t :: rows.drop (q + 1) = (ls.take q ++ l :: ls.drop (q + 1)).map Lin.t := by
    rw [← hR]; simp [List.map_take, List.map_drop]
  have B3 := textOk_of rok hq (lin_cl hF.ok).s hF.lt
  have T3 : TextOf (rows.take q ++ l.t :: rows.drop (q + 1)) (joinN (rows.take q ++ l.t :: rows.drop (q + 1))) := textOf_no B3 fun s hs => by
    rw [eN] at hs
    obtain ⟨x, hx, rfl⟩ := List.mem_map.mp (List.mem_of_getLast? hs)
    exact lin_tne (nok x hx)
  have r3 : ∀ M, DP.run fs 19 i__law_read [.str (joinN (rows.take q ++ l.t :: rows.drop (q + 1)))] M = .ok (.tup [.str "lines", .list ((ls.take q ++ l :: ls.drop (q + 1)).map Lin.d)]) M := fun M => by
    rw [eN] at B3 T3 ⊢
    exact run_read_ok (n := 11) B3 T3 nok
  have sn : ∀ M, DP.run fs 19 i__law_same [.tup [.str "lines", .list ((ls.take q ++ l :: ls.drop (q + 1)).map Lin.d)], .tup [.str "lines", .list ((ls.take q ++ l :: ls.drop (q + 1)).map Lin.d)]] M = .ok (.bl true) M := fun M =>
    same_pair (m := 11) (k := 5) (strOk_lit rfl) (fun d hd => by
      obtain ⟨x, hx, rfl⟩ := List.mem_map.mp hd
      exact lin_sm (nok x hx)) (by simp; omega)
  have hne : ∀ M, pr .ne M [.str X, .str ""] = some (.bl (!decide (X = "")), M) := fun M => pr_ne_str (strOk_of fun c hc => (hF.c c hc).1) (strOk_lit rfl)
  have hwi : ∀ M, pr .in_ M [.str w.s, .tup [.str "word", .str "form"]] = some (.bl w.w, M) := fun M => wh_in w
  have hline : ∀ M, DP.run fs 19 i__law_line [l.d] M = .ok (.str l.t) M := fun M => run_line (n := 15) hF.ok
  have j1 := fun M => join_nl (M := M) B1
  have j2 := fun M => join_nl (M := M) B2
  have j3 := fun M => join_nl (M := M) B3
  have n1 := fun M => add_nl (M := M) B1
  have n2 := fun M => add_nl (M := M) B2
  have kk := (k2.trans k3).trans k4
  simp only [tB, b_law]
  rw [tn_0 e0, tn_1 e1 hs hs2 (a1 X) (a2 X), tn_2 (j1 _) (n1 _) (r1 _) (sd _), tn_3 e2 (al _) (j2 _) (n2 _) (r2 _) (sd _)]
  cases hw : w.w with
  | false =>
    rw [hw] at hwi
    rw [tn_4a (hne _) (hwi _), tn_5 hline hs hs2 (a1 l.t) (a2 l.t) (j3 _) (r3 _) gs gs2 (b1 l.d) (b2 l) (sn _)]
    exact ⟨_, _, _, _, _, _, _, _, _, _, rfl, s4.mono (by omega), kk⟩
  | true =>
    rw [hw] at hwi
    obtain ⟨cX, lX⟩ := hF.cl hw
    have hX : X ≠ "" := by
      rintro rfl
      obtain ⟨c, hc, _⟩ := cX.ne
      cases hc
    obtain ⟨U, M5, e5, hU, s5, k5⟩ := run_wrong (m := 17) s4 (by omega) cX (by omega)
    have B4 := textOk_of rok hq hU.c (by have := hU.l; omega)
    have T4 : TextOf (rows.take q ++ U :: rows.drop (q + 1)) (joinN (rows.take q ++ U :: rows.drop (q + 1))) := textOf_no B4 fun s hs => by
      rcases List.mem_append.mp (List.mem_of_getLast? hs) with h | h
      · rw [eT] at h
        obtain ⟨x, hx, rfl⟩ := List.mem_map.mp h
        exact lin_tne (hok x hx)
      · rcases List.mem_cons.mp h with h | h
        · rw [h]
          obtain ⟨c, hc, _⟩ := hU.b.ne
          intro e; rw [e] at hc; cases hc
        · rw [← hR] at h
          obtain ⟨x, hx, rfl⟩ := List.mem_map.mp (List.mem_of_mem_drop h)
          exact lin_tne (g.l x hx)
    have r4 : ∀ M, DP.run fs 19 i__law_read [.str (joinN (rows.take q ++ U :: rows.drop (q + 1)))] M = .ok (.tup [.str "raised", .tup [.str "BadText", .int ((q : Int) + 1), .str "sign"]]) M := fun M => by
      have hb : ∀ k M, DP.run fs (11 + 6) i_read_line [.str U, .int k] M = .exc (badT k "sign") M := fun k M => run_rl_sign hU.b (by have := hU.l; omega)
      rw [eT] at B4 T4 ⊢
      have := run_read_bad (n := 11) (M := M) hb B4 T4 hok
      rw [lt] at this
      exact this
    have j4 := fun M => join_nl (M := M) B4
    have hne2 : ∀ M, pr .ne M [.str X, .str ""] = some (.bl true, M) := fun M => by rw [hne, decide_eq_false hX]; rfl
    rw [tn_4b (hne2 _) (hwi _) e5 hs hs2 (a1 U) (a2 U) (j4 _) (r4 _) (sd2 _), tn_5 hline hs hs2 (a1 l.t) (a2 l.t) (j3 _) (r3 _) gs gs2 (b1 l.d) (b2 l) (sn _)]
    exact ⟨_, _, _, _, _, _, _, _, _, _, rfl, s5.mono (by omega), kk.trans k5⟩
end K01

namespace K01
open PySem PySem.Spec PyProof.Rows L2 DP
theorem rows_comp {n : Nat} {M : Mem} {ls : List Lin} {env : DP.Env} (hl : ∀ l ∈ ls, l.Ok) (h2 : ls.length ≤ 1000) (he : env[2]? = some (some (.list (ls.map Lin.d)))) (h4 : 4 < env.length) :
    ev (DP.run fs (n + 4)) (.comp false [4] (.nm 4) .seq [(.v 2)] none (.call i__law_line [(.v 4)])) env M = .ok (.list ((ls.map Lin.t).map .str)) M := by
  refine comp_ok (ds := [.list (ls.map Lin.d)]) (w := .items (ls.map Lin.d)) (M1 := M) (by simp [he]) walk_list ?_ (by rw [sl_eq]; simp; omega)
  rw [List.map_map]
  show compLoop _ _ (ls.map Lin.d) M = _
  refine compLoop_on Lin.d (fun l => .str l.t) ls fun l m => ?_
  have e := run_line (n := n) (M := M) (hl l m)
  simp [compF, h4, e]
theorem law_head {C : Nat → List D → Mem → Res D} {M1 M2 M3 M4 : Mem} {a : D} {r : Int} {ls rs : List D} {X : E} {R : List S}
  (h1 : C i__law_source [a, .int 0] [] = .ok (.loc 0) M1) (h2 : C i__law_pick [.loc 0, .int 6] M1 = .ok (.int r) M2) (h3 : C i__law_any_lines [.loc 0, .int (2 + r)] M2 = .ok (.list ls) M3)
  (hX : ev C X [some a, some (.loc 0), some (.list ls), none, none, none, none, none, none, none, none, none, none, none, none] M3 = .ok (.list rs) M3)
  (h4 : C i__law_source [a, .int 1] M3 = .ok (.loc 1) M4) :
  DP.execs C (.asg (.nm 1) (.call i__law_source [(.v 0), (.c (.int (0)))]) :: .asg (.nm 2) (.call i__law_any_lines [(.v 1), (.pr .add [(.c (.int (2))), (.call i__law_pick [(.v 1), (.c (.int (6)))])])]) :: .asg (.nm 3) X :: .asg (.nm 5) (.call i__law_source [(.v 0), (.c (.int (1)))]) :: R)
    [some a, none, none, none, none, none, none, none, none, none, none, none, none, none, none] [] = DP.execs C R (te (some a) (some (.loc 0)) (some (.list ls)) (some (.list rs)) none (some (.loc 1)) none none none none none none none none none) M4 := by
  simp [h1, h2, h3, hX, h4]
theorem law_tail {C : Nat → List D → Mem → Res D} {F : S} {env env' : DP.Env} {M M' : Mem} (h : DP.exec C F env M = .done .nx env' M') : ∃ M'', fin [] (DP.execs C [F, .ret (.c (.bl true))] env M) = .ok (.bl true) M'' := by
  simp [h]
theorem law_run : ∀ ns : List Int, ns.length ≤ 63 → ∃ M, DP.run fs 20 i_law [.klist (ns.map .int)] [] = .ok (.bl true) M := by
  intro ns hl
  obtain ⟨M1, h1, s1, c1, e1⟩ := run_source (n := 18) (p := 0) (M := []) hl (by omega)
  have l1 : M1.length = 1 := by rw [e1]; rfl
  obtain ⟨r, M2, h2, r0, r1, s2, k2⟩ := pick (n := 18) (m := 6) s1 (by omega) (by omega) (by omega)
  obtain ⟨ls, M3, h3, n3, g3, s3, k3⟩ := run_dlines (n := 11) (m := (2 + r).toNat) s2 (by omega) (by omega)
  rw [show (((2 + r).toNat : Nat) : Int) = 2 + r by omega] at h3
  have kk := k2.trans k3
  have l3 : M3.length = 1 := by rw [kk.ln, l1]
  obtain ⟨M4, h4, s4, c4, e4⟩ := run_source (n := 18) (p := 1) (M := M3) hl (by omega)
  rw [l3] at h4 s4
  have g : Gd ls := ⟨fun l h => (g3 l h).1, fun l h => (g3 l h).2, by omega, by omega⟩
  have hX := rows_comp (n := 15) (M := M3) (ls := ls) (env := [some (.klist (ns.map .int)), some (.loc 0), some (.list (ls.map Lin.d)), none, none, none, none, none, none, none, none, none, none, none, none]) g.l (by have := g.hi; omega) rfl (by simp)
  rw [run_at (n := 19) (d := ⟨1, 15, b_law⟩) rfl rfl]
  show ∃ M, fin [] (DP.execs (DP.run fs 19) b_law [some (.klist (ns.map .int)), none, none, none, none, none, none, none, none, none, none, none, none, none, none] []) = _
  rw [b_law, law_head h1 h2 h3 hX h4]
  obtain ⟨env', M', hf, _⟩ := for_rng (call := DP.run fs 19) (M := M4) (M1 := M4) (i := 6) (m := 3) (src := [(.c (.int (3)))]) (body := tB) (env := te (some (.klist (ns.map .int))) (some (.loc 0)) (some (.list (ls.map Lin.d))) (some (.list ((ls.map Lin.t).map .str))) none (some (.loc 1)) none none none none none none none none none)
    (fun t env M => ∃ line tt p T wh due bad later both near, env = te (some (.klist (ns.map .int))) (some (.loc 0)) (some (.list (ls.map Lin.d))) (some (.list ((ls.map Lin.t).map .str))) line (some (.loc 1)) tt p T wh due bad later both near ∧ Src 1 (1 + 300 * t) M)
    (by simp) (by omega) ⟨_, _, _, _, _, _, _, _, _, _, rfl, s4⟩ (by
      rintro t ht env M ⟨line, tt, p, T, wh, due, bad, later, both, near, rfl, sr⟩
      obtain ⟨line', p', T', wh', due', bad', later', both', near', M', e, s', k'⟩ := run_turn (a := some (.klist (ns.map .int))) (line := line) (t := some (.int t)) (p := p) (T := T) (wh := wh) (due := due) (bad := bad) (later := later) (both := both) (near := near) g sr (by omega)
      exact ⟨_, M', e, _, _, _, _, _, _, _, _, _, _, rfl, s'.mono (by omega)⟩)
  exact law_tail hf
end K01

namespace K01
open PySem PySem.Spec PyProof.Rows L2 DP NdefX
theorem init_BadText : InitText PySem.Challenge.pw_everylater_k01_each_bad_text (initOf (top 3)) "BadText.__init__" "self" ["self", "line", "what"] ["self", "line", "what", "__class__"] "line" 1 [("what", 2)] where
  body := ⟨_, _, _, _, _, _, _, _, _, rfl, by rfl, fun env => rfl⟩
  sc := by decide +kernel
  N0 := rfl
  par := ⟨_, rfl, rfl⟩
  sup := by rfl
  slf := by rfl
  top := by rfl
  sl := by
    intro p hp x hx
    simp only [List.mem_cons, List.not_mem_nil, or_false] at hp
    rcases hp with rfl | rfl <;> (cases hx; rfl)
  d0 := ⟨rfl, rfl⟩
  few := by decide
  bd := fun _ _ _ _ _ _ _ us hl => match us, hl with | [_, _, _], _ => rfl
theorem bind_0 : BindOk (top 20) "text_lines" "text_lines" ["text", "lines", "signs"] := fun _ _ _ _ _ _ us hl => match us, hl with | [_, _, _], _ => rfl
theorem bind_1 : BindOk (top 26) "word_like" "word_like" ["text"] := fun _ _ _ _ _ _ us hl => match us, hl with | [_], _ => rfl
theorem bind_2 : BindOk (top 27) "number_like" "number_like" ["text"] := fun _ _ _ _ _ _ us hl => match us, hl with | [_], _ => rfl
theorem bind_3 : BindOk (top 31) "parted" "parted" ["words", "sign"] := fun _ _ _ _ _ _ us hl => match us, hl with | [_, _], _ => rfl
theorem bind_4 : BindOk (top 32) "read_condition" "read_condition" ["words"] := fun _ _ _ _ _ _ us hl => match us, hl with | [_], _ => rfl
theorem bind_5 : BindOk (top 33) "read_conditions" "read_conditions" ["words", "sign", "least", "most"] := fun _ _ _ _ _ _ us hl => match us, hl with | [_, _, _, _], _ => rfl
theorem bind_6 : BindOk (top 34) "read_plain" "read_plain" ["words"] := fun _ _ _ _ _ _ us hl => match us, hl with | [_], _ => rfl
theorem bind_7 : BindOk (top 35) "read_form" "read_form" ["words"] := fun _ _ _ _ _ _ us hl => match us, hl with | [_], _ => rfl
theorem bind_8 : BindOk (top 39) "read_lines" "read_lines" ["text"] := fun _ _ _ _ _ _ us hl => match us, hl with | [_], _ => rfl
theorem bind_9 : BindOk (top 40) "read_line" "read_line" ["line", "number"] := fun _ _ _ _ _ _ us hl => match us, hl with | [_, _], _ => rfl
theorem bind_10 : BindOk (top 41) "words_like" "words_like" ["words"] := fun _ _ _ _ _ _ us hl => match us, hl with | [_], _ => rfl
theorem bind_11 : BindOk (top 42) "line_of" "line_of" ["words"] := fun _ _ _ _ _ _ us hl => match us, hl with | [_], _ => rfl
theorem bind_12 : BindOk (top 44) "_law_keywords" "_law_keywords" [] := fun _ _ _ _ _ _ us hl => match us, hl with | [], _ => rfl
theorem bind_13 : BindOk (top 45) "_law_signs" "_law_signs" ["source", "many"] := fun _ _ _ _ _ _ us hl => match us, hl with | [_, _], _ => rfl
theorem bind_14 : BindOk (top 46) "_law_word" "_law_word" ["source"] := fun _ _ _ _ _ _ us hl => match us, hl with | [_], _ => rfl
theorem bind_15 : BindOk (top 47) "_law_figure" "_law_figure" ["source"] := fun _ _ _ _ _ _ us hl => match us, hl with | [_], _ => rfl
theorem bind_16 : BindOk (top 48) "_law_numbers" "_law_numbers" ["source", "many"] := fun _ _ _ _ _ _ us hl => match us, hl with | [_, _], _ => rfl
theorem bind_17 : BindOk (top 49) "_law_any_cond" "_law_any_cond" ["source"] := fun _ _ _ _ _ _ us hl => match us, hl with | [_], _ => rfl
theorem bind_18 : BindOk (top 50) "_law_any_conds" "_law_any_conds" ["source", "least", "most"] := fun _ _ _ _ _ _ us hl => match us, hl with | [_, _, _], _ => rfl
theorem bind_19 : BindOk (top 51) "_law_any_form" "_law_any_form" ["source"] := fun _ _ _ _ _ _ us hl => match us, hl with | [_], _ => rfl
theorem bind_20 : BindOk (top 52) "_law_any_words" "_law_any_words" ["source"] := fun _ _ _ _ _ _ us hl => match us, hl with | [_], _ => rfl
theorem bind_21 : BindOk (top 53) "_law_any_line" "_law_any_line" ["source"] := fun _ _ _ _ _ _ us hl => match us, hl with | [_], _ => rfl
theorem bind_22 : BindOk (top 54) "_law_any_lines" "_law_any_lines" ["source", "many"] := fun _ _ _ _ _ _ us hl => match us, hl with | [_, _], _ => rfl
theorem bind_23 : BindOk (top 55) "_law_source" "_law_source" ["script", "at"] := fun _ _ _ _ _ _ us hl => match us, hl with | [_, _], _ => rfl
theorem bind_24 : BindOk (top 56) "_law_pick" "_law_pick" ["source", "many"] := fun _ _ _ _ _ _ us hl => match us, hl with | [_, _], _ => rfl
theorem bind_25 : BindOk (top 57) "_law_same" "_law_same" ["answer", "due"] := fun _ _ _ _ _ _ us hl => match us, hl with | [_, _], _ => rfl
theorem bind_26 : BindOk (top 58) "_law_fault" "_law_fault" ["error"] := fun _ _ _ _ _ _ us hl => match us, hl with | [_], _ => rfl
theorem bind_27 : BindOk (top 59) "_law_cond_text" "_law_cond_text" ["cond"] := fun _ _ _ _ _ _ us hl => match us, hl with | [_], _ => rfl
theorem bind_28 : BindOk (top 60) "_law_form_text" "_law_form_text" ["form"] := fun _ _ _ _ _ _ us hl => match us, hl with | [_], _ => rfl
theorem bind_29 : BindOk (top 61) "_law_line" "_law_line" ["line"] := fun _ _ _ _ _ _ us hl => match us, hl with | [_], _ => rfl
theorem bind_30 : BindOk (top 62) "_law_word_pairs" "_law_word_pairs" ["source", "a", "b", "n"] := fun _ _ _ _ _ _ us hl => match us, hl with | [_, _, _, _], _ => rfl
theorem bind_31 : BindOk (top 63) "_law_form_pairs" "_law_form_pairs" ["source", "a", "b", "n"] := fun _ _ _ _ _ _ us hl => match us, hl with | [_, _, _, _], _ => rfl
theorem bind_32 : BindOk (top 64) "_law_wrong_sign" "_law_wrong_sign" ["source", "text"] := fun _ _ _ _ _ _ us hl => match us, hl with | [_, _], _ => rfl
theorem bind_33 : BindOk (top 65) "_law_faulty" "_law_faulty" ["source"] := fun _ _ _ _ _ _ us hl => match us, hl with | [_], _ => rfl
theorem bind_34 : BindOk (top 66) "_law_read" "_law_read" ["text"] := fun _ _ _ _ _ _ us hl => match us, hl with | [_], _ => rfl
theorem bind_35 : BindOk (top 67) "law" "law" ["script"] := fun _ _ _ _ _ _ us hl => match us, hl with | [_], _ => rfl
theorem txts_of {cm : ClsMap} {K : PySem.W.Frag} {h : Heap} {mg : Str → Option Value} (X : K.In h) (G : h.Ns mainGlobals mg)
    (d0 : ∃ f, At K (top 20) "text_lines" "text_lines" f)
    (d1 : ∃ f, At K (top 26) "word_like" "word_like" f)
    (d2 : ∃ f, At K (top 27) "number_like" "number_like" f)
    (d3 : ∃ f, At K (top 31) "parted" "parted" f)
    (d4 : ∃ f, At K (top 32) "read_condition" "read_condition" f)
    (d5 : ∃ f, At K (top 33) "read_conditions" "read_conditions" f)
    (d6 : ∃ f, At K (top 34) "read_plain" "read_plain" f)
    (d7 : ∃ f, At K (top 35) "read_form" "read_form" f)
    (d8 : ∃ f, At K (top 39) "read_lines" "read_lines" f)
    (d9 : ∃ f, At K (top 40) "read_line" "read_line" f)
    (d10 : ∃ f, At K (top 41) "words_like" "words_like" f)
    (d11 : ∃ f, At K (top 42) "line_of" "line_of" f)
    (d12 : ∃ f, At K (top 44) "_law_keywords" "_law_keywords" f)
    (d13 : ∃ f, At K (top 45) "_law_signs" "_law_signs" f)
    (d14 : ∃ f, At K (top 46) "_law_word" "_law_word" f)
    (d15 : ∃ f, At K (top 47) "_law_figure" "_law_figure" f)
    (d16 : ∃ f, At K (top 48) "_law_numbers" "_law_numbers" f)
    (d17 : ∃ f, At K (top 49) "_law_any_cond" "_law_any_cond" f)
    (d18 : ∃ f, At K (top 50) "_law_any_conds" "_law_any_conds" f)
    (d19 : ∃ f, At K (top 51) "_law_any_form" "_law_any_form" f)
    (d20 : ∃ f, At K (top 52) "_law_any_words" "_law_any_words" f)
    (d21 : ∃ f, At K (top 53) "_law_any_line" "_law_any_line" f)
    (d22 : ∃ f, At K (top 54) "_law_any_lines" "_law_any_lines" f)
    (d23 : ∃ f, At K (top 55) "_law_source" "_law_source" f)
    (d24 : ∃ f, At K (top 56) "_law_pick" "_law_pick" f)
    (d25 : ∃ f, At K (top 57) "_law_same" "_law_same" f)
    (d26 : ∃ f, At K (top 58) "_law_fault" "_law_fault" f)
    (d27 : ∃ f, At K (top 59) "_law_cond_text" "_law_cond_text" f)
    (d28 : ∃ f, At K (top 60) "_law_form_text" "_law_form_text" f)
    (d29 : ∃ f, At K (top 61) "_law_line" "_law_line" f)
    (d30 : ∃ f, At K (top 62) "_law_word_pairs" "_law_word_pairs" f)
    (d31 : ∃ f, At K (top 63) "_law_form_pairs" "_law_form_pairs" f)
    (d32 : ∃ f, At K (top 64) "_law_wrong_sign" "_law_wrong_sign" f)
    (d33 : ∃ f, At K (top 65) "_law_faulty" "_law_faulty" f)
    (d34 : ∃ f, At K (top 66) "_law_read" "_law_read" f)
    (d35 : ∃ f, At K (top 67) "law" "law" f)
    (c_LINES : @GlOk cm K mg "LINES" (.int (600)))
    (c_SIGNS : @GlOk cm K mg "SIGNS" (.int (800)))
    (c_LETTERS : @GlOk cm K mg "LETTERS" (.str "abcdefghijklmnopqrstuvwxyz"))
    (c_FIGURES : @GlOk cm K mg "FIGURES" (.str "0123456789"))
    (c_LINE_SIGNS : @GlOk cm K mg "LINE_SIGNS" (.str "abcdefghijklmnopqrstuvwxyz0123456789 :+<>=,-"))
    (c_KEYWORDS : @GlOk cm K mg "KEYWORDS" (.tup [.str "name", .str "row", .str "must", .str "block", .str "end", .str "use", .str "mustuse", .str "close", .str "either", .str "or", .str "if", .str "and", .str "then", .str "at", .str "most", .str "least", .str "of", .str "in", .str "not"]))
    (c_CONDITIONS : @GlOk cm K mg "CONDITIONS" (.int (8)))
    (c_CHOICES : @GlOk cm K mg "CHOICES" (.int (13)))
    (c_LINE_WORDS : @GlOk cm K mg "LINE_WORDS" (.tup [.str "name", .str "row", .str "must", .str "use", .str "mustuse", .str "block", .str "end", .str "close"]))
    (c_PARAMETERS : @GlOk cm K mg "PARAMETERS" (.int (4)))
    (z_len : PySem.W.nsIn K mainGlobals "len" = some none)
    (z_int : PySem.W.nsIn K mainGlobals "int" = some none)
    (z_str : PySem.W.nsIn K mainGlobals "str" = some none)
    (z_abs : PySem.W.nsIn K mainGlobals "abs" = some none)
    (z_sum : PySem.W.nsIn K mainGlobals "sum" = some none)
    (z_all : PySem.W.nsIn K mainGlobals "all" = some none)
    (z_any : PySem.W.nsIn K mainGlobals "any" = some none)
    (z_tuple : PySem.W.nsIn K mainGlobals "tuple" = some none)
    (z_list : PySem.W.nsIn K mainGlobals "list" = some none)
    (z_isinstance : PySem.W.nsIn K mainGlobals "isinstance" = some none)
    (z_range : PySem.W.nsIn K mainGlobals "range" = some none)
    (z_enumerate : PySem.W.nsIn K mainGlobals "enumerate" = some none)
    (z_min : PySem.W.nsIn K mainGlobals "min" = some none)
    (z_max : PySem.W.nsIn K mainGlobals "max" = some none)
    (z_bool : PySem.W.nsIn K mainGlobals "bool" = some none)
    (z_dict : PySem.W.nsIn K mainGlobals "dict" = some none)
    (z_zip : PySem.W.nsIn K mainGlobals "zip" = some none) : @Txts cm K mg gl tab := by
  letI := cm
  refine txts_mk ?_ ?_ ?_
  · exact all_cons (At.ok X G d0 bind_0) (all_cons (At.ok X G d1 bind_1) (all_cons (At.ok X G d2 bind_2) (all_cons (At.ok X G d3 bind_3) (all_cons (At.ok X G d4 bind_4) (all_cons (At.ok X G d5 bind_5) (all_cons (At.ok X G d6 bind_6) (all_cons (At.ok X G d7 bind_7) (all_cons (At.ok X G d8 bind_8) (all_cons (At.ok X G d9 bind_9) (all_cons (At.ok X G d10 bind_10) (all_cons (At.ok X G d11 bind_11) (all_cons (At.ok X G d12 bind_12) (all_cons (At.ok X G d13 bind_13) (all_cons (At.ok X G d14 bind_14) (all_cons (At.ok X G d15 bind_15) (all_cons (At.ok X G d16 bind_16) (all_cons (At.ok X G d17 bind_17) (all_cons (At.ok X G d18 bind_18) (all_cons (At.ok X G d19 bind_19) (all_cons (At.ok X G d20 bind_20) (all_cons (At.ok X G d21 bind_21) (all_cons (At.ok X G d22 bind_22) (all_cons (At.ok X G d23 bind_23) (all_cons (At.ok X G d24 bind_24) (all_cons (At.ok X G d25 bind_25) (all_cons (At.ok X G d26 bind_26) (all_cons (At.ok X G d27 bind_27) (all_cons (At.ok X G d28 bind_28) (all_cons (At.ok X G d29 bind_29) (all_cons (At.ok X G d30 bind_30) (all_cons (At.ok X G d31 bind_31) (all_cons (At.ok X G d32 bind_32) (all_cons (At.ok X G d33 bind_33) (all_cons (At.ok X G d34 bind_34) (all_cons (At.ok X G d35 bind_35) (all_nil))))))))))))))))))))))))))))))))))))
  · exact all_cons c_LINES (all_cons c_SIGNS (all_cons c_LETTERS (all_cons c_FIGURES (all_cons c_LINE_SIGNS (all_cons c_KEYWORDS (all_cons c_CONDITIONS (all_cons c_CHOICES (all_cons c_LINE_WORDS (all_cons c_PARAMETERS (all_nil))))))))))
  · exact all_cons (PySem.W.mg_none_of X G z_len) (all_cons (PySem.W.mg_none_of X G z_int) (all_cons (PySem.W.mg_none_of X G z_str) (all_cons (PySem.W.mg_none_of X G z_abs) (all_cons (PySem.W.mg_none_of X G z_sum) (all_cons (PySem.W.mg_none_of X G z_all) (all_cons (PySem.W.mg_none_of X G z_any) (all_cons (PySem.W.mg_none_of X G z_tuple) (all_cons (PySem.W.mg_none_of X G z_list) (all_cons (PySem.W.mg_none_of X G z_isinstance) (all_cons (PySem.W.mg_none_of X G z_range) (all_cons (PySem.W.mg_none_of X G z_enumerate) (all_cons (PySem.W.mg_none_of X G z_min) (all_cons (PySem.W.mg_none_of X G z_max) (all_cons (PySem.W.mg_none_of X G z_bool) (all_cons (PySem.W.mg_none_of X G z_dict) (all_cons (PySem.W.mg_none_of X G z_zip) (all_nil)))))))))))))))))
theorem clsF_of {w : World} {K : PySem.W.Frag} {h : Heap} {mg : Str → Option Value} {C fI cda cc L : Addr} {nm q : Str} {N : Addr} {bs bm : List Value} {sn : List Str} {sub : List Value} {ab : Bool} {col : Option Bool} {dd : Option Addr} {k0 k1 k2 k3 k5 : Option Value}
    {oc kV doc pm ctv ccl cl : Value} {od an cdd cld : Option Addr} {osl ccs csl : Array (Option Value)} {fs1 : Array Value} {file : Str} {tf : Tok} {cd cdL : ClassData} (X : K.In h) (G : h.Ns mainGlobals mg)
    (n0 : PySem.W.nsIn K mainGlobals "BadText" = some (some (.ref C)))
    (xL : K.lookup C = some (excClassObj nm q C N bs bm true sn sub ab col dd k0 k1 k2 k3 k5 "ValueError.__new__"))
    (rv : PySem.HandSPX.refsVE bm = true)
    (sa : PySem.W.findIn K (.ref C) "__setattr__" = some (some (.builtin "object.__setattr__")))
    (exC : PySem.W.subIn K (.ref C) (.type "BaseException") = some true)
    (tyC : PySem.W.typeIn K (.ref C) = some (.type "type"))
    (kC : PySem.W.keepIn K (.ref C) = true)
    (i1 : PySem.W.findIn K (.ref C) "__init__" = some (some (.ref fI)))
    (i2 : PySem.W.typeIn K (.ref fI) = some (.type "function"))
    (l1 : K.lookup fI = some ⟨oc, od, .func (PySem.W.fnX "__init__" "BadText.__init__" (defArgs (initOf (top 3))) (defBody (initOf (top 3))) (defScope (initOf (top 3))) [("__class__", cc)] .none kV doc pm an (.ref cda) ctv), osl⟩)
    (l2 : PySem.W.codeIn K (.ref cda) "BadText.__init__" = true)
    (f1 : K.lookup cda = some ⟨ccl, cdd, .fields fs1, ccs⟩)
    (f2 : fs1[2]? = some (.str file tf))
    (f3 : ((PySem.Challenge.pw_everylater_k01_each_bad_text.main.file : Str) == file) = true)
    (cel : K.lookup cc = some ⟨cl, cld, .cell (some (.ref C)), csl⟩)
    (any : PySem.W.nsIn K cStatics "thirdparty.any" = some none)
    (m1 : PySem.W.clsIn K C = some cd)
    (nL : PySem.W.nsIn K mainGlobals "LaterError" = some (some (.ref L)))
    (m3 : PySem.W.clsIn K L = some cdL)
    (m4 : PySem.W.findIn K (.ref L) "__init__" = some (some (.builtin "ValueError.__init__")))
    (m5 : (cd.mro.dropWhile (· != .ref C)).drop 1 = cdL.mro)
    (own : PySem.W.mroIn K C (.ref C) = some true)
    (ve : PySem.W.subIn K (.ref C) (.type "ValueError") = some true)
    (zs : PySem.W.nsIn K mainGlobals "super" = some none)
    (hg : PySem.W.findIn K (.ref C) "__getattribute__" = some (some (.builtin "BaseException.__getattribute__")))
    (hk : PySem.W.findIn K (.ref C) "__getattr__" = some none)
    (hd : PySem.W.hasDictIn K C = true)
    (ha : PySem.W.findIn K (.ref C) "__class__" = some (some (.builtin "object.__class__")))
    (hn : PySem.W.specialIn K (.builtin "object.__class__") "__get__" = some (some (.builtin "getset_descriptor.__get__")))
    (ht : PySem.W.takesIn K (.builtin "object.__class__") = some true)
    (hm : PySem.W.mroIn K C (.type "object") = some true)
    (h_line : PySem.W.findIn K (.ref C) "line" = some none)
    (h_what : PySem.W.findIn K (.ref C) "what" = some none)
    (ic_TooMany : IsC K "TooMany" C false)
    (ic_BadText : IsC K "BadText" C true)
    (ic_BadQuestion : IsC K "BadQuestion" C false)
    (ic_BadPlan : IsC K "BadPlan" C false)
    (ic_BadLabels : IsC K "BadLabels" C false)
    (ic_BadBounds : IsC K "BadBounds" C false)
    (ic_BadReach : IsC K "BadReach" C false)
    (ic_BadSheet : IsC K "BadSheet" C false)
    (ic_BadLines : IsC K "BadLines" C false)
    (ic_BadLater : IsC K "BadLater" C false)
    (ic_BadMove : IsC K "BadMove" C false)
    (ic_BadTable : IsC K "BadTable" C false)
    (ic_BadDeed : IsC K "BadDeed" C false)
    (ic_BadBook : IsC K "BadBook" C false)
    (ic_BadCommand : IsC K "BadCommand" C false)
    (ic_LaterError : IsC K "LaterError" C true)
    (zt_ValueError : PySem.W.nsIn K mainGlobals "ValueError" = some none)
    (st_ValueError : PySem.W.subIn K (.ref C) (.type "ValueError") = some true)
    (et_ValueError : PySem.W.subIn K (.type "ValueError") (.type "BaseException") = some true) : ∀ base : Heap, @ClsF (clsMapOf K ["BadText"]) PySem.Challenge.pw_everylater_k01_each_bad_text w K mg base ce := by
  intro base
  letI := clsMapOf K ["BadText"]
  refine clsF_one X G n0 rfl (clsK_of X G init_BadText rfl (by decide) (clsMapOf_at rfl n0) n0 ⟨⟨nm, q, N, bs, bm, sn, sub, ab, col, dd, k0, k1, k2, k3, k5, xL, rv⟩, sa, exC, tyC, kC⟩ i1 i2 l1 l2 f1 f2 f3 cel any m1 (along_of m3 m4 m5) own ve zs ?_) ?_ ⟨hg, hk, exC, hd, ha, hn, ht, hm⟩ ?_
  · exact all_cons h_line (all_cons h_what (all_nil))
  · exact all_cons (ist_no X G n0 ic_TooMany) (all_cons (ist_yes X G n0 ic_BadText) (all_cons (ist_no X G n0 ic_BadQuestion) (all_cons (ist_no X G n0 ic_BadPlan) (all_cons (ist_no X G n0 ic_BadLabels) (all_cons (ist_no X G n0 ic_BadBounds) (all_cons (ist_no X G n0 ic_BadReach) (all_cons (ist_no X G n0 ic_BadSheet) (all_cons (ist_no X G n0 ic_BadLines) (all_cons (ist_no X G n0 ic_BadLater) (all_cons (ist_no X G n0 ic_BadMove) (all_cons (ist_no X G n0 ic_BadTable) (all_cons (ist_no X G n0 ic_BadDeed) (all_cons (ist_no X G n0 ic_BadBook) (all_cons (ist_no X G n0 ic_BadCommand) (all_cons (ist_yes X G n0 ic_LaterError) (all_cons (ist_ty X G n0 zt_ValueError (by boot_by_name) (by decide) (by rfl) st_ValueError et_ValueError) (all_nil)))))))))))))))))
  · exact all_cons h_line (all_cons h_what (all_nil))
theorem walk {l : PySem.W.OpenLaw} {q : Program} {loose : List Str} {XP : (Str → Option Value) → Heap → Prop} {YP : World → Heap → Prop} {d : DefRec} {K : Params → PySem.W.Frag} (hn : l.most = some 63) (hpr : l.prog = PySem.Challenge.pw_everylater_k01_each_bad_text) (hdf : d.params.defaults = []) (hdn : d.name = "law")
    (hY : ∀ (w : World) (h : Heap), YP w h → (K w.params).In h)
    (F : ∀ (w : World) (mg : Str → Option Value) (h : Heap), (K w.params).In h → h.Ns mainGlobals mg → @Txts (clsMapOf (K w.params) ["BadText"]) (K w.params) mg gl tab ∧ ∀ base : Heap, @ClsF (clsMapOf (K w.params) ["BadText"]) PySem.Challenge.pw_everylater_k01_each_bad_text w (K w.params) mg base ce) :
    PySem.W.WalkO q loose XP YP l.row.toRowW d [] (fun f vs => PySem.call f vs) :=
  L2.walk_of (n := 63) (k := 20 + 2) (x := "script") (K := K) (CX := fun w => L2.CX l.prog w) (sp := fun w => @spOf (clsMapOf (K w.params) ["BadText"]) ⟨K w.params, DP.run fs 20⟩ 35) hn (by decide) hdf ⟨rfl, by decide, by decide⟩ hY
    (fun w mg fa h X G hfa => by
      letI := clsMapOf (K w.params) ["BadText"]
      obtain ⟨T, CF⟩ := F w mg h X G
      rw [← hpr] at CF
      obtain ⟨fd, b, k⟩ := law_fn (n := 20) (P := l.prog) (w := w) (i := 35) (ce := ce) T CF fs_ok rfl rfl (by rw [← hdn]; exact hfa) bind_35
      exact ⟨fd, b, fun base _ _ => k base⟩)
    (fun w H a ns hl _ hs => by
      letI := clsMapOf (K w.params) ["BadText"]
      exact law_sp (gl := gl) (tab := tab) law_run H a ns hl hs)
    (fun w H s e s' h => by
      obtain ⟨_, _, _, _, _, _, _, _, _, _, _, _, z⟩ := h
      exact z)
end K01

open PySem PySem.W PyProof.Rows in
set_option maxRecDepth 100000 in
set_option maxHeartbeats 0 in
theorem PySem.Challenge.cw_everylater_k01_each_bad_text_holds : PySem.Challenge.rw_everylater_k01_each_bad_text.Holds := by
  w_on; o_law; k_head; (case hw => w_witness2)
  k_fill
  refine K01.walk (l := PySem.Challenge.rw_everylater_k01_each_bad_text) rfl rfl rfl rfl (fun w h Y => PySem.W.kIn_of Y) ?F
  case F =>
    intro w mg h KX G
    refine ⟨?T, ?S⟩
    case S =>
      refine' K01.clsF_of KX G ?n0 ?xL ?rv ?sa ?exC ?tyC ?kC ?i1 ?i2 ?l1 ?l2 ?f1 ?f2 ?f3 ?cel ?any ?m1 ?nL ?m3 ?m4 ?m5 ?own ?ve ?zs ?hg ?hk ?hd ?ha ?hn ?ht ?hm ?h_line ?h_what ?ic_TooMany ?ic_BadText ?ic_BadQuestion ?ic_BadPlan ?ic_BadLabels ?ic_BadBounds ?ic_BadReach ?ic_BadSheet ?ic_BadLines ?ic_BadLater ?ic_BadMove ?ic_BadTable ?ic_BadDeed ?ic_BadBook ?ic_BadCommand ?ic_LaterError ?zt_ValueError ?st_ValueError ?et_ValueError
      (case n0 => k_is)
      (case xL => k_is)
      (case rv => decide +kernel)
      (case sa => k_is)
      (case exC => k_is)
      (case tyC => k_is)
      (case kC => k_is)
      (case i1 => k_is)
      (case i2 => k_is)
      (case l1 => k_is)
      (case l2 => k_is)
      (case f1 => k_is)
      (case f2 => rfl)
      (case f3 => decide +kernel)
      (case cel => k_is)
      (case any => k_is)
      (case m1 => k_is)
      (case nL => k_is)
      (case m3 => k_is)
      (case m4 => k_is)
      (case m5 => rfl)
      (case own => k_is)
      (case ve => k_is)
      (case zs => k_is)
      (case hg => k_is)
      (case hk => k_is)
      (case hd => k_is)
      (case ha => k_is)
      (case hn => k_is)
      (case ht => k_is)
      (case hm => k_is)
      (case h_line => k_is)
      (case h_what => k_is)
      (case ic_TooMany => refine' DP.IsC.mk' ?n_TooMany ?i_TooMany ?t_TooMany ?s_TooMany ?e_TooMany ?d_TooMany; (case n_TooMany => k_is); (case i_TooMany => k_is); (case t_TooMany => k_is); (case s_TooMany => k_is); (case e_TooMany => k_is); (case d_TooMany => exact .inr (by decide)))
      (case ic_BadText => refine' DP.IsC.mk' ?n_BadText ?i_BadText ?t_BadText ?s_BadText ?e_BadText ?d_BadText; (case n_BadText => k_is); (case i_BadText => k_is); (case t_BadText => k_is); (case s_BadText => first | rfl | k_is); (case e_BadText => k_is); (case d_BadText => exact .inl rfl))
      (case ic_BadQuestion => refine' DP.IsC.mk' ?n_BadQuestion ?i_BadQuestion ?t_BadQuestion ?s_BadQuestion ?e_BadQuestion ?d_BadQuestion; (case n_BadQuestion => k_is); (case i_BadQuestion => k_is); (case t_BadQuestion => k_is); (case s_BadQuestion => k_is); (case e_BadQuestion => k_is); (case d_BadQuestion => exact .inr (by decide)))
      (case ic_BadPlan => refine' DP.IsC.mk' ?n_BadPlan ?i_BadPlan ?t_BadPlan ?s_BadPlan ?e_BadPlan ?d_BadPlan; (case n_BadPlan => k_is); (case i_BadPlan => k_is); (case t_BadPlan => k_is); (case s_BadPlan => k_is); (case e_BadPlan => k_is); (case d_BadPlan => exact .inr (by decide)))
      (case ic_BadLabels => refine' DP.IsC.mk' ?n_BadLabels ?i_BadLabels ?t_BadLabels ?s_BadLabels ?e_BadLabels ?d_BadLabels; (case n_BadLabels => k_is); (case i_BadLabels => k_is); (case t_BadLabels => k_is); (case s_BadLabels => k_is); (case e_BadLabels => k_is); (case d_BadLabels => exact .inr (by decide)))
      (case ic_BadBounds => refine' DP.IsC.mk' ?n_BadBounds ?i_BadBounds ?t_BadBounds ?s_BadBounds ?e_BadBounds ?d_BadBounds; (case n_BadBounds => k_is); (case i_BadBounds => k_is); (case t_BadBounds => k_is); (case s_BadBounds => k_is); (case e_BadBounds => k_is); (case d_BadBounds => exact .inr (by decide)))
      (case ic_BadReach => refine' DP.IsC.mk' ?n_BadReach ?i_BadReach ?t_BadReach ?s_BadReach ?e_BadReach ?d_BadReach; (case n_BadReach => k_is); (case i_BadReach => k_is); (case t_BadReach => k_is); (case s_BadReach => k_is); (case e_BadReach => k_is); (case d_BadReach => exact .inr (by decide)))
      (case ic_BadSheet => refine' DP.IsC.mk' ?n_BadSheet ?i_BadSheet ?t_BadSheet ?s_BadSheet ?e_BadSheet ?d_BadSheet; (case n_BadSheet => k_is); (case i_BadSheet => k_is); (case t_BadSheet => k_is); (case s_BadSheet => k_is); (case e_BadSheet => k_is); (case d_BadSheet => exact .inr (by decide)))
      (case ic_BadLines => refine' DP.IsC.mk' ?n_BadLines ?i_BadLines ?t_BadLines ?s_BadLines ?e_BadLines ?d_BadLines; (case n_BadLines => k_is); (case i_BadLines => k_is); (case t_BadLines => k_is); (case s_BadLines => k_is); (case e_BadLines => k_is); (case d_BadLines => exact .inr (by decide)))
      (case ic_BadLater => refine' DP.IsC.mk' ?n_BadLater ?i_BadLater ?t_BadLater ?s_BadLater ?e_BadLater ?d_BadLater; (case n_BadLater => k_is); (case i_BadLater => k_is); (case t_BadLater => k_is); (case s_BadLater => k_is); (case e_BadLater => k_is); (case d_BadLater => exact .inr (by decide)))
      (case ic_BadMove => refine' DP.IsC.mk' ?n_BadMove ?i_BadMove ?t_BadMove ?s_BadMove ?e_BadMove ?d_BadMove; (case n_BadMove => k_is); (case i_BadMove => k_is); (case t_BadMove => k_is); (case s_BadMove => k_is); (case e_BadMove => k_is); (case d_BadMove => exact .inr (by decide)))
      (case ic_BadTable => refine' DP.IsC.mk' ?n_BadTable ?i_BadTable ?t_BadTable ?s_BadTable ?e_BadTable ?d_BadTable; (case n_BadTable => k_is); (case i_BadTable => k_is); (case t_BadTable => k_is); (case s_BadTable => k_is); (case e_BadTable => k_is); (case d_BadTable => exact .inr (by decide)))
      (case ic_BadDeed => refine' DP.IsC.mk' ?n_BadDeed ?i_BadDeed ?t_BadDeed ?s_BadDeed ?e_BadDeed ?d_BadDeed; (case n_BadDeed => k_is); (case i_BadDeed => k_is); (case t_BadDeed => k_is); (case s_BadDeed => k_is); (case e_BadDeed => k_is); (case d_BadDeed => exact .inr (by decide)))
      (case ic_BadBook => refine' DP.IsC.mk' ?n_BadBook ?i_BadBook ?t_BadBook ?s_BadBook ?e_BadBook ?d_BadBook; (case n_BadBook => k_is); (case i_BadBook => k_is); (case t_BadBook => k_is); (case s_BadBook => k_is); (case e_BadBook => k_is); (case d_BadBook => exact .inr (by decide)))
      (case ic_BadCommand => refine' DP.IsC.mk' ?n_BadCommand ?i_BadCommand ?t_BadCommand ?s_BadCommand ?e_BadCommand ?d_BadCommand; (case n_BadCommand => k_is); (case i_BadCommand => k_is); (case t_BadCommand => k_is); (case s_BadCommand => k_is); (case e_BadCommand => k_is); (case d_BadCommand => exact .inr (by decide)))
      (case ic_LaterError => refine' DP.IsC.mk' ?n_LaterError ?i_LaterError ?t_LaterError ?s_LaterError ?e_LaterError ?d_LaterError; (case n_LaterError => k_is); (case i_LaterError => k_is); (case t_LaterError => k_is); (case s_LaterError => k_is); (case e_LaterError => k_is); (case d_LaterError => exact .inl rfl))
      (case zt_ValueError => k_is)
      (case st_ValueError => k_is)
      (case et_ValueError => k_is)
    case T =>
      refine' K01.txts_of KX G ?d0 ?d1 ?d2 ?d3 ?d4 ?d5 ?d6 ?d7 ?d8 ?d9 ?d10 ?d11 ?d12 ?d13 ?d14 ?d15 ?d16 ?d17 ?d18 ?d19 ?d20 ?d21 ?d22 ?d23 ?d24 ?d25 ?d26 ?d27 ?d28 ?d29 ?d30 ?d31 ?d32 ?d33 ?d34 ?d35 ?c_LINES ?c_SIGNS ?c_LETTERS ?c_FIGURES ?c_LINE_SIGNS ?c_KEYWORDS ?c_CONDITIONS ?c_CHOICES ?c_LINE_WORDS ?c_PARAMETERS ?z_len ?z_int ?z_str ?z_abs ?z_sum ?z_all ?z_any ?z_tuple ?z_list ?z_isinstance ?z_range ?z_enumerate ?z_min ?z_max ?z_bool ?z_dict ?z_zip
      (case d0 => refine' DP.At.mk2 ?n_d0 ?l_d0 ?c_d0 ?k_d0; (case n_d0 => k_is); (case l_d0 => k_is); (case c_d0 => k_is); (case k_d0 => k_is))
      (case d1 => refine' DP.At.mk2 ?n_d1 ?l_d1 ?c_d1 ?k_d1; (case n_d1 => k_is); (case l_d1 => k_is); (case c_d1 => k_is); (case k_d1 => k_is))
      (case d2 => refine' DP.At.mk2 ?n_d2 ?l_d2 ?c_d2 ?k_d2; (case n_d2 => k_is); (case l_d2 => k_is); (case c_d2 => k_is); (case k_d2 => k_is))
      (case d3 => refine' DP.At.mk2 ?n_d3 ?l_d3 ?c_d3 ?k_d3; (case n_d3 => k_is); (case l_d3 => k_is); (case c_d3 => k_is); (case k_d3 => k_is))
      (case d4 => refine' DP.At.mk2 ?n_d4 ?l_d4 ?c_d4 ?k_d4; (case n_d4 => k_is); (case l_d4 => k_is); (case c_d4 => k_is); (case k_d4 => k_is))
      (case d5 => refine' DP.At.mk2 ?n_d5 ?l_d5 ?c_d5 ?k_d5; (case n_d5 => k_is); (case l_d5 => k_is); (case c_d5 => k_is); (case k_d5 => k_is))
      (case d6 => refine' DP.At.mk2 ?n_d6 ?l_d6 ?c_d6 ?k_d6; (case n_d6 => k_is); (case l_d6 => k_is); (case c_d6 => k_is); (case k_d6 => k_is))
      (case d7 => refine' DP.At.mk2 ?n_d7 ?l_d7 ?c_d7 ?k_d7; (case n_d7 => k_is); (case l_d7 => k_is); (case c_d7 => k_is); (case k_d7 => k_is))
      (case d8 => refine' DP.At.mk2 ?n_d8 ?l_d8 ?c_d8 ?k_d8; (case n_d8 => k_is); (case l_d8 => k_is); (case c_d8 => k_is); (case k_d8 => k_is))
      (case d9 => refine' DP.At.mk2 ?n_d9 ?l_d9 ?c_d9 ?k_d9; (case n_d9 => k_is); (case l_d9 => k_is); (case c_d9 => k_is); (case k_d9 => k_is))
      (case d10 => refine' DP.At.mk2 ?n_d10 ?l_d10 ?c_d10 ?k_d10; (case n_d10 => k_is); (case l_d10 => k_is); (case c_d10 => k_is); (case k_d10 => k_is))
      (case d11 => refine' DP.At.mk2 ?n_d11 ?l_d11 ?c_d11 ?k_d11; (case n_d11 => k_is); (case l_d11 => k_is); (case c_d11 => k_is); (case k_d11 => k_is))
      (case d12 => refine' DP.At.mk2 ?n_d12 ?l_d12 ?c_d12 ?k_d12; (case n_d12 => k_is); (case l_d12 => k_is); (case c_d12 => k_is); (case k_d12 => k_is))
      (case d13 => refine' DP.At.mk2 ?n_d13 ?l_d13 ?c_d13 ?k_d13; (case n_d13 => k_is); (case l_d13 => k_is); (case c_d13 => k_is); (case k_d13 => k_is))
      (case d14 => refine' DP.At.mk2 ?n_d14 ?l_d14 ?c_d14 ?k_d14; (case n_d14 => k_is); (case l_d14 => k_is); (case c_d14 => k_is); (case k_d14 => k_is))
      (case d15 => refine' DP.At.mk2 ?n_d15 ?l_d15 ?c_d15 ?k_d15; (case n_d15 => k_is); (case l_d15 => k_is); (case c_d15 => k_is); (case k_d15 => k_is))
      (case d16 => refine' DP.At.mk2 ?n_d16 ?l_d16 ?c_d16 ?k_d16; (case n_d16 => k_is); (case l_d16 => k_is); (case c_d16 => k_is); (case k_d16 => k_is))
      (case d17 => refine' DP.At.mk2 ?n_d17 ?l_d17 ?c_d17 ?k_d17; (case n_d17 => k_is); (case l_d17 => k_is); (case c_d17 => k_is); (case k_d17 => k_is))
      (case d18 => refine' DP.At.mk2 ?n_d18 ?l_d18 ?c_d18 ?k_d18; (case n_d18 => k_is); (case l_d18 => k_is); (case c_d18 => k_is); (case k_d18 => k_is))
      (case d19 => refine' DP.At.mk2 ?n_d19 ?l_d19 ?c_d19 ?k_d19; (case n_d19 => k_is); (case l_d19 => k_is); (case c_d19 => k_is); (case k_d19 => k_is))
      (case d20 => refine' DP.At.mk2 ?n_d20 ?l_d20 ?c_d20 ?k_d20; (case n_d20 => k_is); (case l_d20 => k_is); (case c_d20 => k_is); (case k_d20 => k_is))
      (case d21 => refine' DP.At.mk2 ?n_d21 ?l_d21 ?c_d21 ?k_d21; (case n_d21 => k_is); (case l_d21 => k_is); (case c_d21 => k_is); (case k_d21 => k_is))
      (case d22 => refine' DP.At.mk2 ?n_d22 ?l_d22 ?c_d22 ?k_d22; (case n_d22 => k_is); (case l_d22 => k_is); (case c_d22 => k_is); (case k_d22 => k_is))
      (case d23 => refine' DP.At.mk2 ?n_d23 ?l_d23 ?c_d23 ?k_d23; (case n_d23 => k_is); (case l_d23 => k_is); (case c_d23 => k_is); (case k_d23 => k_is))
      (case d24 => refine' DP.At.mk2 ?n_d24 ?l_d24 ?c_d24 ?k_d24; (case n_d24 => k_is); (case l_d24 => k_is); (case c_d24 => k_is); (case k_d24 => k_is))
      (case d25 => refine' DP.At.mk2 ?n_d25 ?l_d25 ?c_d25 ?k_d25; (case n_d25 => k_is); (case l_d25 => k_is); (case c_d25 => k_is); (case k_d25 => k_is))
      (case d26 => refine' DP.At.mk2 ?n_d26 ?l_d26 ?c_d26 ?k_d26; (case n_d26 => k_is); (case l_d26 => k_is); (case c_d26 => k_is); (case k_d26 => k_is))
      (case d27 => refine' DP.At.mk2 ?n_d27 ?l_d27 ?c_d27 ?k_d27; (case n_d27 => k_is); (case l_d27 => k_is); (case c_d27 => k_is); (case k_d27 => k_is))
      (case d28 => refine' DP.At.mk2 ?n_d28 ?l_d28 ?c_d28 ?k_d28; (case n_d28 => k_is); (case l_d28 => k_is); (case c_d28 => k_is); (case k_d28 => k_is))
      (case d29 => refine' DP.At.mk2 ?n_d29 ?l_d29 ?c_d29 ?k_d29; (case n_d29 => k_is); (case l_d29 => k_is); (case c_d29 => k_is); (case k_d29 => k_is))
      (case d30 => refine' DP.At.mk2 ?n_d30 ?l_d30 ?c_d30 ?k_d30; (case n_d30 => k_is); (case l_d30 => k_is); (case c_d30 => k_is); (case k_d30 => k_is))
      (case d31 => refine' DP.At.mk2 ?n_d31 ?l_d31 ?c_d31 ?k_d31; (case n_d31 => k_is); (case l_d31 => k_is); (case c_d31 => k_is); (case k_d31 => k_is))
      (case d32 => refine' DP.At.mk2 ?n_d32 ?l_d32 ?c_d32 ?k_d32; (case n_d32 => k_is); (case l_d32 => k_is); (case c_d32 => k_is); (case k_d32 => k_is))
      (case d33 => refine' DP.At.mk2 ?n_d33 ?l_d33 ?c_d33 ?k_d33; (case n_d33 => k_is); (case l_d33 => k_is); (case c_d33 => k_is); (case k_d33 => k_is))
      (case d34 => refine' DP.At.mk2 ?n_d34 ?l_d34 ?c_d34 ?k_d34; (case n_d34 => k_is); (case l_d34 => k_is); (case c_d34 => k_is); (case k_d34 => k_is))
      (case d35 => refine' DP.At.mk2 ?n_d35 ?l_d35 ?c_d35 ?k_d35; (case n_d35 => k_is); (case l_d35 => k_is); (case c_d35 => k_is); (case k_d35 => k_is))
      (case c_LINES => refine' DP.gl_int2 KX G ?n_LINES; (case n_LINES => k_is))
      (case c_SIGNS => refine' DP.gl_int2 KX G ?n_SIGNS; (case n_SIGNS => k_is))
      (case c_LETTERS => refine' DP.gl_str2 KX G ?n_LETTERS; (case n_LETTERS => k_is))
      (case c_FIGURES => refine' DP.gl_str2 KX G ?n_FIGURES; (case n_FIGURES => k_is))
      (case c_LINE_SIGNS => refine' DP.gl_str2 KX G ?n_LINE_SIGNS; (case n_LINE_SIGNS => k_is))
      (case c_KEYWORDS => refine' DP.gl_tup2 KX G (vs := [.str "name", .str "row", .str "must", .str "block", .str "end", .str "use", .str "mustuse", .str "close", .str "either", .str "or", .str "if", .str "and", .str "then", .str "at", .str "most", .str "least", .str "of", .str "in", .str "not"]) ?n_KEYWORDS ?l_KEYWORDS ?z_KEYWORDS ?v_KEYWORDS ?r_KEYWORDS; (case n_KEYWORDS => k_is); (case l_KEYWORDS => k_is); (case z_KEYWORDS => decide); (case v_KEYWORDS => exact .cons ⟨_, rfl⟩ (.cons ⟨_, rfl⟩ (.cons ⟨_, rfl⟩ (.cons ⟨_, rfl⟩ (.cons ⟨_, rfl⟩ (.cons ⟨_, rfl⟩ (.cons ⟨_, rfl⟩ (.cons ⟨_, rfl⟩ (.cons ⟨_, rfl⟩ (.cons ⟨_, rfl⟩ (.cons ⟨_, rfl⟩ (.cons ⟨_, rfl⟩ (.cons ⟨_, rfl⟩ (.cons ⟨_, rfl⟩ (.cons ⟨_, rfl⟩ (.cons ⟨_, rfl⟩ (.cons ⟨_, rfl⟩ (.cons ⟨_, rfl⟩ (.cons ⟨_, rfl⟩ (.nil)))))))))))))))))))); (case r_KEYWORDS => exact fun _ => DP.reps_strs ["name", "row", "must", "block", "end", "use", "mustuse", "close", "either", "or", "if", "and", "then", "at", "most", "least", "of", "in", "not"]))
      (case c_CONDITIONS => refine' DP.gl_int2 KX G ?n_CONDITIONS; (case n_CONDITIONS => k_is))
      (case c_CHOICES => refine' DP.gl_int2 KX G ?n_CHOICES; (case n_CHOICES => k_is))
      (case c_LINE_WORDS => refine' DP.gl_tup2 KX G (vs := [.str "name", .str "row", .str "must", .str "use", .str "mustuse", .str "block", .str "end", .str "close"]) ?n_LINE_WORDS ?l_LINE_WORDS ?z_LINE_WORDS ?v_LINE_WORDS ?r_LINE_WORDS; (case n_LINE_WORDS => k_is); (case l_LINE_WORDS => k_is); (case z_LINE_WORDS => decide); (case v_LINE_WORDS => exact .cons ⟨_, rfl⟩ (.cons ⟨_, rfl⟩ (.cons ⟨_, rfl⟩ (.cons ⟨_, rfl⟩ (.cons ⟨_, rfl⟩ (.cons ⟨_, rfl⟩ (.cons ⟨_, rfl⟩ (.cons ⟨_, rfl⟩ (.nil))))))))); (case r_LINE_WORDS => exact fun _ => DP.reps_strs ["name", "row", "must", "use", "mustuse", "block", "end", "close"]))
      (case c_PARAMETERS => refine' DP.gl_int2 KX G ?n_PARAMETERS; (case n_PARAMETERS => k_is))
      (case z_len => k_is)
      (case z_int => k_is)
      (case z_str => k_is)
      (case z_abs => k_is)
      (case z_sum => k_is)
      (case z_all => k_is)
      (case z_any => k_is)
      (case z_tuple => k_is)
      (case z_list => k_is)
      (case z_isinstance => k_is)
      (case z_range => k_is)
      (case z_enumerate => k_is)
      (case z_min => k_is)
      (case z_max => k_is)
      (case z_bool => k_is)
      (case z_dict => k_is)
      (case z_zip => k_is)

