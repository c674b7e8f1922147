import PyProof.Rows.All
import Wide.All
import OpenK.AllK
import Wide.FinOn
import KE.KStateDown
import Lean
import HandS.Base
import HandS.Call
import HandS.Ends
import HandS.More
import HandS.Words
import HandS.WordsExc
import HandS.Defaults
import HandS.Head0
import HandS.Head1
import HandS.Head2
import HandS.HeadEnd
import HandS.HeadHook1
import HandS.HeadHook2
import KE.KExcSuper
import KE.KExcIs
import HandS.ForMost
import HandS.ForExc
import HandS.ExcInit
import HandS.ExcField
import HandS.ExcIs
import HandS.IsInst
import HandS.Wide
import HandS.Gcd
import HandS.MakeKw
import HandS.MakeKwOnly
import HandS.Flow
import HandS.CallSlots
import HandS.Evl
import PySem.Challenge.RW_seriessquares_k01_ratio_made
set_option Elab.async false
set_option linter.all false
set_option maxRecDepth 100000
set_option maxHeartbeats 0
/-! A head for a top that opens with imports: the opening and the top by one run over trees. -/
noncomputable section
namespace GH
open PySem PySem.W PySem.Calls PyProof.Rows HandSHeadRun
/-- the opening, to its end -/
def impF (st : SharedT → Thread → Option (SharedT × Thread)) : Nat → SharedT → Thread → Option SharedT
  | 0, _, _ => none
  | m + 1, s, t => match t.atExitBegin with
    | some [] => some s
    | some (_ :: _) => none
    | none => match st s t with
      | some (s', t') => frS s' fun s' => impF st m s' t'
      | none => none
theorem impF_ok {tb : String → Option Builtin} {p : Program} {w : World} : ∀ {m : Nat} {s s' : SharedT} {t : Thread}, impF (stepT (denote tb) p w) m s t = some s' → importEnds tb p w m s.abs t = some s'.abs
  | 0, _, _, _, h => by cases h
  | m + 1, s, s', t, h => by
    unfold impF at h
    unfold importEnds
    cases ht : t.atExitBegin with
    | some l =>
      rw [ht] at h
      cases l with
      | nil =>
        have h' : some s = some s' := h
        cases h'
        rfl
      | cons a r =>
        have h' : (none : Option SharedT) = some s' := h
        cases h'
    | none =>
      rw [ht] at h
      have h2 : (match stepT (denote tb) p w s t with
          | some (s', t') => frS s' fun s' => impF (stepT (denote tb) p w) m s' t'
          | none => none) = some s' := h
      cases hs : stepT (denote tb) p w s t with
      | none =>
        rw [hs] at h2
        cases h2
      | some r =>
        obtain ⟨s2, t2⟩ := r
        rw [hs] at h2
        have h3 : (frS s2 fun s' => impF (stepT (denote tb) p w) m s' t2) = some s' := h2
        rw [frS_eq] at h3
        have q := impF_ok h3
        show (match step (denote tb) p w s.abs t with
          | .go s' t' => importEnds tb p w m s' t'
          | .halt _ _ => none) = some s'.abs
        rw [stepT_spec hs]
        exact q
/-- a state as a tree -/
def toT (s : Shared) : Option SharedT := match putAll s.heap.objs.toList .nil 0 with
  | some (t, n) => some ⟨t, n, s.heap.life, s.gens, s.drawn, s.toks, s.os⟩
  | none => none
theorem toT_ok {s : Shared} {t : SharedT} (h : toT s = some t) : t.abs = s := by
  unfold toT at h
  cases e : putAll s.heap.objs.toList .nil 0 with
  | none =>
    rw [e] at h
    cases h
  | some r =>
    obtain ⟨tr, n⟩ := r
    rw [e] at h
    have h' : some (⟨tr, n, s.heap.life, s.gens, s.drawn, s.toks, s.os⟩ : SharedT) = some t := h
    cases h'
    show (⟨absHeap tr n s.heap.life, s.gens, s.drawn, s.toks, s.os⟩ : Shared) = s
    rw [putAll_heap e]
def openG (st : SharedT → Thread → Option (SharedT × Thread)) (M : Nat) (p : Program) : Option Shared :=
  (toT (start (opening p)).1).bind fun s0 => (impF st M s0 (start (opening p)).2).bind fun s => fenceModules? p s.abs
def topG (st : SharedT → Thread → Option (SharedT × Thread)) (M : Nat) (p : Program) (s₀ : Shared) : Option SharedT :=
  match s₀.heap.isNs mainGlobals && s₀.gens.size == 0 with
  | true => (toT s₀).bind fun t => frS t fun t => goF st t.n (s₀.heap.nsMap mainGlobals "__annotations__") M t (topStub p)
  | false => none
theorem openG_ok {M N : Nat} {p : Program} {w : World} {s : Shared} (le : Nat.ble M N = true) (h : openG (stepT (denote treeTable) (opening p) w) M p = some s) : fencedOpening treeTable p w N = some s := by
  unfold openG at h
  obtain ⟨s0, h0, h1⟩ := Option.bind_eq_some_iff.mp h
  obtain ⟨s1, h2, h3⟩ := Option.bind_eq_some_iff.mp h1
  have e := impF_ok h2
  rw [toT_ok h0] at e
  have m := importEnds_mono (N - M) _ _ _ _ e
  rw [show M + (N - M) = N by have := Nat.le_of_ble_eq_true le; omega] at m
  unfold fencedOpening
  rw [m]
  exact h3
theorem topG_ok {M N : Nat} {p : Program} {w : World} {s₀ : Shared} {s : SharedT} (le : Nat.ble M N = true) (h : topG (stepT (denote treeTable) p w) M p s₀ = some s) (l : looksF p s₀.heap s.abs = true) : topFrom treeTable p w N s₀ = some s.abs := by
  unfold topG at h
  unfold topFrom
  cases e : (s₀.heap.isNs mainGlobals && s₀.gens.size == 0) with
  | false =>
    rw [e] at h
    cases h
  | true =>
    rw [e] at h
    have h1 : ((toT s₀).bind fun t => frS t fun t => goF (stepT (denote treeTable) p w) t.n (s₀.heap.nsMap mainGlobals "__annotations__") M t (topStub p)) = some s := h
    obtain ⟨t, h2, h3⟩ := Option.bind_eq_some_iff.mp h1
    rw [frS_eq] at h3
    have q := goF_ok h3
    have et := toT_ok h2
    have en : t.n = s₀.heap.objs.size := by
      rw [← et]
      exact (absHeap_size t.tree t.n t.life).symm
    rw [et, en] at q
    have r := topRun_mono (N - M) _ _ _ _ q
    rw [show M + (N - M) = N by have := Nat.le_of_ble_eq_true le; omega] at r
    show (topRun treeTable p w s₀.heap.objs.size (s₀.heap.nsMap mainGlobals "__annotations__") N s₀ (topStub p)).bind _ = _
    rw [r]
    show (match staticsOk (importedModules p.main.body) s₀.heap s.abs.heap && namesBound p s.abs.heap && gensDone s.abs && laidKept s₀.heap s.abs.heap with | true => some s.abs | false => none) = _
    have l' : (staticsOk (importedModules p.main.body) s₀.heap s.abs.heap && namesBound p s.abs.heap && gensDone s.abs && laidKept s₀.heap s.abs.heap) = true := l
    rw [l']
/-- the run's equation at a world -/
def RunEqG (r : OpenRow) (q : Program) (H : Hook) (ob : SharedT → H.α) (M1 M2 : Nat) (loose : List PySem.Str) (w : World) : Prop :=
  ((openG (stepQ (denQ tabQ) (opening r.prog) w) M1 r.prog).bind fun s₀ => (topG (stepQ (denQ tabQ) r.prog w) M2 r.prog s₀).map fun s => (looksF r.prog s₀.heap s.abs, seenQ q loose (importedModules r.prog.main.body) (fun s => xlAt q [] s && recOk r.toRowW.records s) s.abs, ob s)) = some (true, openGood q loose, H.val w)
theorem head_anyG {r : OpenRow} {q : Program} {H : Hook} {ob : SharedT → H.α} {M1 M2 : Nat} {loose : List PySem.Str} {d : DefRec} {kwd : List (PySem.Str × PySem.Expr)} (ho : ∀ s : SharedT, ob s = H.obs s.abs)
    (run : ∀ w, RunEqG r q H ob M1 M2 loose w)
    (hdef : defOf q r.name = some (d, kwd)) (hp : r.prog.theDef r.name = some (d.params, d.body, d.scope)) (hk : kwWritten? d.params.kwonlyargs d.params.kw_defaults = some kwd)
    (hwr : (!r.writes || r.records.isEmpty) = true) (k1 : r.wellSaid = true) (ok : (chainsOk q && opensWell r.prog && (frees r.toRowW && r.within.isEmpty)) = true) (hb : r.prog.bare) (hw : r.toRowW.promised)
    (call : WalkO q loose (XL q []) H.says r.toRowW d kwd fun f vs => PySem.call f vs) : r.Holds := by
  have left : LeftO r.prog q loose (fun s => xlAt q [] s && recOk r.toRowW.records s) H.obs H.val (M1 + M2) true := fun w => by
    have z := run w
    unfold RunEqG at z
    rw [← stepQ_eq, ← denQ_eq, ← tabQ_eq] at z
    obtain ⟨s₀, z1, z2⟩ := Option.bind_eq_some_iff.mp z
    obtain ⟨s, z3, z4⟩ := Option.map_eq_some_iff.mp z2
    obtain ⟨l1, l2, l3⟩ : _ ∧ _ ∧ _ := by simpa only [Prod.mk.injEq] using z4
    have a := openG_ok (N := M1 + M2) (Nat.ble_eq_true_of_le (by omega)) z1
    have t := topG_ok (N := M1 + M2) (Nat.ble_eq_true_of_le (by omega)) z3 l1
    unfold openEnds
    rw [a]
    show (topFrom treeTable r.prog w (M1 + M2) s₀).map _ = _
    rw [t]
    rw [← seenQ_eq] at l2
    rw [ho s] at l3
    exact congrArg some (Prod.ext l2 l3)
  exact holds_open (r := r) (q := q) (loose := loose) (XP := XL q []) (YP := H.says) (d := d) (kwd := kwd) left H.of H.keeps (fun s z => xl_of s (Bool.and_eq_true_iff.mp z).1) XL.keeps hdef hp hk (fun s z => recFacts_of (Bool.and_eq_true_iff.mp z).2) hwr k1 ok hb hw call
end GH
end

namespace Sx
open PySem PySem.Spec PyProof.Rows L2 PySem.Calls
/-! ### an own exception whose __init__ says super().__init__(x); self.f = x -/
def iA (fld : Str) (p1 p2 : Pos) : Arguments := { posonlyargs := [], args := [{ arg := "self", annotation := none, pos := p1 }, { arg := fld, annotation := none, pos := p2 }], vararg := none, kwonlyargs := [], kw_defaults := [], kwarg := none, defaults := [] }
def iB (fld : Str) (q1 q2 q3 q4 q5 q6 q7 q8 q9 q10 : Pos) : List Stmt :=
  [.Expr (.Call (.Attribute (.Call (.Name "super" q1) [] [] q2) "__init__" q3) [.Name fld q4] [] q5) q6, .Assign [.Attribute (.Name "self" q7) fld q8] (.Name fld q9) q10]
structure SupC (P : Program) (K : PySem.W.Frag) (C fI : Addr) (fld : Str) : Prop where
  o : OexC K C
  no : PySem.W.findIn K (.ref C) fld = some none
  si : PySem.W.ks_superIn K C C "__init__" = some (some (.builtin "ValueError.__init__"))
  sv : PySem.W.subIn K (.ref C) (.type "ValueError") = some true
  mr : PySem.W.mroIn K C (.ref C) = some true
  sup : PySem.W.nsIn K mainGlobals "super" = some none
  top : (P.main.scope.names.lookup ("super" : Str)).isSome = false
  opq : PySem.W.nsIn K cStatics "thirdparty.any" = some none
  fdb : (fld == ("__debug__" : Str)) = false
  fn : ∃ (oc : Value) (od : Option Addr) (qual : Str) (kV doc pm : Value) (an : Option Addr) (cda : Addr) (ct : Value) (osl : Array (Option Value)) (cc : Addr) (sc : Scope) (p1 p2 q1 q2 q3 q4 q5 q6 q7 q8 q9 q10 : Pos),
    K.lookup fI = some ⟨oc, od, .func (PySem.W.ksFn "__init__" qual (iA fld p1 p2) (iB fld q1 q2 q3 q4 q5 q6 q7 q8 q9 q10) sc .none kV doc pm an (.ref cda) ct cc), osl⟩ ∧ PySem.W.codeIn K (.ref cda) qual = true ∧
    (∃ cl cld csl, K.lookup cc = some ⟨cl, cld, .cell (some (.ref C)), csl⟩) ∧
    (∃ ccl cdd vs ccs file tf, K.lookup cda = some ⟨ccl, cdd, .fields vs, ccs⟩ ∧ vs[2]? = some (.str file tf) ∧ ((P.main.file : Str) == file) = true) ∧
    sc.names.lookup ("super" : Str) = some .globalImplicit ∧ sc.names.lookup ("__class__" : Str) = some .free ∧ sc.names.lookup ("self" : Str) = some .local ∧ sc.names.lookup fld = some .local ∧ ((fld == ("self" : Str)) = false) ∧
    sc.kind = .function ∧ sc.isCoroutine = false ∧ sc.isGenerator = false ∧ (∀ x ∈ sc.names, x.2 ≠ .cell) ∧
    (∀ u1 u2 : Value, bindArgs (PySem.W.ksFn "__init__" qual (iA fld p1 p2) (iB fld q1 q2 q3 q4 q5 q6 q7 q8 q9 q10) sc .none kV doc pm an (.ref cda) ct cc) ⟨[u1, u2], []⟩ = pure [(("self" : Str), u1), (fld, u2)]) ∧
    ∃ pl : Sem Bool, ∀ env : Env, eval (.Call (.Attribute (.Call (.Name "super" q1) [] [] q2) "__init__" q3) [.Name fld q4] [] q5) env = (do
      let ov ← attributeBase (.Call (.Name "super" q1) [] [] q2) "__init__" env (eval (.Call (.Name "super" q1) [] [] q2) env)
      standAt q3.atName
      let (f, first) ← holding [ov] (getMethod ov "__init__" pl)
      callWith q5 f first (backTo q5 (starEach [.Name fld q4] env)) [])
/-- its promise -/
def spExcI (C : Addr) (fld : Str) : Sp := fun vs H Q _ => ∃ (a : Addr) (v : V), vs = [.ref a, v] ∧ H a = some (exo a C none) ∧ ∀ dx, H dx = none → dx ≠ a → Q .non (upd (upd H dx (exd dx [(fld, v)])) a (exo a C (some dx)))
theorem fn_sup {P : Program} {w : World} {K : PySem.W.Frag} {mg : Str → Option Value} {base : Heap} {CX : CXT} {C fI : Addr} {fld : Str} (T : SupC P K C fI fld) : FnR P w K mg base CX 2 fI (spExcI C fld) := by
  intro A outer s H us vs Q E hr e0 r hsp
  obtain ⟨x, v, ev, ea, hq⟩ := hsp
  subst ev
  obtain ⟨u1, u, eu, r1, ru⟩ := vals2 r
  subst eu
  obtain rfl : u1 = Value.ref x := r1
  obtain ⟨oc, od, qual, kV, doc, pm, an, cda, ct, osl, cc, sc, p1, p2, q1, q2, q3, q4, q5, q6, q7, q8, q9, q10, lk, hcd, ⟨cl, cld, csl, hcell⟩, ⟨ccl, cdd, cvs, ccs, file, tf, hcode, hvs, hfile⟩, hks, hkc, hkself, hkf, hfs, hk, hco, hgen, hnc, hbind, pl, hev⟩ := T.fn
  obtain ⟨nm, q, N, bs, bm, sn, sub, ab, col, dd, k0, k1, k2, k3, k5, hC, hbm⟩ := T.o.cls
  have KX : K.In s.heap := e0.mod.kin.keeps fun b o e => (e0.bs b o e).1
  have lim : s.heap.NoLimit := e0.mod.nolimit.keeps fun b o e => (e0.bs b o e).1
  have hcl : PySem.W.clsIn K C = some { name := nm, bases := bs, mro := .ref C :: bm, ns := N, qualname := q, hasDict := true, slotNames := sn, subclasses := sub, abstract := ab, collection := col, hasDel := false } := by unfold PySem.W.clsIn; rw [hC] <;> rfl
  obtain ⟨t1, hx⟩ := exo_at e0.hok ea
  have hxs : x < s.heap.objs.size := Heap.lt_size hx
  have hne : ¬ (("self" : Str) = fld) := fun z => by rw [← z] at hfs; simp at hfs
  refine ks_codeAny_call_defAt (fd := PySem.W.ksFn "__init__" qual (iA fld p1 p2) (iB fld q1 q2 q3 q4 q5 q6 q7 q8 q9 q10) sc .none kV doc pm an (.ref cda) ct cc) (body := iB fld q1 q2 q3 q4 q5 q6 q7 q8 q9 q10) (binds := [(("self" : Str), .ref x), (fld, u)])
    hr.depth (KX _ _ lk) rfl lim (PySem.W.codeRec_of KX hcd) rfl (BindsTo.of_eq (hbind _ _)) hnc (fun y hy => ?_) (fun h₁ hns hk₁ => ?_) hco hgen hk
  · rcases List.mem_cons.mp hy with rfl | hy
    · exact hkself
    · rcases List.mem_cons.mp hy with rfl | hy
      · exact hkf
      · cases hy
  · show PySem.wpAt (model P w) (A.deeper (PySem.W.ksEnv qual sc s.heap.objs.size fI (.ref cda) cc)) (.func (iB fld q1 q2 q3 q4 q5 q6 q7 q8 q9 q10) (PySem.W.ksEnv qual sc s.heap.objs.size fI (.ref cda) cc))
      (execs (iB fld q1 q2 q3 q4 q5 q6 q7 q8 q9 q10) (PySem.W.ksEnv qual sc s.heap.objs.size fI (.ref cda) cc)) _ _ _
    have X1 : K.In h₁ := KX.keeps hk₁
    have mgs : mg "super" = none := PySem.W.mg_none_of e0.mod.kin e0.mod.glob T.sup
    obtain ⟨mb, hmb, hbb⟩ := e0.mod.blt
    have kb : ∀ b o, base.get? b = some o → h₁.get? b = some o := fun b o e => hk₁ b o (e0.bs b o e).1
    have lself : ([(("self" : Str), Value.ref x), (fld, u)] : List (Str × Value)).reverse.lookup ("self" : Str) = some (Value.ref x) := by
      show List.lookup ("self" : Str) [(fld, u), (("self" : Str), Value.ref x)] = _
      have e : ((("self" : Str)) == fld) = false := by simpa using hne
      simp [List.lookup, e]
    have lfld : ([(("self" : Str), Value.ref x), (fld, u)] : List (Str × Value)).reverse.lookup fld = some u := by
      show List.lookup fld [(fld, u), (("self" : Str), Value.ref x)] = _
      simp [List.lookup]
    refine ks_wpAt_execs_cons (ks_wpAt_Expr_any (ks_wpAt_MethodCall (pl := pl) ?_ (hev _)) (by simp [interactive, hk]))
    refine ks_wpAt_super_base (f := fI) (cc := cda) hks hkc (by decide +kernel) rfl (hk₁ _ _ (KX _ _ lk)) rfl rfl rfl (hk₁ _ _ (KX _ _ hcode)) rfl hvs hfile T.top ?_
    refine PySem.W.ks_loadName_global hk hks (loadGlobal_builtin (env := PySem.W.ksEnv qual sc s.heap.objs.size fI (.ref cda) cc) (e0.mod.glob.keeps kb) mgs (hmb.keeps kb) ((hbb _ (by decide +kernel)).trans (by first | boot_by_name | rfl | kernel_rfl)) ⟨rfl, ?_⟩)
    refine wpAny_loadName_free hk hkc rfl ⟨_, X1 _ _ hcell, rfl⟩ ?_
    refine wpAny_loadName_local hk hkself hns lself ?_
    have hD1 : h₁.get? C = some _ := X1 _ _ hC
    have hx1 := hk₁ _ _ hx
    have I1 : PySem.W.InstAt h₁ x _ C none := ⟨hx1, rfl, rfl, trivial⟩
    refine ks_wpAny_isType_cls hD1 rfl ⟨rfl, ?_⟩
    refine ks_wpAny_call_super hD1 rfl hx1 rfl (fun c e => by cases e) (PySem.W.looks_mroIn X1 T.mr) (fun h₂ hso k₂ => ?_)
    have X2 : K.In h₂ := X1.keeps k₂
    have hx2 := k₂ _ _ hx1
    have I2 : PySem.W.InstAt h₂ x _ C none := ⟨hx2, rfl, rfl, trivial⟩
    have hI : PySem.W.Looks (model P w) h₂ (isInstance (.ref x) (.type "ValueError")) true := I2.type.andThen (PySem.W.looks_subIn X2 T.sv)
    have hsi : PySem.W.alongIn K "__init__" ((((.ref C :: bm : List Value)).dropWhile (· != .ref C)).drop 1) = some (some (.builtin "ValueError.__init__")) := by
      have z := T.si
      unfold PySem.W.ks_superIn at z
      rw [hcl] at z
      exact z
    refine PySem.W.kxs_getMethod PySem.W.kxs_ValueError hso (PySem.W.looks_opaque X2 T.opq) (l₀ := .ref C :: bm) (fun A Q E s k q => wpAny_bind ((PySem.W.looks_clsIn X2 hcl) A _ E s k (wpAny_pure q))) rfl X2 hsi hI (PySem.W.ks_ne X2 I2 hcl) (by decide +kernel) ?_
    have k₃ : ∀ b o, h₂.get? b = some o → (h₂.push (PySem.W.kxs_mw "ValueError.__init__" x)).get? b = some o := fun b o e => Heap.get?_push_of_some _ e
    have hu3 : (h₂.push (PySem.W.kxs_mw "ValueError.__init__" x)).get? h₂.objs.size = some (PySem.W.kxs_mw "ValueError.__init__" x) := Heap.get?_push_size _ rfl
    have ns3 : (h₂.push (PySem.W.kxs_mw "ValueError.__init__" x)).Ns s.heap.objs.size (fun y => ([(("self" : Str), Value.ref x), (fld, u)] : List (Str × Value)).reverse.lookup y) := hns.keeps fun b o e => k₃ b o (k₂ b o e)
    refine PySem.W.kxs_callWith (i := "ValueError.__init__") (x := x) rfl (evalArgs_plain (Calls.spliced_cons (wpAny_Name (wpAny_loadName_local hk hkf ns3 lfld (Calls.spliced_nil ⟨hu3, ?_⟩)) T.fdb)))
    have X3 : K.In (h₂.push (PySem.W.kxs_mw "ValueError.__init__" x)) := X2.keeps k₃
    have hx3 := k₃ _ _ hx2
    have hC3 := X3 _ _ hC
    show wpAny (model P w) _ (call (.ref h₂.objs.size) [u]) _ _ _
    refine wpAny_call (codeAny_of_tree ?_)
    show wpAny _ _ (callAny (.ref h₂.objs.size) ⟨[u], []⟩) _ _ _
    simp only [callAny]
    refine wpAny_bind (wpAny_load hu3 ?_)
    simp only [PySem.W.kxs_mw, show (Value.type "method-wrapper" == Value.type "method" || Value.type "method-wrapper" == Value.type "builtin_function_or_method" || Value.type "method-wrapper" == Value.type "method-wrapper") = true by decide, if_true]
    refine PySem.W.KFB.if_so (by decide) ?_
    refine wpAny_bind (PySem.W.check_bound_init PySem.F.excBase_ValueError.toExcCallFacts hC3 hx3 rfl ?_)
    refine wpAny_bind (wpAny_pure (wpAny_pure ?_))
    refine ⟨plainId_quiet PySem.F.excBase_ValueError.init.plain _, codeAny_builtin PySem.F.excBase_ValueError.initEntry ?_⟩
    refine PySem.W.exc_init_tree (cls := .ref C) (t0 := t1) (dv := none) (c2 := .none) (c3 := .none) (b4 := .bool false) hx3 (by show 1 ≤ sizeLine; rw [sizeLine_eq]; decide) (fun h₄ k₄ hx4 _ => ?_)
    have nxL : s.heap.objs.size ≠ x := Nat.ne_of_gt hxs
    have X4 : K.In h₄ := fun b o e => k₄ b o (fun z => by
      have y := X3 _ _ e
      rw [z, hx3] at y
      have y2 := e0.mod.kin b o e
      have y3 := (e0.bs b o y2).2
      rw [z, ea] at y3
      cases y3) (X3 b o e)
    have ns4 : h₄.Ns s.heap.objs.size (fun y => ([(("self" : Str), Value.ref x), (fld, u)] : List (Str × Value)).reverse.lookup y) := by
      obtain ⟨o, es, ep, ho, rr⟩ := ns3
      exact ⟨o, es, ep, k₄ _ _ nxL ho, rr⟩
    show PySem.wpAt _ _ _ (execs [.Assign [.Attribute (.Name "self" q7) fld q8] (.Name fld q9) q10] _) _ _ _
    refine ks_wpAt_execs_cons (ks_wpAt_Assign_Attr (wpAt_of_wpAny (wpAny_Name (wpAny_loadName_local hk hkf ns4 lfld ?_) T.fdb)))
    refine wpAny_Name (wpAny_loadName_local hk hkself ns4 lself ?_) (by decide +kernel)
    refine PySem.W.set_plain X4 (ox := HandSPX.excO C _) (od := none) ⟨hx4, rfl, rfl, trivial⟩ T.o.sa ?_
    refine HandSPX.exc_osa X4 hx4 hcl (show HandSPX.refsVE (.ref C :: bm) = true from hbm) rfl T.no (fun h₅ tk₅ dx k₅ dn dne hx5 hn5 => ?_)
    refine wpAt_of_wpAny (wpAny_execs_nil ?_)
    have kk : ∀ b o, b ≠ x → s.heap.get? b = some o → h₅.get? b = some o := fun b o hb e => k₅ b o hb (k₄ b o hb (k₃ b o (k₂ b o (hk₁ b o e))))
    have dns : s.heap.objs.size ≤ dx := by
      obtain ⟨o, es, ep, ho, rr⟩ := ns4
      exact Nat.le_trans (Nat.le_of_lt (Heap.lt_size ho)) dn
    have hnd : H dx = none := e0.hok.fresh dns
    have nd : ∀ {b : Addr} {o : Obj}, s.heap.get? b = some o → b ≠ dx := fun {b o} q => Nat.ne_of_lt (Nat.lt_of_lt_of_le (Heap.lt_size q) dns)
    have na : ∀ {b : Addr}, H b = none → b ≠ x := fun {b} n z => by
      rw [z, ea] at n
      cases n
    have Un1 : Un (frs outer) [] H (upd (upd H dx (exd dx [(fld, v)])) x (exo x C (some dx))) s.heap h₅ := {
      keep := fun b o q n _ _ => kk b o (na n) q
      slot := fun b o q n _ _ => ⟨o.slots, kk b o (na n) q⟩
      free := fun b o q n _ => by rw [upd_ne (na n), upd_ne (nd q)]; exact n
      there := fun b o q _ => by
        by_cases hb : b = x
        · exact ⟨_, by rw [hb]; exact hx5⟩
        · exact ⟨o, kk b o hb q⟩
      tups := fun b xs q => by rw [upd_ne (at_ne ea q exo_tup), upd_ne (ne_of_none q hnd)]; exact q
      frzs := fun b o v q => by rw [upd_ne (at_ne ea q exo_frz), upd_ne (ne_of_none q hnd)]; exact q
      tbls := fun b ps q => ⟨#[], by rw [upd_ne (at_ne ea q exo_tbl), upd_ne (ne_of_none q hnd), q]; simp⟩ }
    refine ⟨.non, _, rfl, e0.bare, Un1, fun b o q => ?_, rfl, hq dx hnd dne⟩
    by_cases hb : b = x
    · subst hb
      rw [upd_same] at q
      cases q
      exact exo_ok hx5
    · rw [upd_ne hb] at q
      by_cases hd : b = dx
      · subst hd
        rw [upd_same] at q
        cases q
        exact exd_ok hn5 (relO_put (fs := []) ru fun g => True.intro)
      · rw [upd_ne hd] at q
        exact (e0.hok b o q).stay (fun c v hc z => kk c v (by
            rcases hc with hc | hc
            · rw [hc]
              exact hb
            · exact at_ne ea hc exo_own) z)
          (fun c hc => by rw [upd_ne (at_ne ea hc exo_own), upd_ne (ne_of_none hc hnd)]; exact hc) (fun c xs hc => by rw [upd_ne (at_ne ea hc exo_tup), upd_ne (ne_of_none hc hnd)]; exact hc)
end Sx

namespace Sx
open PySem PySem.Spec PyProof.Rows L2
/-! ### calls by a positional promise, what is raised wished for at the slots -/
section
variable {X : Cx} {pins : List (Addr × Obj)} {σ : L2.St} {H : Hp} {s : Shared} {k : Nat} {f C : Addr} {sp : Sp} {W : WX} {x m : Str} {p pos apos : Pos} {e o : Expr} {es : List Expr} {ta : TE} {t : TA} {pl : Sem Bool}
/-- what a def lets out: E, at any slots -/
abbrev wx (E : XK) : WX := fun cls d _ H => E cls d H
abbrev wn : WX := fun _ _ _ _ => False
theorem run_fnW {Q : VK} {us : List Value} {vs : List V} (F : FnR X.prog X.w X.K X.mg X.base (L2.CX X.prog X.w) k f sp) (hr : Room k X.A) (tk : Takes X W) (I : Inv X pins σ H s) (r : Vals vs us) (h : sp vs H Q (WE W σ)) :
    codeAny (model X.prog X.w) X.A (.call (.ref f) ⟨us, []⟩) (fun r s' => match r with | .ok (.ret v) => EP X pins σ Q v s' | .ok _ => False | .error e => X.xe e s') s := by
  refine codeAny_mono (F X.A X.stack s H us vs Q (WE W σ) hr I.env0 r h) fun r s' hq => ?_
  cases r with
  | error e => exact passAt tk σ pins H s e s' I hq
  | ok fl =>
    cases fl with
    | ret u => exact I.after hq
    | next => exact False.elim hq
    | brk => exact False.elim hq
    | cont => exact False.elim hq
def tCallW (sp : Sp) (W : WX) (t : TA) : TE := fun σ H Q => t σ H fun vs H1 => sp vs H1 Q (WE W σ)
theorem pe_fnW (F : FnR X.prog X.w X.K X.mg X.base (L2.CX X.prog X.w) k f sp) (hr : Room k X.A) (hg : Gl X x) (hm : X.mg x = some (.ref f)) (hk : PySem.W.keepIn X.K (.ref f) = true) (tk : Takes X W)
    (ha : PA X (e :: es) t) (hdb : (x == ("__debug__" : Str)) = false := by decide) (he : starEach (e :: es) X.env = (false, eval e X.env) :: starEach es X.env := by rfl) (hpl : (backTo pos (starEach es X.env)).any (·.1) = false := by rfl) :
    PE X (.Call (.Name x p) (e :: es) [] pos) (tCallW sp W t) := by
  refine ⟨fun pins s σ H Q I h => ?_⟩
  refine wpAny_Call_Name_kw (ld_glob I hg hm ?_ hdb)
  refine PySem.W.callWith_K (h₀ := X.base) I.ok.mod.kin hk (thn (ha.run pos pins s σ H _ I h) fun us s1 ⟨vs, H1, I1, r, q⟩ => ⟨I1.kIn, ?_⟩) he hpl
  exact wpAny_call (run_fnW F hr tk I1 r q)
theorem pe_fnW0 (F : FnR X.prog X.w X.K X.mg X.base (L2.CX X.prog X.w) k f sp) (hr : Room k X.A) (hg : Gl X x) (hm : X.mg x = some (.ref f)) (hk : PySem.W.keepIn X.K (.ref f) = true) (tk : Takes X W)
    (hdb : (x == ("__debug__" : Str)) = false := by decide) : PE X (.Call (.Name x p) [] [] pos) (tCallW sp W tNil) := by
  refine ⟨fun pins s σ H Q I h => ?_⟩
  refine wpAny_Call_Name_kw (ld_glob I hg hm ?_ hdb)
  exact PySem.W.callWith_K0 I.kIn hk (wpAny_call (run_fnW (us := []) (vs := []) F hr tk I .nil h))
def tMethW (C : Addr) (m : Str) (sp : Sp) (W : WX) (ta : TE) (t : TA) : TE := fun σ H Q => ta σ H fun x H1 => ∃ a dx fs, x = .ref a ∧ H1 a = some (.ins C dx fs) ∧ fs.lookup m = none ∧ t σ H1 fun vs H2 => sp (x :: vs) H2 Q (WE W σ)
theorem pe_meW (he : PE X o ta) (c : Cls X.K C) (hm : Meth X.K C m f) (F : FnR X.prog X.w X.K X.mg X.base (L2.CX X.prog X.w) k f sp) (hr : Room k X.A) (tk : Takes X W) (ha : PA X (e :: es) t)
    (hst : starEach (e :: es) X.env = (false, eval e X.env) :: starEach es X.env := by rfl) (hpl : (backTo pos (starEach es X.env)).any (·.1) = false := by rfl)
    (ht : eval (.Call (.Attribute o m apos) (e :: es) [] pos) X.env = (do
      let ov ← eval o X.env
      standAt apos.atName
      let (f, first) ← holding [ov] (getMethod ov m pl)
      callWith pos f first (backTo pos (starEach (e :: es) X.env)) (backToKw pos (keywordEach [] X.env))) := by rfl) :
    PE X (.Call (.Attribute o m apos) (e :: es) [] pos) (tMethW C m sp W ta t) := by
  refine ⟨fun pins s σ H Q I h => ?_⟩
  refine PySem.W.methodCall_KW (pl := pl) (thn (he.run pins s σ H _ I h) fun u s1 ⟨x, H1, I1, rx, a, dx, fs, ex, ea, l, q⟩ => ?_) ht
  subst ex
  obtain rfl : u = Value.ref a := rx
  refine getmeth_ok I1 ea c hm l ?_
  refine PySem.W.callWith_K (first := [.ref a]) (h₀ := X.base) I.ok.mod.kin hm.kp (thn (ha.run pos pins s1 σ H1 _ I1 q) fun us s2 ⟨vs, H2, I2, r, q2⟩ => ⟨I2.kIn, ?_⟩) hst hpl
  exact wpAny_call (run_fnW (us := .ref a :: us) (vs := .ref a :: vs) F hr tk I2 (.cons rfl r) q2)
theorem pe_meW0 (he : PE X o ta) (c : Cls X.K C) (hm : Meth X.K C m f) (F : FnR X.prog X.w X.K X.mg X.base (L2.CX X.prog X.w) k f sp) (hr : Room k X.A) (tk : Takes X W)
    (ht : eval (.Call (.Attribute o m apos) [] [] pos) X.env = (do
      let ov ← eval o X.env
      standAt apos.atName
      let (f, first) ← holding [ov] (getMethod ov m pl)
      callWith pos f first (backTo pos (starEach [] X.env)) (backToKw pos (keywordEach [] X.env))) := by rfl) :
    PE X (.Call (.Attribute o m apos) [] [] pos) (tMethW C m sp W ta tNil) := by
  refine ⟨fun pins s σ H Q I h => ?_⟩
  refine PySem.W.methodCall_KW (pl := pl) (thn (he.run pins s σ H _ I h) fun u s1 ⟨x, H1, I1, rx, a, dx, fs, ex, ea, l, q⟩ => ?_) ht
  subst ex
  obtain rfl : u = Value.ref a := rx
  refine getmeth_ok I1 ea c hm l ?_
  exact PySem.W.callWith_K0 (first := [.ref a]) I1.kIn hm.kp (wpAny_call (run_fnW (us := [.ref a]) (vs := [.ref a]) F hr tk I1 (.cons rfl .nil) q))
/-- C(..): a new instance and its dict, then __init__ -/
def tMakeW (C : Addr) (sp : Sp) (W : WX) (t : TA) : TE := fun σ H Q => t σ H fun vs H1 => ∀ x dx, H1 x = none → H1 dx = none → dx ≠ x →
  sp (.ref x :: vs) (upd (upd H1 dx (.own x)) x (.ins C dx [])) (fun v H2 => v = .non ∧ Q (.ref x) H2) (WE W σ)
theorem run_makeW {Q : VK} {us : List Value} {vs : List V} (M : Mk X.K C f) (F : FnR X.prog X.w X.K X.mg X.base (L2.CX X.prog X.w) k f sp) (hr : Room (k + 1) X.A) (tk : Takes X W) (I : Inv X pins σ H s) (r : Vals vs us)
    (h : ∀ x dx, H x = none → H dx = none → dx ≠ x → sp (.ref x :: vs) (upd (upd H dx (.own x)) x (.ins C dx [])) (fun v H2 => v = .non ∧ Q (.ref x) H2) (WE W σ)) :
    wpAny (model X.prog X.w) X.A (call (.ref C) us) (EP X pins σ Q) X.xe s := by
  have hq := h (s.heap.objs.size + 1) s.heap.objs.size (I.hok.fresh (Nat.le_succ _)) (I.hok.fresh (Nat.le_refl _)) (Nat.ne_of_lt (Nat.lt_succ_self _))
  have I2 := Inv.made (C := C) I
  have r2 : Vals (V.ref (s.heap.objs.size + 1) :: vs) (Value.ref (s.heap.objs.size + 1) :: us) := .cons rfl r
  refine wpAny_call (make_map (f := f) I.kIn M.makes M.init (beq_iff_eq.mp M.fn) (codeAny_mono (F _ X.stack _ _ (Value.ref (s.heap.objs.size + 1) :: us) _ _ (WE W σ) (hr.make C us []) (I2.env0.make C us []) r2 hq) fun r s' hq' => ?_))
  cases r with
  | error e => exact passAt tk σ pins _ _ e s' I2 hq'
  | ok fl =>
    cases fl with
    | ret u =>
      obtain ⟨v, H', I3, rv, ev, q3⟩ := I2.after hq'
      subst ev
      exact ⟨rv, ⟨V.ref (s.heap.objs.size + 1), H', I3, rfl, q3⟩⟩
    | next => exact False.elim hq'
    | brk => exact False.elim hq'
    | cont => exact False.elim hq'
theorem pe_mkW (M : Mk X.K C f) (F : FnR X.prog X.w X.K X.mg X.base (L2.CX X.prog X.w) k f sp) (hr : Room (k + 1) X.A) (hg : Gl X x) (hm : X.mg x = some (.ref C)) (tk : Takes X W)
    (ha : PA X (e :: es) t) (hdb : (x == ("__debug__" : Str)) = false := by decide) (he : starEach (e :: es) X.env = (false, eval e X.env) :: starEach es X.env := by rfl) (hpl : (backTo pos (starEach es X.env)).any (·.1) = false := by rfl) :
    PE X (.Call (.Name x p) (e :: es) [] pos) (tMakeW C sp W t) := by
  refine ⟨fun pins s σ H Q I h => ?_⟩
  refine wpAny_Call_Name_kw (ld_glob I hg hm ?_ hdb)
  refine PySem.W.callWith_K (h₀ := X.base) I.ok.mod.kin M.kp (thn (ha.run pos pins s σ H _ I h) fun us s1 ⟨vs, H1, I1, r, q⟩ => ⟨I1.kIn, ?_⟩) he hpl
  exact run_makeW M F hr tk I1 r q
theorem pe_mkW0 (M : Mk X.K C f) (F : FnR X.prog X.w X.K X.mg X.base (L2.CX X.prog X.w) k f sp) (hr : Room (k + 1) X.A) (hg : Gl X x) (hm : X.mg x = some (.ref C)) (tk : Takes X W)
    (hdb : (x == ("__debug__" : Str)) = false := by decide) : PE X (.Call (.Name x p) [] [] pos) (tMakeW C sp W tNil) := by
  refine ⟨fun pins s σ H Q I h => ?_⟩
  refine wpAny_Call_Name_kw (ld_glob I hg hm ?_ hdb)
  exact PySem.W.callWith_K0 I.kIn M.kp (run_makeW (us := []) M F hr tk I .nil h)
end
/-! ### an exception of an own class made, its __init__ by a positional promise -/
section
variable {X : Cx} {e : Expr} {es : List Expr} {ta : TA} {p pos : Pos}
def tMkE (C : Addr) (fld : Str) (ta : TA) : L2.St → Hp → XK → Prop := fun σ H Q => ta σ H fun vs H1 => ∃ v, vs = [v] ∧ ∀ d, H1 d = none → Q (.ref C) (some d) (upd H1 d (.xd [(fld, v)]))
theorem del_upd_eq {H1 : Hp} {a d C : Addr} {o1 o2 o3 : HO} (hda : d ≠ a) (hn : H1 a = none) : upd (del (upd (upd (upd H1 a o1) d o2) a o3) a) d (.xd []) = upd H1 d (.xd []) := by
  funext b
  by_cases hb : b = d
  · rw [hb, upd_same, upd_same]
  · rw [upd_ne hb, upd_ne hb]
    by_cases ha : b = a
    · rw [ha, del_same, hn]
    · rw [del_ne ha, upd_ne ha, upd_ne hb, upd_ne ha]
theorem pmk_sup {P : Program} {x fld : Str} {C fI : Addr} (hP : X.prog = P) (T : SupC P X.K C fI fld) (iC : PySem.W.findIn X.K (.ref C) "__init__" = some (some (.ref fI))) (tI : PySem.W.typeIn X.K (.ref fI) = some (.type "function"))
    (hr : Room 3 X.A) (hg : Gl X x) (hm : X.mg x = some (.ref C)) (ha : PA X (e :: es) ta)
    (hdb : (x == ("__debug__" : Str)) = false := by decide) (he : starEach (e :: es) X.env = (false, eval e X.env) :: starEach es X.env := by rfl) (hpl : (backTo pos (starEach es X.env)).any (·.1) = false := by rfl) :
    PMk X (.Call (.Name x p) (e :: es) [] pos) (tMkE C fld ta) := by
  subst hP
  have F1 : FnR X.prog X.w X.K X.mg X.base (L2.CX X.prog X.w) 2 fI (spExcI C fld) := fn_sup T
  intro pins s σ H Q I h
  obtain ⟨nm, q, N, bs, bm, sn, sub, ab, col, dd, k0, k1, k2, k3, k5, hC, hbm⟩ := T.o.cls
  refine wpAny_Call_Name_kw (ld_glob I hg hm ?_ hdb)
  refine PySem.W.callWith_K (h₀ := X.base) I.ok.mod.kin T.o.kC (thn (ha.run pos pins s σ H _ I h) fun us s1 ⟨vs, H1, I1, r1, v, ev, q1⟩ => ⟨I1.kIn, ?_⟩) he hpl
  subst ev
  show wpAny _ _ (call (.ref C) us) _ _ _
  obtain ⟨hp, g, dr, tk, os⟩ := s1
  have hsz : hp.objs.size ≤ hp.objs.size + 1 := Nat.le_succ _
  have hn : H1 (hp.objs.size + 1) = none := I1.hok.fresh hsz
  have kk : ∀ b o, hp.get? b = some o → ((hp.push (PySem.W.kdv_tup us)).push (PySem.HandSPX.excO C hp.objs.size)).get? b = some o := fun b o e => Heap.get?_push_of_some _ (Heap.get?_push_of_some _ e)
  have hget : ((hp.push (PySem.W.kdv_tup us)).push (PySem.HandSPX.excO C hp.objs.size)).get? (hp.objs.size + 1) = some (PySem.HandSPX.excO C hp.objs.size) := by heap_get
  have I2 : Inv X pins σ (upd H1 (hp.objs.size + 1) (exo (hp.objs.size + 1) C none)) ⟨(hp.push (PySem.W.kdv_tup us)).push (PySem.HandSPX.excO C hp.objs.size), g, dr, tk, os⟩ :=
    I1.laid (t' := tk) (a := hp.objs.size + 1) (o := exo (hp.objs.size + 1) C none) (h' := (hp.push (PySem.W.kdv_tup us)).push (PySem.HandSPX.excO C hp.objs.size)) kk hsz (exo_ok hget)
  have r2 : Vals [V.ref (hp.objs.size + 1), v] (Value.ref (hp.objs.size + 1) :: us) := .cons rfl r1
  have hus : us.length ≤ sizeLine := by
    rw [← Paired.length r1, sizeLine_eq]
    exact (by decide : 1 ≤ 16777216)
  have hsp : spExcI C fld [V.ref (hp.objs.size + 1), v] (upd H1 (hp.objs.size + 1) (exo (hp.objs.size + 1) C none)) (fun v' H2 => v' = .non ∧ ∃ d, H2 = upd (upd (upd H1 (hp.objs.size + 1) (exo (hp.objs.size + 1) C none)) d (exd d [(fld, v)])) (hp.objs.size + 1) (exo (hp.objs.size + 1) C (some d)) ∧ H1 d = none ∧ d ≠ hp.objs.size + 1) (fun _ _ _ => False) :=
    ⟨_, v, rfl, upd_same, fun dx hdx hne => ⟨rfl, dx, rfl, by rw [upd_ne hne] at hdx; exact hdx, hne⟩⟩
  refine wpAny_call (PySem.HandSPX.call_own F.excBase_ValueError (fun Y => PySem.HandSPX.refsVE_contains Y bm hbm) (I1.kIn _ _ hC) (PySem.W.looks_findIn I1.kIn iC) (fun self => PySem.W.bind_fn I1.kIn self tI) hus
    (codeAny_mono (F1 _ X.stack _ _ (Value.ref (hp.objs.size + 1) :: us) _ _ (fun _ _ _ => False) (hr.make C us []) (I2.env0.make C us []) r2 hsp) fun r s' hq' => ?_))
  cases r with
  | error er =>
    obtain ⟨_, _, _, _, _, _, _, _, _, _, _, _, z⟩ := hq'
    exact z.elim
  | ok fl =>
    cases fl with
    | ret u =>
      obtain ⟨v', H2, os2, bare2, un2, hok2, rv, ev, d, eH, hd1, hda⟩ := hq'
      subst ev
      subst eH
      obtain ⟨h2, g2, d2, t2, os'⟩ := s'
      refine ⟨rv, mk_end (d := d) (fs := [(fld, v)]) (raises_own T.o.exC T.o.tyC) I1 hsz kk un2 hok2 os2 bare2 upd_same (by rw [upd_ne hda, upd_same]) hd1 ?_⟩
      have e : upd (del (upd (upd (upd H1 (hp.objs.size + 1) (exo (hp.objs.size + 1) C none)) d (exd d [(fld, v)])) (hp.objs.size + 1) (exo (hp.objs.size + 1) C (some d))) (hp.objs.size + 1)) d (.xd [(fld, v)]) = upd H1 d (.xd [(fld, v)]) := by
        funext b
        by_cases hb : b = d
        · rw [hb, upd_same, upd_same]
        · rw [upd_ne hb, upd_ne hb]
          by_cases ha : b = hp.objs.size + 1
          · rw [ha, del_same, hn]
          · rw [del_ne ha, upd_ne ha, upd_ne hb, upd_ne ha]
      rw [e]
      exact q1 d hd1
    | next => exact False.elim hq'
    | brk => exact False.elim hq'
    | cont => exact False.elim hq'
end
end Sx

namespace Sx
open PySem PySem.Spec PyProof.Rows L2
/-! ### data -/
inductive D where
  | non | bl (b : Bool) | int (i : Int) | str (x : Str) | tup (ds : List D) | lst (ds : List D) | ins (C : Str) (fs : List (Str × D)) | dic
mutual
/-- the value v is, in the heap H, the data d -/
inductive Is (K : PySem.W.Frag) (H : Hp) : V → D → Prop where
  | non : Is K H .non .non
  | bl (b : Bool) : Is K H (.bl b) (.bl b)
  | int (i : Int) : Is K H (.int i) (.int i)
  | str (x : Str) : Is K H (.str x) (.str x)
  | tup {a : Addr} {xs : List V} {ds : List D} (h : SqT K H a xs) (hs : IsL K H xs ds) : Is K H (.ref a) (.tup ds)
  | lst {a : Addr} {xs : List V} {ds : List D} (h : SqL K H a xs) (hs : IsL K H xs ds) : Is K H (.ref a) (.lst ds)
  | ins {a dx : Addr} {C : Str} {fs : List (Str × V)} {gs : List (Str × D)} (h : H a = some (.ins (He.ga K C) dx fs)) (hs : IsF K H fs gs) : Is K H (.ref a) (.ins C gs)
  | dic {a : Addr} (h : H a = some (.dK [])) : Is K H (.ref a) .dic
inductive IsL (K : PySem.W.Frag) (H : Hp) : List V → List D → Prop where
  | nil : IsL K H [] []
  | cons {v : V} {d : D} {vs : List V} {ds : List D} (h : Is K H v d) (hs : IsL K H vs ds) : IsL K H (v :: vs) (d :: ds)
inductive IsF (K : PySem.W.Frag) (H : Hp) : List (Str × V) → List (Str × D) → Prop where
  | nil : IsF K H [] []
  | cons {f : Str} {v : V} {d : D} {fs : List (Str × V)} {gs : List (Str × D)} (h : Is K H v d) (hs : IsF K H fs gs) : IsF K H ((f, v) :: fs) ((f, d) :: gs)
end
theorem Same.seqT {K : PySem.W.Frag} {H H' : Hp} {a : Addr} {xs : List V} (e : Same H H') (h : SqT K H a xs) : SqT K H' a xs := by
  rcases h with (h | ⟨o, h⟩) | h
  · exact .inl (.inl (e _ _ h))
  · exact .inl (.inr ⟨o, e _ _ h⟩)
  · exact .inr h
section
variable {K : PySem.W.Frag} {H H' : Hp}
mutual
theorem Is.mono (e : Same H H') : ∀ {v : V} {d : D}, Is K H v d → Is K H' v d
  | _, _, .non => .non
  | _, _, .bl b => .bl b
  | _, _, .int i => .int i
  | _, _, .str x => .str x
  | _, _, .tup h hs => .tup (Same.seqT e h) (IsL.mono e hs)
  | _, _, .lst h hs => .lst (Same.seq e h) (IsL.mono e hs)
  | _, _, .ins h hs => .ins (e _ _ h) (IsF.mono e hs)
  | _, _, .dic h => .dic (e _ _ h)
theorem IsL.mono (e : Same H H') : ∀ {vs : List V} {ds : List D}, IsL K H vs ds → IsL K H' vs ds
  | _, _, .nil => .nil
  | _, _, .cons h hs => .cons (Is.mono e h) (IsL.mono e hs)
theorem IsF.mono (e : Same H H') : ∀ {fs : List (Str × V)} {gs : List (Str × D)}, IsF K H fs gs → IsF K H' fs gs
  | _, _, .nil => .nil
  | _, _, .cons h hs => .cons (Is.mono e h) (IsF.mono e hs)
end
theorem IsL.length : ∀ {vs : List V} {ds : List D}, IsL K H vs ds → vs.length = ds.length
  | _, _, .nil => rfl
  | _, _, .cons _ hs => congrArg Nat.succ hs.length
theorem IsL.get : ∀ {vs : List V} {ds : List D} {i : Nat} {d : D}, IsL K H vs ds → ds[i]? = some d → ∃ v, vs[i]? = some v ∧ Is K H v d
  | _, _, _, _, .nil, e => by simp at e
  | _, _, 0, _, .cons h _, e => by simp at e; subst e; exact ⟨_, rfl, h⟩
  | _, _, i + 1, d, .cons _ hs, e => by
    obtain ⟨v, h1, h2⟩ := IsL.get (i := i) (d := d) hs (by simpa using e)
    exact ⟨v, by simpa using h1, h2⟩
theorem IsL.getV : ∀ {vs : List V} {ds : List D} {i : Nat} {v : V}, IsL K H vs ds → vs[i]? = some v → ∃ d, ds[i]? = some d ∧ Is K H v d
  | _, _, _, _, .nil, e => by simp at e
  | _, _, 0, _, .cons h _, e => by simp at e; subst e; exact ⟨_, rfl, h⟩
  | _, _, i + 1, v, .cons _ hs, e => by
    obtain ⟨d, h1, h2⟩ := IsL.getV (i := i) (v := v) hs (by simpa using e)
    exact ⟨d, by simpa using h1, h2⟩
theorem IsL.append : ∀ {vs ws : List V} {ds es : List D}, IsL K H vs ds → IsL K H ws es → IsL K H (vs ++ ws) (ds ++ es)
  | _, _, _, _, .nil, s => s
  | _, _, _, _, .cons h hs, s => .cons h (IsL.append hs s)
theorem IsL.snoc {vs : List V} {ds : List D} {v : V} {d : D} (hs : IsL K H vs ds) (h : Is K H v d) : IsL K H (vs ++ [v]) (ds ++ [d]) := hs.append (.cons h .nil)
theorem IsL.take : ∀ {vs : List V} {ds : List D} (n : Nat), IsL K H vs ds → IsL K H (vs.take n) (ds.take n)
  | _, _, 0, _ => .nil
  | _, _, _ + 1, .nil => .nil
  | _, _, n + 1, .cons h hs => .cons h (IsL.take n hs)
theorem IsL.drop : ∀ {vs : List V} {ds : List D} (n : Nat), IsL K H vs ds → IsL K H (vs.drop n) (ds.drop n)
  | _, _, 0, r => r
  | _, _, _ + 1, .nil => .nil
  | _, _, n + 1, .cons _ hs => IsL.drop n hs
theorem IsL.set {v : V} {d : D} (h : Is K H v d) : ∀ {vs : List V} {ds : List D} (n : Nat), IsL K H vs ds → IsL K H (vs.set n v) (ds.set n d)
  | _, _, _, .nil => .nil
  | _, _, 0, .cons _ hs => .cons h hs
  | _, _, n + 1, .cons q hs => .cons q (IsL.set h n hs)
theorem IsL.rev : ∀ {vs : List V} {ds : List D}, IsL K H vs ds → IsL K H vs.reverse ds.reverse
  | _, _, .nil => .nil
  | _, _, .cons h hs => by
    rw [List.reverse_cons, List.reverse_cons]
    exact (IsL.rev hs).append (.cons h .nil)
theorem IsL.ints : ∀ (ns : List Int), IsL K H (ns.map V.int) (ns.map D.int)
  | [] => .nil
  | n :: ns => .cons (.int n) (IsL.ints ns)
theorem IsL.ofInts : ∀ {vs : List V} {ns : List Int}, IsL K H vs (ns.map D.int) → vs = ns.map V.int
  | _, [], .nil => rfl
  | _, n :: ns, .cons h hs => by
    cases h
    rw [IsL.ofInts hs]
    rfl
theorem IsF.look : ∀ {fs : List (Str × V)} {gs : List (Str × D)} {f : Str} {d : D}, IsF K H fs gs → gs.lookup f = some d → ∃ v, fs.lookup f = some v ∧ Is K H v d
  | _, _, _, _, .nil, e => by cases e
  | _, _, f, d, .cons (f := g) h hs, e => by
    by_cases q : f = g
    · subst q
      simp [List.lookup] at e ⊢
      subst e
      exact h
    · have q' : (f == g) = false := by simpa using q
      simp only [List.lookup, q'] at e ⊢
      exact IsF.look hs e
theorem IsF.none : ∀ {fs : List (Str × V)} {gs : List (Str × D)} {f : Str}, IsF K H fs gs → gs.lookup f = none → fs.lookup f = none
  | _, _, _, .nil, _ => rfl
  | _, _, f, .cons (f := g) h hs, e => by
    by_cases q : f = g
    · subst q
      simp [List.lookup] at e
    · have q' : (f == g) = false := by simpa using q
      simp only [List.lookup, q'] at e ⊢
      exact IsF.none hs e
theorem Is.int_eq {v : V} {i : Int} (h : Is K H v (.int i)) : v = .int i := by cases h; rfl
theorem Is.str_eq {v : V} {i : Str} (h : Is K H v (.str i)) : v = .str i := by cases h; rfl
theorem Is.bl_eq {v : V} {i : Bool} (h : Is K H v (.bl i)) : v = .bl i := by cases h; rfl
theorem Is.non_eq {v : V} (h : Is K H v .non) : v = .non := by cases h; rfl
end
/-! ### names of classes -/
/-- a class: a built-in one, one of the text -/
inductive Tn where
  | b (n : String) | c (x : Str)
def Tn.val (K : PySem.W.Frag) : Tn → Value
  | .b n => .type n
  | .c x => .ref (He.ga K x)
abbrev D.tn : D → Tn
  | .non => .b "NoneType"
  | .bl _ => .b "bool"
  | .int _ => .b "int"
  | .str _ => .b "str"
  | .tup _ => .b "tuple"
  | .lst _ => .b "list"
  | .ins C _ => .c C
  | .dic => .b "dict"
/-! ### facts of the written part, asked by names -/
inductive Fx where
  | glo (x : Str) | free (x : Str) | int (x : Str) (i : Int) | blt (x : Str) (id : String) | cls (x : Str) | noat (x f : Str) | meth (x m : Str) | mkr (x : Str) | tyi (x : Str) | self (x : Str)
  | exm (x y : Str) (b : Bool) | kit (t c : Tn) (b : Bool) | oex (x : Str) | xf (x : Str) | sup (x fld : Str) | xis (x : Str) | keep (x : Str) | find (x f : Str) | conI (x f : Str) (i : Int)
def oexB (K : PySem.W.Frag) (C : Addr) : Bool := match K.lookup C with
  | some ⟨.type "type", _, .cls cd, sl⟩ => (match cd.mro, sl.toList with
    | .ref C' :: bm, [_, _, _, _, some (.builtin n), _] => decide (C' = C) && (decide (n = "ValueError.__new__") && (!cd.hasDel && (cd.hasDict && HandSPX.refsVE bm)))
    | _, _ => false)
  | _ => false
theorem oexB_ok {K : PySem.W.Frag} {C : Addr} (q : oexB K C = true) : ∃ nm qn N bs bm sn sub ab col dd k0 k1 k2 k3 k5, K.lookup C = some (excClassObj nm qn C N bs bm true sn sub ab col dd k0 k1 k2 k3 k5 "ValueError.__new__") ∧ HandSPX.refsVE bm = true := by
  unfold oexB at q
  split at q
  · rename_i dd cd sl ho
    split at q
    · rename_i C' bm k0 k1 k2 k3 n k5 hm hs
      simp only [Bool.and_eq_true, decide_eq_true_eq, Bool.not_eq_true'] at q
      obtain ⟨rfl, rfl, hdel, hh, ht⟩ := q
      obtain ⟨nm, bs, mro, ns, qn, hd, sn, sub, ab, col, del⟩ := cd
      dsimp only at hm hdel hh
      subst hm hdel hh
      have hsl : sl = #[k0, k1, k2, k3, some (.builtin "ValueError.__new__"), k5] := by
        obtain ⟨l⟩ := sl
        simp only at hs
        rw [hs]
      subst hsl
      exact ⟨nm, qn, ns, bs, bm, sn, sub, ab, col, dd, k0, k1, k2, k3, k5, ho, ht⟩
    · cases q
  · cases q
def eqB (a b : Option Bool) : Bool := decide (a = b)
def eqV (a b : Option Value) : Bool := decide (a = b)
/-- the def of x's __init__: its closure is the class's cell, its code object is of the file -/
def supB (K : PySem.W.Frag) (x : Str) : Bool := match K.lookup (He.ma K (He.ga K x) "__init__") with
  | some ⟨_, _, .func fd, _⟩ => (match fd.closure, fd.defaults, fd.code with
    | [(n, cc)], .none, .ref cda => decide (n = "__class__") && (PySem.W.codeIn K (.ref cda) fd.qualname && ((match K.lookup cc with
        | some ⟨_, _, .cell (some (.ref D)), _⟩ => decide (D = He.ga K x)
        | _ => false) && (match K.lookup cda with
        | some ⟨_, _, .fields vs, _⟩ => (match (vs : Array Value)[2]? with
          | some (Value.str f _) => (("/claim/cut.py" : Str) == f)
          | _ => false)
        | _ => false)))
    | _, _, _ => false)
  | _ => false
def Fx.ok (K : PySem.W.Frag) : Fx → Bool
  | .glo x => (He.Fa.glo x).ok K
  | .free x => (He.Fa.free x).ok K
  | .int x i => (He.Fa.int x i).ok K
  | .blt x id => He.eqO (PySem.W.nsIn K mainGlobals x) (some (some (.builtin id)))
  | .cls x => (He.Fa.cls x).ok K
  | .noat x f => (He.Fa.noat x f).ok K
  | .meth x m => (He.Fa.meth x m).ok K
  | .mkr x => (He.Fa.mkr x).ok K
  | .tyi x => He.eqO (PySem.W.findIn K (.ref (He.ga K x)) "__class__") (some (some (.builtin "object.__class__"))) && (He.eqO (PySem.W.specialIn K (.builtin "object.__class__") "__get__") (some (some (.builtin "getset_descriptor.__get__"))) &&
      (eqB (PySem.W.takesIn K (.builtin "object.__class__")) (some true) && eqB (PySem.W.mroIn K (He.ga K x) (.type "object")) (some true)))
  | .self x => PySem.W.selfFirst K (He.ga K x)
  | .exm x y b => (He.Fa.exm x y b).ok K
  | .kit t c b => eqB (PySem.W.kitOne K (t.val K) (c.val K)) (some b)
  | .oex x => oexB K (He.ga K x) && (He.eqO (PySem.W.findIn K (.ref (He.ga K x)) "__setattr__") (some (some (.builtin "object.__setattr__"))) && (eqB (PySem.W.subIn K (.ref (He.ga K x)) (.type "BaseException")) (some true) &&
      (eqV (PySem.W.typeIn K (.ref (He.ga K x))) (some (.type "type")) && PySem.W.keepIn K (.ref (He.ga K x)))))
  | .xf x => xfB K (He.ga K x)
  | .sup x fld => He.eqO (PySem.W.findIn K (.ref (He.ga K x)) fld) (some none) && (He.eqO (PySem.W.ks_superIn K (He.ga K x) (He.ga K x) "__init__") (some (some (.builtin "ValueError.__init__"))) &&
      (eqB (PySem.W.subIn K (.ref (He.ga K x)) (.type "ValueError")) (some true) && (eqB (PySem.W.mroIn K (He.ga K x) (.ref (He.ga K x))) (some true) && (He.eqO (PySem.W.nsIn K mainGlobals "super") (some none) &&
      (He.eqO (PySem.W.nsIn K cStatics "thirdparty.any") (some none) && (supB K x && (He.eqO (PySem.W.findIn K (.ref (He.ga K x)) "__init__") (some (some (.ref (He.ma K (He.ga K x) "__init__")))) && eqV (PySem.W.typeIn K (.ref (He.ma K (He.ga K x) "__init__"))) (some (.type "function")))))))))
  | .xis x => He.eqO (PySem.W.findIn K (.ref (He.ga K x)) "__class__") (some (some (.builtin "object.__class__"))) && (He.eqO (PySem.W.specialIn K (.builtin "object.__class__") "__get__") (some (some (.builtin "getset_descriptor.__get__"))) &&
      (eqB (PySem.W.takesIn K (.builtin "object.__class__")) (some true) && eqB (PySem.W.mroIn K (He.ga K x) (.type "object")) (some true)))
  | .keep x => PySem.W.keepIn K (.ref (He.ga K x))
  | .find x f => He.eqO (PySem.W.findIn K (.ref (He.ga K x)) f) (some none)
  | .conI x f i => (match PySem.W.findIn K (.ref (He.ga K x)) f with
    | some (some (.int j t)) => decide (j = i) && (He.eqO (PySem.W.specialIn K (.int j t) "__get__") (some none) && !PySem.W.copiedNames.contains f)
    | _ => false)
/-! ### the Hook -/
abbrev FnZ : Type := Option (Str × Str × Arguments × FuncBody × Scope × Addr × Addr)
def fnZ (K : PySem.W.Frag) (x : Str) : FnZ := match K.lookup (He.ma K (He.ga K x) "__init__") with
  | some ⟨_, _, .func fd, _⟩ => some (fd.name, fd.qualname, fd.params, fd.body, fd.scope, fd.globals, fd.builtins)
  | _ => none
/-- an __init__ with super(): the class, its qualified name, its text -/
structure SupD where
  at_ : Str
  qual : Str
  params : Arguments
  body : List Stmt
  scope : Scope
def SupD.val (d : SupD) : FnZ := some ("__init__", d.qual, d.params, .stmts d.body, d.scope, mainGlobals, builtinsNs)
abbrev AlM : Type := Bool × List He.FnW × List FnZ
def obsM (fa : List Fx) (fn : List He.DefD) (fz : List SupD) (K : PySem.W.Frag) : AlM := ((fa.all fun f => f.ok K) && fn.all fun d => d.ok K, fn.map fun d => He.fnW K d.at_, fz.map fun d => fnZ K d.at_)
def valM (fn : List He.DefD) (fz : List SupD) : AlM := (true, fn.map He.DefD.val, fz.map SupD.val)
def SaysM (fa : List Fx) (fn : List He.DefD) (fz : List SupD) (K : PySem.W.Frag) : Prop := obsM fa fn fz K = valM fn fz
def obsMG (n : Nat) (fa : List Fx) (fn : List He.DefD) (fz : List SupD) (g : Addr → Option Obj) : AlM := obsM fa fn fz (He.frG g (He.asD g n ++ [cStatics]))
def hookM (n : Nat) (fa : List Fx) (fn : List He.DefD) (fz : List SupD) : PySem.W.Hook where
  α := AlM
  obs := fun s => obsMG n fa fn fz s.heap.get?
  val := fun _ => valM fn fz
  says := fun _ h => ∃ K : PySem.W.Frag, K.In h ∧ SaysM fa fn fz K
  of := fun _ _ e => ⟨_, He.frG_in, e⟩
  keeps := fun _ _ _ ⟨K, hK, c⟩ k => ⟨K, PySem.W.Frag.In.keeps hK k, c⟩
theorem obsMG_eq {n : Nat} {fa : List Fx} {fn : List He.DefD} {fz : List SupD} {g : Addr → Option Obj} {s : Shared} (h : ∀ a, g a = s.heap.get? a) : obsMG n fa fn fz g = (hookM n fa fn fz).obs s := by
  have e : g = s.heap.get? := funext h
  rw [e] <;> rfl
def fdOf (K : PySem.W.Frag) (p : Str × Option Str) : FuncData := match K.lookup (He.fAd K p) with
  | some ⟨_, _, .func fd, _⟩ => fd
  | _ => default
section
variable {fa : List Fx} {fn : List He.DefD} {fz : List SupD} {K : PySem.W.Frag}
theorem SaysM.fact (c : SaysM fa fn fz K) (i : Nat) {f : Fx} (h : fa[i]? = some f := by rfl) : f.ok K = true := by
  have c1 := (He.ba (show ((fa.all fun f => f.ok K) && fn.all fun d => d.ok K) = true from congrArg (fun z : AlM => z.1) c)).1
  exact List.all_eq_true.mp c1 f (List.mem_of_getElem? h)
theorem SaysM.def_ (c : SaysM fa fn fz K) (i : Nat) {d : He.DefD} (h : fn[i]? = some d := by rfl) : ∃ fd, FunD K d.name d.qual d.params d.body d.scope (d.dvs K) (d.kws K) (He.fAd K d.at_) fd := by
  have c2 := (He.ba (show ((fa.all fun f => f.ok K) && fn.all fun d => d.ok K) = true from congrArg (fun z : AlM => z.1) c)).2
  have e : fn.map (fun d => He.fnW K d.at_) = fn.map He.DefD.val := congrArg (fun z : AlM => z.2.1) c
  have e2 : (fn.map fun d => He.fnW K d.at_)[i]? = (fn.map He.DefD.val)[i]? := by rw [e]
  rw [List.getElem?_map, List.getElem?_map, h] at e2
  exact He.DefD.funD (Option.some.inj e2) (List.all_eq_true.mp c2 d (List.mem_of_getElem? h))
theorem SaysM.sup_ (c : SaysM fa fn fz K) (i : Nat) {d : SupD} (h : fz[i]? = some d := by rfl) : fnZ K d.at_ = d.val := by
  have e : fz.map (fun d => fnZ K d.at_) = fz.map SupD.val := congrArg (fun z : AlM => z.2.2) c
  have e2 : (fz.map fun d => fnZ K d.at_)[i]? = (fz.map SupD.val)[i]? := by rw [e]
  rw [List.getElem?_map, List.getElem?_map, h] at e2
  exact Option.some.inj e2
theorem tyi_ok {x : Str} (c : (Fx.tyi x).ok K = true) : PySem.W.findIn K (.ref (He.ga K x)) "__class__" = some (some (.builtin "object.__class__")) ∧ PySem.W.specialIn K (.builtin "object.__class__") "__get__" = some (some (.builtin "getset_descriptor.__get__")) ∧
    PySem.W.takesIn K (.builtin "object.__class__") = some true ∧ PySem.W.mroIn K (He.ga K x) (.type "object") = some true := by
  obtain ⟨c1, c⟩ := He.ba c
  obtain ⟨c2, c⟩ := He.ba c
  obtain ⟨c3, c4⟩ := He.ba c
  exact ⟨He.eqO_ok c1, He.eqO_ok c2, of_decide_eq_true c3, of_decide_eq_true c4⟩
theorem oex_ok {x : Str} (c : (Fx.oex x).ok K = true) : OexC K (He.ga K x) := by
  obtain ⟨c1, c⟩ := He.ba c
  obtain ⟨c2, c⟩ := He.ba c
  obtain ⟨c3, c⟩ := He.ba c
  obtain ⟨c4, c5⟩ := He.ba c
  exact ⟨oexB_ok c1, He.eqO_ok c2, of_decide_eq_true c3, of_decide_eq_true c4, c5⟩
theorem sup_ok {P : Program} {x fld : Str} {d : SupD} (co : (Fx.oex x).ok K = true) (c : (Fx.sup x fld).ok K = true) (e : fnZ K x = d.val) (htop : (P.main.scope.names.lookup ("super" : Str)).isSome = false) (hfile : P.main.file = "/claim/cut.py") (fdb : (fld == ("__debug__" : Str)) = false)
    (hd : ∃ p1 p2 q1 q2 q3 q4 q5 q6 q7 q8 q9 q10, d.params = iA fld p1 p2 ∧ d.body = iB fld q1 q2 q3 q4 q5 q6 q7 q8 q9 q10 ∧
      d.scope.names.lookup ("super" : Str) = some .globalImplicit ∧ d.scope.names.lookup ("__class__" : Str) = some .free ∧ d.scope.names.lookup ("self" : Str) = some .local ∧ d.scope.names.lookup fld = some .local ∧ ((fld == ("self" : Str)) = false) ∧
      d.scope.kind = .function ∧ d.scope.isCoroutine = false ∧ d.scope.isGenerator = false ∧ (∀ x ∈ d.scope.names, x.2 ≠ .cell) ∧
      (∀ (kV doc pm : Value) (an : Option Addr) (cda : Addr) (ct : Value) (cc : Addr) (u1 u2 : Value), bindArgs (PySem.W.ksFn "__init__" d.qual (iA fld p1 p2) (iB fld q1 q2 q3 q4 q5 q6 q7 q8 q9 q10) d.scope .none kV doc pm an (.ref cda) ct cc) ⟨[u1, u2], []⟩ = pure [(("self" : Str), u1), (fld, u2)]) ∧
      ∃ pl : Sem Bool, ∀ env : Env, eval (.Call (.Attribute (.Call (.Name "super" q1) [] [] q2) "__init__" q3) [.Name fld q4] [] q5) env = (do
        let ov ← attributeBase (.Call (.Name "super" q1) [] [] q2) "__init__" env (eval (.Call (.Name "super" q1) [] [] q2) env)
        standAt q3.atName
        let (f, first) ← holding [ov] (getMethod ov "__init__" pl)
        callWith q5 f first (backTo q5 (starEach [.Name fld q4] env)) [])) :
    SupC P K (He.ga K x) (He.ma K (He.ga K x) "__init__") fld ∧ PySem.W.findIn K (.ref (He.ga K x)) "__init__" = some (some (.ref (He.ma K (He.ga K x) "__init__"))) ∧ PySem.W.typeIn K (.ref (He.ma K (He.ga K x) "__init__")) = some (.type "function") := by
  obtain ⟨p1, p2, q1, q2, q3, q4, q5, q6, q7, q8, q9, q10, hpar, hbody, h1, h2, h3, h4, h5, h6, h7, h8, h9, h10, pl, h11⟩ := hd
  obtain ⟨c1, c⟩ := He.ba c
  obtain ⟨c2, c⟩ := He.ba c
  obtain ⟨c3, c⟩ := He.ba c
  obtain ⟨c4, c⟩ := He.ba c
  obtain ⟨c5, c⟩ := He.ba c
  obtain ⟨c6, c⟩ := He.ba c
  obtain ⟨c7, c⟩ := He.ba c
  obtain ⟨c8, c9⟩ := He.ba c
  refine ⟨⟨oex_ok co, He.eqO_ok c1, He.eqO_ok c2, of_decide_eq_true c3, of_decide_eq_true c4, He.eqO_ok c5, htop, He.eqO_ok c6, fdb, ?_⟩, He.eqO_ok c8, of_decide_eq_true c9⟩
  unfold fnZ at e
  unfold supB at c7
  cases lk : K.lookup (He.ma K (He.ga K x) "__init__") with
  | none =>
    rw [lk] at c7
    cases c7
  | some o =>
    obtain ⟨oc, od, dt, osl⟩ := o
    rw [lk] at c7 e
    cases dt with
    | func fd =>
      obtain ⟨n1, n2, n3, n4, n5, n6, n7, n8, n9, n10, n11, n12, n13, n14, n15⟩ := fd
      have e2 : (some (n1, n2, n3, n4, n5, n6, n15) : FnZ) = some (("__init__" : Str), d.qual, d.params, FuncBody.stmts d.body, d.scope, mainGlobals, builtinsNs) := e
      simp only [Option.some.injEq, Prod.mk.injEq] at e2
      obtain ⟨z1, z2, z3, z4, z5, z6, z9⟩ := e2
      subst z1 z2 z3 z4 z5 z6 z9
      rw [hpar, hbody] at lk
      dsimp only at c7
      split at c7
      · rename_i n cc cda
        obtain ⟨d1, d2⟩ := He.ba c7
        obtain ⟨d2, d3⟩ := He.ba d2
        obtain ⟨d3, d4⟩ := He.ba d3
        have en : n = "__class__" := of_decide_eq_true d1
        subst en
        refine ⟨oc, od, d.qual, n9, n10, n11, n12, cda, n14, osl, cc, d.scope, p1, p2, q1, q2, q3, q4, q5, q6, q7, q8, q9, q10, by rw [hpar, hbody], d2, ?_, ?_, h1, h2, h3, h4, h5, h6, h7, h8, h9, h10 _ _ _ _ _ _ _, pl, h11⟩
        · split at d3
          · rename_i oc2 od2 D osl2 lk2
            have eD := of_decide_eq_true d3
            subst eD
            exact ⟨_, _, _, lk2⟩
          · cases d3
        · split at d4
          · rename_i oc2 od2 vs osl2 lk2
            split at d4
            · rename_i f tf hv
              exact ⟨_, _, _, _, f, tf, lk2, hv, by rw [hfile]; exact d4⟩
            · cases d4
          · cases d4
      · cases c7
    | _ => cases c7
end
/-! ### facts as instances -/
class IsCls (K : PySem.W.Frag) (C : Str) : Prop where
  cl : Cls K (He.ga K C)
  ty : (Fx.tyi C).ok K = true
class HasFld (K : PySem.W.Frag) (C f : Str) : Prop where
  no : NoAttr K (He.ga K C) f
class Kit (K : PySem.W.Frag) (t c : Tn) (b : outParam Bool) : Prop where
  h : PySem.W.kitOne K (t.val K) (c.val K) = some b
class Lk (gs : List (Str × D)) (f : Str) (d : outParam D) : Prop where
  h : gs.lookup f = some d
class Lk0 (gs : List (Str × D)) (f : Str) : Prop where
  h : gs.lookup f = none
structure Mg (K : PySem.W.Frag) (mg : Str → Option Value) : Prop where
  at_ : ∀ x o, PySem.W.nsIn K mainGlobals x = some o → mg x = o
theorem mg_mk {K : PySem.W.Frag} {h : Heap} {mg : Str → Option Value} (X : K.In h) (G : h.Ns mainGlobals mg) : Mg K mg := ⟨fun x o e => by
  cases o with
  | none => exact PySem.W.mg_none_of X G e
  | some v => exact PySem.W.mg_of X G e⟩
theorem glo_of {K : PySem.W.Frag} {mg : Str → Option Value} (M : Mg K mg) {x : Str} (c : (Fx.glo x).ok K = true) : mg x = some (.ref (He.ga K x)) := M.at_ x _ (He.eqO_ok c)
theorem free_of {K : PySem.W.Frag} {mg : Str → Option Value} (M : Mg K mg) {x : Str} (c : (Fx.free x).ok K = true) : mg x = none := M.at_ x _ (He.eqO_ok c)
theorem blt_of {K : PySem.W.Frag} {mg : Str → Option Value} (M : Mg K mg) {x : Str} {id : String} (c : (Fx.blt x id).ok K = true) : mg x = some (.builtin id) := M.at_ x _ (He.eqO_ok c)
theorem int_of {K : PySem.W.Frag} {mg : Str → Option Value} (M : Mg K mg) {x : Str} {i : Int} (c : (Fx.int x i).ok K = true) : ∃ t, mg x = some (.int i t) := by
  have c2 : (match PySem.W.nsIn K mainGlobals x with
    | some (some (.int j _)) => decide (j = i)
    | _ => false) = true := c
  split at c2
  · rename_i j t e
    have ej : j = i := of_decide_eq_true c2
    subst ej
    exact ⟨t, M.at_ x _ e⟩
  · cases c2
theorem cls_of {K : PySem.W.Frag} {x : Str} (c : (Fx.cls x).ok K = true) : Cls K (He.ga K x) := He.cls_ok c
theorem meth_of {K : PySem.W.Frag} {x m : Str} (c : (Fx.meth x m).ok K = true) : Meth K (He.ga K x) m (He.ma K (He.ga K x) m) := He.meth_ok c
theorem mkr_of {K : PySem.W.Frag} {x : Str} (c : (Fx.mkr x).ok K = true) : Mk K (He.ga K x) (He.ma K (He.ga K x) "__init__") := He.mkr_ok c
theorem kit_of' {K : PySem.W.Frag} {t c : Tn} {b : Bool} (h : (Fx.kit t c b).ok K = true) : Kit K t c b := ⟨of_decide_eq_true h⟩
/-- a def of the text, its promise by positional values -/
theorem fnr_of {P : Program} {w : World} {K : PySem.W.Frag} {mg : Str → Option Value} {base : Heap} {x qual : Str} {params : Arguments} {body : List Stmt} {scope : Scope} {kws : List (Str × V)} {f : Addr} {N ps : List Str} {k : Nat} {sp : Sp}
    (F : ∃ fd, FunD K x qual params body scope [] kws f fd) (S : FnScope N ps scope)
    (hb : ∀ (kV doc pm : Value) (an : Option Addr) (cdv ct : Value) (us : List Value), us.length = ps.length → bindArgs (PySem.W.fnOf x qual params body scope .none kV doc pm an cdv ct) ⟨us, []⟩ = pure (ps.zip us))
    (len : ∀ vs H Q E, sp vs H Q E → vs.length = ps.length)
    (hbody : ∀ (cdv : Value) (A : Around) (outer : List Env) (s : Shared) (H : Hp) (vs : List V) (Q : VK) (E : XK), Room k (A.deeper (envOfC qual scope s.heap.objs.size f cdv)) → sp vs H Q E →
      ∃ t, PSs (cxOf (L2.CX P w) P w K mg base N qual scope f cdv A outer s H E) body t ∧ t { nx := fun _ H' => Q .non H', rt := Q } (start N vs) H) : FnR P w K mg base (L2.CX P w) (k + 1) f sp := by
  obtain ⟨fd, F⟩ := F
  have G := FnOk.raw (F.ok (CX := L2.CX P w) S len hbody) (F.bindsN hb) .nil
  exact G.imp fun vs H Q E h => by rw [List.append_nil]; exact h
/-- one default at the end, given or not -/
theorem fnr1 {P : Program} {w : World} {K : PySem.W.Frag} {mg : Str → Option Value} {base : Heap} {x qual : Str} {params : Arguments} {body : List Stmt} {scope : Scope} {kws : List (Str × V)} {f : Addr} {fd : FuncData} {ps : List Str} {k : Nat} {sp : Sp} {dv : V}
    (F : FunD K x qual params body scope [dv] kws f fd) (FO : FnOk P w K mg base (L2.CX P w) k f fd ps sp) (hp : 0 < ps.length)
    (hb1 : ∀ (T : Addr) (kV doc pm : Value) (an : Option Addr) (cdv ct : Value) (us its : List Value), us.length = ps.length → its.length = 1 →
      ∃ k, bindArgs (PySem.W.fnOf x qual params body scope (.ref T) kV doc pm an cdv ct) ⟨us, []⟩ = seqItems? (.ref T) >>= k ∧ k (some its.toArray) = pure (ps.zip (us ++ its.drop 1)))
    (hb0 : ∀ (T : Addr) (kV doc pm : Value) (an : Option Addr) (cdv ct : Value) (us its : List Value), us.length = ps.length - 1 → its.length = 1 →
      ∃ k, bindArgs (PySem.W.fnOf x qual params body scope (.ref T) kV doc pm an cdv ct) ⟨us, []⟩ = seqItems? (.ref T) >>= k ∧ k (some its.toArray) = pure (ps.zip (us ++ its.drop 0))) :
    FnR P w K mg base (L2.CX P w) k f sp ∧ FnR P w K mg base (L2.CX P w) k f (fun vs H Q E => sp (vs ++ [dv]) H Q E) := by
  obtain ⟨ds1, r1, b1⟩ := F.binds1 ps.length 1 (by simp) (by simp) hb1
  obtain ⟨ds0, r0, b0⟩ := F.binds1 (ps.length - 1) 0 (by simp) (by simp; omega) hb0
  refine ⟨?_, ?_⟩
  · have G := FnOk.raw FO b1 r1
    exact G.imp fun vs H Q E h => by
      show sp (vs ++ List.drop 1 [dv]) H Q E
      rw [show List.drop 1 [dv] = [] from rfl, List.append_nil]
      exact h
  · exact FnOk.raw FO b0 r0
end Sx

namespace Sx
open PySem PySem.Spec PyProof.Rows L2
/-! ### heaps -/
def At (H : Hp) (a : Addr) (o : HO) : Prop := H a = some o
theorem Same.at {H0 H : Hp} {a : Addr} {o : HO} (e : Same H0 H) (h : At H0 a o) : At H a o := e _ _ h
theorem Same.updR {A G : Hp} {p : Addr} {o : HO} (e : Same A G) (n : G p = none) : Same A (upd G p o) := fun b u h => by
  rw [upd_ne (ne_of_none (e b u h) n)]
  exact e b u h
theorem Same.updU {A : Hp} {p : Addr} {o u : HO} (n : A p = none) {G : Hp} (e : Same A G) : Same (upd A p o) (upd G p o) := fun b v h => by
  by_cases q : b = p
  · subst q
    rw [upd_same] at h ⊢
    exact h
  · rw [upd_ne q] at h ⊢
    exact e b v h
/-- what has grown from G with a changing object beside it -/
theorem unmix {G H' : Hp} {p : Addr} {o : HO} (e : Same (upd G p o) H') (n : G p = none) : ∃ G', H' = upd G' p o ∧ G' p = none ∧ Same G G' := by
  refine ⟨del H' p, ?_, del_same, fun b u h => ?_⟩
  · funext b
    by_cases q : b = p
    · subst q
      rw [upd_same]
      exact e _ _ upd_same
    · rw [upd_ne q, del_ne q]
  · have q : b ≠ p := ne_of_none h n
    rw [del_ne q]
    exact e b u (by rw [upd_ne q]; exact h)
theorem upd_none {G : Hp} {p q : Addr} {o : HO} (h : G q = none) (n : q ≠ p) : upd G p o q = none := by rw [upd_ne n]; exact h
theorem upd_back {G : Hp} {p q : Addr} {o : HO} (h : upd G p o q = none) : q ≠ p ∧ G q = none := by
  have e : q ≠ p := fun z => by
    rw [z, upd_same] at h
    cases h
  exact ⟨e, by rw [upd_ne e] at h; exact h⟩
theorem upd_comm {G : Hp} {p q : Addr} {o u : HO} (n : q ≠ p) : upd (upd G p o) q u = upd (upd G q u) p o := by
  funext b
  unfold upd
  by_cases h1 : b = q
  · rw [if_pos h1]
    by_cases h2 : b = p
    · exact absurd (h1.symm.trans h2) n
    · rw [if_neg h2, if_pos h1]
  · rw [if_neg h1]
    by_cases h2 : b = p
    · rw [if_pos h2, if_pos h2]
    · rw [if_neg h2, if_neg h2, if_neg h1]
/-! ### readings, a step each -/
section
variable {σ : L2.St} {H H1 : Hp} {Q : VK} {D : Ends} {v w x y : V} {i j : Nat} {te ta tb : TE} {t1 t2 : TS} {g : TG} {c u : TT} {K : PySem.W.Frag} {f : Str} {C : Addr} {sp : Sp} {W : WX} {t : TA} {QB : Bool → Hp → Prop} {QL : List V → Hp → Prop}
theorem r_seq (h : t1 { D with nx := t2 D } σ H) : tSeq t1 t2 D σ H := h
theorem r_asg (h : te σ H fun x H1 => g x σ H1 D.nx) : tAsg te g D σ H := h
theorem r_drop (h : te σ H fun _ H1 => D.nx σ H1) : tDrop te D σ H := h
theorem r_ret (h : te σ H D.rt) : tRet te D σ H := h
theorem r_retN (h : D.rt .non H) : tRetN D σ H := h
theorem r_next (h : D.nx σ H) : tNext D σ H := h
theorem r_brk (h : D.bk σ H) : tBreak D σ H := h
theorem r_cont (h : D.ct σ H) : tCont D σ H := h
theorem r_ifS (h : c σ H fun b H1 => if b = true then t1 D σ H1 else t2 D σ H1) : tIfS c t1 t2 D σ H := h
theorem r_par (h : t σ H fun vs H1 => ∃ v w, vs = [v, w] ∧ D.nx ((σ.set i (some v)).set j (some w)) H1) : tPar i j t D σ H := h
theorem r_two {P : V → V → Prop} (h : P v w) : ∃ v' w', [v, w] = [v', w'] ∧ P v' w' := ⟨v, w, rfl, h⟩
theorem r_one {P : V → Prop} (h : P v) : ∃ v', [v] = [v'] ∧ P v' := ⟨v, rfl, h⟩
theorem r_var (e : σ[i]? = some (some v)) (h : Q v H) : tVar i σ H Q := ⟨v, e, h⟩
theorem r_c (h : Q v H) : tC v σ H Q := h
theorem r_op {r : R2} (h : ta σ H fun x H1 => tb σ H1 fun y H2 => r x y H2 Q) : tOp r ta tb σ H Q := h
theorem r_un {r : V → Hp → VK → Prop} (h : ta σ H fun x H1 => r x H1 Q) : tUn r ta σ H Q := h
theorem r_I0 {gf : Int → Int → V} {a b : Int} (h : Q (gf a b) H) : rI0 gf (.int a) (.int b) H Q := ⟨a, b, rfl, rfl, h⟩
theorem r_I {Cc : Int → Int → Prop} {gf : Int → Int → V} {a b : Int} (hc : Cc a b) (h : Q (gf a b) H) : rI Cc gf (.int a) (.int b) H Q := ⟨a, b, rfl, rfl, hc, h⟩
theorem r_U {gf : Int → V} {a : Int} (h : Q (gf a) H) : rU gf (.int a) H Q := ⟨a, rfl, h⟩
theorem r_eq (hs : scal x y = true) (h : Q (.bl (decide (x = y))) H) : rEq x y H Q := ⟨hs, h⟩
theorem r_ne (hs : scal x y = true) (h : Q (.bl (!decide (x = y))) H) : rNe x y H Q := ⟨hs, h⟩
theorem r_test (h : te σ H fun x H' => ∃ k, x = .bl k ∧ QB k H') : tTest te σ H QB := h
theorem r_B (h : te σ H fun x H' => ∃ k, x = .bl k ∧ QB k H') : tB te σ H QB := h
theorem r_bl {b : Bool} {P : Bool → Prop} (h : P b) : ∃ k, V.bl b = .bl k ∧ P k := ⟨b, rfl, h⟩
theorem r_and (h : c σ H fun b H1 => if b = true then u σ H1 QB else QB false H1) : tAnd c u σ H QB := h
theorem r_or (h : c σ H fun b H1 => if b = true then QB true H1 else u σ H1 QB) : tOr c u σ H QB := h
theorem r_not (h : c σ H fun b H1 => QB (!b) H1) : tNot c σ H QB := h
theorem r_andV (h : ta σ H fun x H1 => ∃ c, x = .bl c ∧ if c = true then tb σ H1 Q else Q (.bl false) H1) : tAndV ta tb σ H Q := h
theorem r_orV (h : ta σ H fun x H1 => ∃ c, x = .bl c ∧ if c = true then Q (.bl true) H1 else tb σ H1 Q) : tOrV ta tb σ H Q := h
theorem r_notV (h : ta σ H fun x H1 => ∃ c, x = .bl c ∧ Q (.bl (!c)) H1) : tNotV ta σ H Q := h
theorem r_ifE (h : c σ H fun b H1 => if b = true then ta σ H1 Q else tb σ H1 Q) : tIf c ta tb σ H Q := h
theorem r_chain {r r' : R2} {tc : TE} (h : ta σ H fun x H1 => tb σ H1 fun y H2 => r x y H2 fun z H3 => ∃ k, z = .bl k ∧ (if k = true then tc σ H3 fun w' H4 => r' y w' H4 Q else Q (.bl false) H3)) : tChain r r' ta tb tc σ H Q := h
theorem r_nil (h : QL [] H) : tNil σ H QL := h
theorem r_cons {tr : TA} (h : ta σ H fun x H1 => tr σ H1 fun xs H2 => QL (x :: xs) H2) : tCons ta tr σ H QL := h
def kTup (Q : VK) : List V → Hp → Prop := fun xs H1 => xs.length ≤ sizeLine ∧ ∀ p, H1 p = none → Q (.ref p) (upd H1 p (.tup xs))
theorem r_tup (h : t σ H (kTup Q)) : tTup t σ H Q := h
def kLst (Q : VK) : List V → Hp → Prop := fun xs H1 => xs.length ≤ sizeLine ∧ ∀ p, H1 p = none → Q (.ref p) (upd H1 p (.lst xs))
theorem r_lst (h : t σ H (kLst Q)) : tLst t σ H Q := h
def kFld (K : PySem.W.Frag) (f : Str) (Q : VK) : VK := fun x H1 => ∃ a C dx fs v, x = .ref a ∧ H1 a = some (.ins C dx fs) ∧ Cls K C ∧ NoAttr K C f ∧ fs.lookup f = some v ∧ Q v H1
theorem r_fld (h : ta σ H (kFld K f Q)) : tFld K ta f σ H Q := h
theorem r_callW (h : t σ H fun vs H1 => sp vs H1 Q (WE W σ)) : tCallW sp W t σ H Q := h
def kMeth (C : Addr) (m : Str) (R : V → Hp → Prop) : VK := fun x H1 => ∃ a dx fs, x = .ref a ∧ H1 a = some (.ins C dx fs) ∧ fs.lookup m = none ∧ R x H1
theorem r_methW {m : Str} (h : ta σ H (kMeth C m fun x H1 => t σ H1 fun vs H2 => sp (x :: vs) H2 Q (WE W σ))) : tMethW C m sp W ta t σ H Q := h
def kMake (C : Addr) (sp : Sp) (Q : VK) (E : XK) : List V → Hp → Prop := fun vs H1 => ∀ x dx, H1 x = none → H1 dx = none → dx ≠ x → sp (.ref x :: vs) (upd (upd H1 dx (.own x)) x (.ins C dx [])) (fun v H2 => v = .non ∧ Q (.ref x) H2) E
theorem r_makeW (h : t σ H (kMake C sp Q (WE W σ))) : tMakeW C sp W t σ H Q := h
theorem r_CB {r : List V → Hp → VK → Prop} (h : t σ H fun vs H1 => r vs H1 Q) : tCB r t σ H Q := h
theorem r_sub {to ti : TE} {ts : TSet} {QS : L2.St → Hp → Prop} (h : to σ H fun o H1 => ti σ H1 fun i H2 => ts o i v H2 fun H3 => QS σ H3) : gSub to ti ts v σ H QS := h
def kFldS (K : PySem.W.Frag) (f : Str) (y : V) (R : Hp → Prop) : VK := fun x H2 => ∃ a C dx fs, x = .ref a ∧ H2 a = some (.ins C dx fs) ∧ Cls K C ∧ NoAttr K C f ∧ fs.length < 1000 ∧ R (upd H2 a (.ins C dx (putF f y fs)))
theorem r_fldS {tv : TE} (h : tv σ H fun y H1 => ta σ H1 (kFldS K f y (D.nx σ))) : sFld K ta tv f D σ H := h
theorem r_bm {T : String} {r : V → List V → Hp → VK → Prop} {to : TE} (h : to σ H fun x H1 => tyV K T x H1 ∧ t σ H1 fun xs H2 => r x xs H2 Q) : tBM K T r to t σ H Q := h
theorem r_bm0 {T : String} {r : V → List V → Hp → VK → Prop} {to : TE} (h : to σ H fun x H1 => tyV K T x H1 ∧ r x [] H1 Q) : tBM0 K T r to σ H Q := h
theorem r_sl {r : V → Option Int → Option Int → Hp → VK → Prop} {tl th : TO} (h : te σ H fun x H1 => tl σ H1 fun l H2 => th σ H2 fun u H3 => r x l u H3 Q) : tSl r te tl th σ H Q := h
theorem r_part {QO : Option Int → Hp → Prop} (h : te σ H fun x H1 => ∃ i, x = .int i ∧ QO (some i) H1) : tPart te σ H QO := h
theorem r_noPart {QO : Option Int → Hp → Prop} (h : QO none H) : tNoPart σ H QO := h
theorem r_exI {a : Int} {P : Int → Prop} (h : P a) : ∃ i, V.int a = .int i ∧ P i := ⟨a, rfl, h⟩
theorem r_cutS {tu tw : TS} (Mid : L2.St → Hp → Prop) (h : tu { D with nx := Mid } σ H) (k : ∀ σ' H', Mid σ' H' → tw D σ' H') : Evl.tCut tu tw D σ H := ⟨Mid, h, k⟩
theorem r_mkE {C : Addr} {fld : Str} {QX : XK} (h : t σ H fun vs H1 => ∃ v, vs = [v] ∧ ∀ d, H1 d = none → QX (.ref C) (some d) (upd H1 d (.xd [(fld, v)]))) : tMkE C fld t σ H QX := h
/-- the ifs -/
theorem i_T {A B : Prop} (h : A) : if true = true then A else B := iteT h
theorem i_F {A B : Prop} (h : B) : if false = true then A else B := iteF h
theorem i_nT {A B : Prop} (h : B) : if (!true) = true then A else B := iteF h
theorem i_nF {A B : Prop} (h : A) : if (!false) = true then A else B := iteT h
theorem i_d {p A B : Prop} [Decidable p] (h1 : p → A) (h2 : ¬ p → B) : if decide p = true then A else B := by
  by_cases h : p
  · rw [decide_eq_true h]; exact iteT (h1 h)
  · rw [decide_eq_false h]; exact iteF (h2 h)
theorem i_dn {p A B : Prop} [Decidable p] (h1 : ¬ p → A) (h2 : p → B) : if (!decide p) = true then A else B := by
  by_cases h : p
  · rw [decide_eq_true h]; exact iteF (h2 h)
  · rw [decide_eq_false h]; exact iteT (h1 h)
theorem i_I {a b : Int} {A B : Prop} (h1 : a = b → A) (h2 : a ≠ b → B) : if decide (V.int a = V.int b) = true then A else B :=
  i_d (fun h => h1 (V.int.inj h)) fun h => h2 fun e => h (by rw [e])
theorem i_In {a b : Int} {A B : Prop} (h1 : a ≠ b → A) (h2 : a = b → B) : if (!decide (V.int a = V.int b)) = true then A else B :=
  i_dn (fun h => h1 fun e => h (by rw [e])) fun h => h2 (V.int.inj h)
theorem i_S {a b : Str} {A B : Prop} (h1 : a = b → A) (h2 : a ≠ b → B) : if decide (V.str a = V.str b) = true then A else B :=
  i_d (fun h => h1 (V.str.inj h)) fun h => h2 fun e => h (by rw [e])
theorem i_Sn {a b : Str} {A B : Prop} (h1 : a ≠ b → A) (h2 : a = b → B) : if (!decide (V.str a = V.str b)) = true then A else B :=
  i_dn (fun h => h1 fun e => h (by rw [e])) fun h => h2 (V.str.inj h)
theorem i_b {b : Bool} {A B : Prop} (h1 : b = true → A) (h2 : b = false → B) : if b = true then A else B := by
  cases b with
  | true => exact iteT (h1 rfl)
  | false => exact iteF (h2 rfl)
/-- names -/
theorem n_0 {a : Option V} {r : L2.St} {QS : L2.St → Hp → Prop} (h : QS (some v :: r) H) : gName 0 v (a :: r) H QS := h
theorem n_1 {a b : Option V} {r : L2.St} {QS : L2.St → Hp → Prop} (h : QS (a :: some v :: r) H) : gName 1 v (a :: b :: r) H QS := h
theorem n_2 {a b c : Option V} {r : L2.St} {QS : L2.St → Hp → Prop} (h : QS (a :: b :: some v :: r) H) : gName 2 v (a :: b :: c :: r) H QS := h
theorem n_3 {a b c d : Option V} {r : L2.St} {QS : L2.St → Hp → Prop} (h : QS (a :: b :: c :: some v :: r) H) : gName 3 v (a :: b :: c :: d :: r) H QS := h
theorem n_4 {a b c d e : Option V} {r : L2.St} {QS : L2.St → Hp → Prop} (h : QS (a :: b :: c :: d :: some v :: r) H) : gName 4 v (a :: b :: c :: d :: e :: r) H QS := h
theorem n_5 {a b c d e f : Option V} {r : L2.St} {QS : L2.St → Hp → Prop} (h : QS (a :: b :: c :: d :: e :: some v :: r) H) : gName 5 v (a :: b :: c :: d :: e :: f :: r) H QS := h
theorem n_6 {a b c d e f g : Option V} {r : L2.St} {QS : L2.St → Hp → Prop} (h : QS (a :: b :: c :: d :: e :: f :: some v :: r) H) : gName 6 v (a :: b :: c :: d :: e :: f :: g :: r) H QS := h
theorem n_7 {a b c d e f g a' : Option V} {r : L2.St} {QS : L2.St → Hp → Prop} (h : QS (a :: b :: c :: d :: e :: f :: g :: some v :: r) H) : gName 7 v (a :: b :: c :: d :: e :: f :: g :: a' :: r) H QS := h
theorem n_8 {a b c d e f g a' b' : Option V} {r : L2.St} {QS : L2.St → Hp → Prop} (h : QS (a :: b :: c :: d :: e :: f :: g :: a' :: some v :: r) H) : gName 8 v (a :: b :: c :: d :: e :: f :: g :: a' :: b' :: r) H QS := h
theorem n_9 {a b c d e f g a' b' c' : Option V} {r : L2.St} {QS : L2.St → Hp → Prop} (h : QS (a :: b :: c :: d :: e :: f :: g :: a' :: b' :: some v :: r) H) : gName 9 v (a :: b :: c :: d :: e :: f :: g :: a' :: b' :: c' :: r) H QS := h
theorem n_10 {a b c d e f g a' b' c' d' : Option V} {r : L2.St} {QS : L2.St → Hp → Prop} (h : QS (a :: b :: c :: d :: e :: f :: g :: a' :: b' :: c' :: some v :: r) H) : gName 10 v (a :: b :: c :: d :: e :: f :: g :: a' :: b' :: c' :: d' :: r) H QS := h
theorem n_11 {a b c d e f g a' b' c' d' e' : Option V} {r : L2.St} {QS : L2.St → Hp → Prop} (h : QS (a :: b :: c :: d :: e :: f :: g :: a' :: b' :: c' :: d' :: some v :: r) H) : gName 11 v (a :: b :: c :: d :: e :: f :: g :: a' :: b' :: c' :: d' :: e' :: r) H QS := h
theorem n_12 {a b c d e f g a' b' c' d' e' f' : Option V} {r : L2.St} {QS : L2.St → Hp → Prop} (h : QS (a :: b :: c :: d :: e :: f :: g :: a' :: b' :: c' :: d' :: e' :: some v :: r) H) : gName 12 v (a :: b :: c :: d :: e :: f :: g :: a' :: b' :: c' :: d' :: e' :: f' :: r) H QS := h
/-- new objects -/
theorem k_tup {xs : List V} (hz : xs.length ≤ 1000) (k : ∀ p H2, H p = none → Same H H2 → At H2 p (.tup xs) → Q (.ref p) H2) : kTup Q xs H :=
  ⟨Nat.le_trans hz (by decide), fun p n => k p _ n (Same.updR (Same.refl _) n) upd_same⟩
theorem k_tupD {xs : List V} {ds : List Sx.D} (hs : IsL K H xs ds) (hz : xs.length ≤ 1000) (k : ∀ v H2, Same H H2 → Is K H2 v (.tup ds) → Q v H2) : kTup Q xs H :=
  k_tup hz fun p H2 n e h => k _ _ e (.tup (SqT.of h) (IsL.mono e hs))
theorem k_lstD {xs : List V} {ds : List Sx.D} (hs : IsL K H xs ds) (hz : xs.length ≤ 1000) (k : ∀ v H2, Same H H2 → Is K H2 v (.lst ds) → Q v H2) : kLst Q xs H :=
  ⟨Nat.le_trans hz (by decide), fun p n => k _ _ (Same.updR (Same.refl _) n) (.lst (SqL.of upd_same) (IsL.mono (Same.updR (Same.refl _) n) hs))⟩
theorem k_lst {xs : List V} (hz : xs.length ≤ 1000) (k : ∀ p, H p = none → Q (.ref p) (upd H p (.lst xs))) : kLst Q xs H :=
  ⟨Nat.le_trans hz (by decide), k⟩
end
/-! ### isinstance -/
class DOk (K : PySem.W.Frag) (d : D) : Prop where
  ok : ∀ C gs, d = .ins C gs → IsCls K C
instance {K : PySem.W.Frag} : DOk K .non := ⟨fun _ _ e => nomatch e⟩
instance {K : PySem.W.Frag} {b : Bool} : DOk K (.bl b) := ⟨fun _ _ e => nomatch e⟩
instance {K : PySem.W.Frag} {i : Int} : DOk K (.int i) := ⟨fun _ _ e => nomatch e⟩
instance {K : PySem.W.Frag} {i : Str} : DOk K (.str i) := ⟨fun _ _ e => nomatch e⟩
instance {K : PySem.W.Frag} {ds : List D} : DOk K (.tup ds) := ⟨fun _ _ e => nomatch e⟩
instance {K : PySem.W.Frag} {ds : List D} : DOk K (.lst ds) := ⟨fun _ _ e => nomatch e⟩
instance {K : PySem.W.Frag} : DOk K .dic := ⟨fun _ _ e => nomatch e⟩
instance {K : PySem.W.Frag} {C : Str} {gs : List (Str × D)} [h : IsCls K C] : DOk K (.ins C gs) := ⟨fun _ _ e => by cases e; exact h⟩
section
variable {K : PySem.W.Frag} {H : Hp} {v : V} {d : D} {Q : VK}
theorem Is.tyx (h : Is K H v d) (ok : DOk K d) : TyX K H v (d.tn.val K) := by
  cases h with
  | non => exact .base .non
  | bl b => exact .base (.bl b)
  | int i => exact .base (.int i)
  | str x => exact .base (.str x)
  | tup h hs =>
    rcases h with (h | ⟨o, h⟩) | ⟨o, its, n, h1, h2, _⟩
    · exact .base (.tup h)
    · exact .fTuple h
    · exact .kTuple h1 h2
  | lst h hs =>
    rcases h with (h | ⟨o, h⟩) | ⟨o, its, n, h1, h2, _⟩
    · exact .base (.lst h)
    · exact .base (.frz h)
    · exact .kList h1 h2
  | ins h hs =>
    have c := ok.ok _ _ rfl
    obtain ⟨h1, h2, h3, h4⟩ := tyi_ok c.ty
    exact .base (.ins h c.cl h1 h2 h3 h4)
  | dic h => exact .base (.dK h)
theorem r_isiB {n : String} {b : Bool} (hx : Is K H v d) [ok : DOk K d] [k : Kit K d.tn (.b n) b] (h : Q (.bl b) H) : rIsi K [v, .ty n] H Q :=
  ⟨v, .ty n, _, _, b, rfl, .ty n, hx.tyx ok, k.h, h⟩
theorem r_isiC {C : Str} {b : Bool} (hx : Is K H v d) [ok : DOk K d] [k : Kit K d.tn (.c C) b] (h : Q (.bl b) H) : rIsi K [v, .ref (He.ga K C)] H Q :=
  ⟨v, .ref (He.ga K C), _, _, b, rfl, .own _, hx.tyx ok, k.h, h⟩
end
theorem cxK {CX : CXT} {P : Program} {w : World} {K : PySem.W.Frag} {mg : Str → Option Value} {base : Heap} {N : List Str} {qual : Str} {scope : Scope} {f : Addr} {cd : Value} {A : Around} {outer : List Env} {s : Shared} {H : Hp} {E : XK} :
    (cxOf CX P w K mg base N qual scope f cd A outer s H E).K = K := rfl
end Sx

namespace Sx
open PySem PySem.Spec PyProof.Rows L2
/-- // by a divisor not 0, below 2 ^ 9000 in size -/
def CDivX (_ j : Int) : Prop := j ≠ 0 ∧ j.natAbs.log2 < 9000
theorem op_fdivX {X : Cx} : OpR X (binaryOp .FloorDiv) (rI CDivX fun i j => .int (i.fdiv j)) := opI fun _ _ _ _ _ _ _ hc q => floordiv_int hc.1 q (.inl (PyProof.noPylong_of_log2 hc.2))
/-- numbers below 2 ^ n in size -/
def Bd (n : Nat) (i : Int) : Prop := i.natAbs < 2 ^ n
theorem Bd.log {n : Nat} {i : Int} (h : Bd n i) (hn : 0 < n) : i.natAbs.log2 < n := PySem.Flt.log2_lt_of hn h
theorem Bd.up {n m : Nat} {i : Int} (h : Bd n i) (e : n ≤ m) : Bd m i := Nat.lt_of_lt_of_le h (Nat.pow_le_pow_right (by decide) e)
theorem Bd.mul {n m : Nat} {i j : Int} (h : Bd n i) (k : Bd m j) : Bd (n + m) (i * j) := wide_lt h k
theorem Bd.neg {n : Nat} {i : Int} (h : Bd n i) : Bd n (-i) := by unfold Bd at *; rw [Int.natAbs_neg]; exact h
theorem Bd.add {n : Nat} {i j : Int} (h : Bd n i) (k : Bd n j) : Bd (n + 1) (i + j) := by
  unfold Bd at *
  have := Int.natAbs_add_le i j
  rw [Nat.pow_succ]
  omega
theorem Bd.sub {n : Nat} {i j : Int} (h : Bd n i) (k : Bd n j) : Bd (n + 1) (i - j) := by rw [Int.sub_eq_add_neg]; exact h.add k.neg
theorem Bd.zero {n : Nat} : Bd n 0 := Nat.two_pow_pos n
theorem Bd.of_le {n : Nat} {i j : Int} (k : Bd n j) (h : i.natAbs ≤ j.natAbs) : Bd n i := Nat.lt_of_le_of_lt h k
theorem Bd.mulOk {n m : Nat} {i j : Int} (h : Bd n i) (k : Bd m j) (hn : 0 < n) (hm : 0 < m) (e : n + m ≤ 1000000) : CMulW i j := wide_mul h k hn hm e
theorem Bd.divOk {n : Nat} {i j : Int} (k : Bd n j) (hn : 0 < n) (h0 : j ≠ 0) (e : n ≤ 9000) : CDivX i j := ⟨h0, Nat.lt_of_lt_of_le (k.log hn) e⟩
/-- what is told of data: the class is one of the text's, whether it is an int -/
def isNum : D → Bool
  | .int _ | .bl _ => true
  | _ => false
def isIntD : D → Bool
  | .int _ => true
  | _ => false
class Dn (K : PySem.W.Frag) (d : D) : Prop where
  ok : DOk K d
  ki : Kit K d.tn (.b "int") (isNum d)
instance {K : PySem.W.Frag} : Dn K .non := ⟨inferInstance, ⟨kit_ty (r := false) (by decide +kernel)⟩⟩
instance {K : PySem.W.Frag} {b : Bool} : Dn K (.bl b) := ⟨inferInstance, ⟨kit_ty (r := true) (by decide +kernel)⟩⟩
instance {K : PySem.W.Frag} {i : Int} : Dn K (.int i) := ⟨inferInstance, ⟨kit_ty (r := true) (by decide +kernel)⟩⟩
instance {K : PySem.W.Frag} {i : Str} : Dn K (.str i) := ⟨inferInstance, ⟨kit_ty (r := false) (by decide +kernel)⟩⟩
instance {K : PySem.W.Frag} {ds : List D} : Dn K (.tup ds) := ⟨inferInstance, ⟨kit_ty (r := false) (by decide +kernel)⟩⟩
instance {K : PySem.W.Frag} {ds : List D} : Dn K (.lst ds) := ⟨inferInstance, ⟨kit_ty (r := false) (by decide +kernel)⟩⟩
instance {K : PySem.W.Frag} : Dn K .dic := ⟨inferInstance, ⟨kit_ty (r := false) (by decide +kernel)⟩⟩
instance {K : PySem.W.Frag} {C : Str} {gs : List (Str × D)} [h : IsCls K C] [k : Kit K (.c C) (.b "int") false] : Dn K (.ins C gs) := ⟨inferInstance, k⟩
theorem cmul_r {i j : Int} (h1 : -(2 ^ 64) < j) (h2 : j < 2 ^ 64) : CMul i j := .inr ⟨h1, h2⟩
theorem cmul_l {i j : Int} (h1 : -(2 ^ 64) < i) (h2 : i < 2 ^ 64) : CMul i j := .inl ⟨h1, h2⟩
theorem cdiv_p {i j : Int} (h1 : 0 < j) (h2 : j < 1073741824) : CDiv i j := ⟨h1, h2⟩
theorem cpow_c {i j : Int} (h1 : 0 ≤ j) (h2 : j ≤ 1000000) (h3 : i.natAbs < 2 ^ 64) : CPow i j := ⟨h1, h2, h3⟩
def rInt : List V → Hp → VK → Prop := fun xs H Q => (∃ i, xs = [.int i] ∧ Q (.int i) H) ∨ ∃ k, xs = [.bl k] ∧ Q (.int (if k then 1 else 0)) H
theorem call_intN {X : Cx} : CallR X (.type "int") rInt := call_int1
theorem r_int {H : Hp} {Q : VK} {a : Int} (h : Q (.int a) H) : rInt [.int a] H Q := .inl ⟨a, rfl, h⟩
def rAbs : List V → Hp → VK → Prop := fun xs H Q => ∃ i, xs = [.int i] ∧ Q (.int (if i < 0 then -i else i)) H
theorem call_absN {X : Cx} : CallR X (.builtin "abs") rAbs := call_abs
theorem r_abs {H : Hp} {Q : VK} {a : Int} (h : Q (.int (a.natAbs : Int)) H) : rAbs [.int a] H Q := ⟨a, rfl, by
  have e : (if a < 0 then -a else a) = (a.natAbs : Int) := by split <;> omega
  rw [e]
  exact h⟩
def rLen (K : PySem.W.Frag) : List V → Hp → VK → Prop := fun xs H Q => ∃ x n, xs = [x] ∧ LenV K x H n ∧ Q (.int (n : Nat)) H
theorem call_lenN {X : Cx} : CallR X (.builtin "len") (rLen X.K) := call_len
theorem r_lenL {K : PySem.W.Frag} {H : Hp} {Q : VK} {p : Addr} {xs : List V} (hp : SqL K H p xs) (h : Q (.int (xs.length : Nat)) H) : rLen K [.ref p] H Q := ⟨.ref p, xs.length, rfl, .inl ⟨xs, hp, rfl⟩, h⟩
theorem r_lenT {K : PySem.W.Frag} {H : Hp} {Q : VK} {p : Addr} {xs : List V} (hp : SqT K H p xs) (h : Q (.int (xs.length : Nat)) H) : rLen K [.ref p] H Q := ⟨.ref p, xs.length, rfl, .inr ⟨xs, hp, rfl⟩, h⟩
theorem r_lenS {K : PySem.W.Frag} {H : Hp} {Q : VK} {x : Str} (hz : x.length ≤ sizeLine) (h : Q (.int (x.length : Nat)) H) : rLen K [.str x] H Q := ⟨.str x, x.length, rfl, ⟨hz, rfl⟩, h⟩
def rMin : List V → Hp → VK → Prop := fun xs H Q => ∃ i j, xs = [.int i, .int j] ∧ Q (.int (if j < i then j else i)) H
def rMax : List V → Hp → VK → Prop := fun xs H Q => ∃ i j, xs = [.int i, .int j] ∧ Q (.int (if j > i then j else i)) H
theorem call_minN {X : Cx} (hc : X.calm = true) : CallR X (.builtin "min") rMin := call_min2 hc
theorem call_maxN {X : Cx} (hc : X.calm = true) : CallR X (.builtin "max") rMax := call_max2 hc
theorem r_min {H : Hp} {Q : VK} {a b : Int} (h : Q (.int (min a b)) H) : rMin [.int a, .int b] H Q := ⟨a, b, rfl, by
  have e : (if b < a then b else a) = min a b := by omega
  rw [e]; exact h⟩
theorem r_max {H : Hp} {Q : VK} {a b : Int} (h : Q (.int (max a b)) H) : rMax [.int a, .int b] H Q := ⟨a, b, rfl, by
  have e : (if b > a then b else a) = max a b := by omega
  rw [e]; exact h⟩
theorem r_gcd {H : Hp} {Q : VK} {a b : Int} (h : Q (.int (Int.gcd a b : Nat)) H) : rGcd [.int a, .int b] H Q := ⟨a, b, rfl, h⟩
theorem isInt_ex {d : D} (h : isIntD d = true) : ∃ i, d = .int i := by cases d <;> first | exact ⟨_, rfl⟩ | cases h
/-- C(v) raised -/
def Rz (K : PySem.W.Frag) (E : XK) (C fld : Str) (v : V) (H : Hp) : Prop := ∀ d H2, Same H H2 → At H2 d (.xd [(fld, v)]) → E (.ref (He.ga K C)) (some d) H2
theorem Rz.mono {K : PySem.W.Frag} {E : XK} {C fld : Str} {v : V} {H H' : Hp} (h : Rz K E C fld v H) (e : Same H H') : Rz K E C fld v H' := fun d H2 s a => h d H2 (e.trans s) a
theorem Rz.e {K : PySem.W.Frag} {E : XK} {C fld : Str} {v : V} {H : Hp} (h : Rz K E C fld v H) : ∀ d, H d = none → E (.ref (He.ga K C)) (some d) (upd H d (.xd [(fld, v)])) :=
  fun d n => h d _ (Same.updR (Same.refl _) n) upd_same
theorem upd_upd {H : Hp} {a : Addr} {o u : HO} : upd (upd H a o) a u = upd H a u := by
  funext b
  by_cases h : b = a
  · rw [h, upd_same, upd_same]
  · rw [upd_ne h, upd_ne h, upd_ne h]
/-! ### fields of data -/
section
variable {K : PySem.W.Frag} {H : Hp} {Q : VK} {v : V} {C f : Str} {gs : List (Str × D)} {d : D}
theorem k_fldD (hv : Is K H v (.ins C gs)) (e : gs.lookup f = some d) [c : IsCls K C] [n : HasFld K C f] (h : ∀ u, Is K H u d → Q u H) : kFld K f Q v H := by
  cases hv with
  | ins ha hs =>
    obtain ⟨w, e1, e2⟩ := hs.look e
    exact ⟨_, _, _, _, w, rfl, ha, c.cl, n.no, e1, h w e2⟩
theorem k_fldI {i : Int} (hv : Is K H v (.ins C gs)) (e : gs.lookup f = some (.int i)) [c : IsCls K C] [n : HasFld K C f] (h : Q (.int i) H) : kFld K f Q v H := k_fldD hv e fun u hu => by
  rw [hu.int_eq]
  exact h
theorem k_setF {a dx : Addr} {fs : List (Str × V)} {y : V} {R : Hp → Prop} (ha : H a = some (.ins (He.ga K C) dx fs)) (hl : fs.length < 1000) [c : IsCls K C] [n : HasFld K C f] (h : R (upd H a (.ins (He.ga K C) dx (putF f y fs)))) : kFldS K f y R (.ref a) H :=
  ⟨a, _, dx, fs, rfl, ha, c.cl, n.no, hl, h⟩
theorem k_meth {m : Str} {R : V → Hp → Prop} (hv : Is K H v (.ins C gs)) (e : gs.lookup m = none) (h : R v H) : kMeth (He.ga K C) m R v H := by
  cases hv with
  | ins ha hs => exact ⟨_, _, _, rfl, ha, hs.none e, h⟩
end
end Sx

namespace Sx
theorem rat_num {p q : Int} (hq : q ≠ 0) : p.fdiv (if q < 0 then -(Int.gcd p q : Int) else (Int.gcd p q : Int)) = (Rat.divInt p q).num := by
  have d1 : (Int.gcd p q : Int) ∣ p := Int.gcd_dvd_left p q
  rw [Rat.num_divInt, Int.gcd_comm q p]
  by_cases h : q < 0
  · rw [if_pos h, Int.fdiv_eq_ediv_of_dvd ((Int.neg_dvd).mpr d1), Int.sign_eq_neg_one_of_neg h, Int.ediv_neg, Int.neg_one_mul, Int.neg_ediv_of_dvd d1]
  · rw [if_neg h, Int.fdiv_eq_ediv_of_dvd d1, Int.sign_eq_one_of_pos (by omega), Int.one_mul]
theorem rat_den {p q : Int} (hq : q ≠ 0) : q.fdiv (if q < 0 then -(Int.gcd p q : Int) else (Int.gcd p q : Int)) = ((Rat.divInt p q).den : Int) := by
  have d1 : (Int.gcd p q : Int) ∣ q := Int.gcd_dvd_right p q
  rw [Rat.den_divInt, Int.gcd_comm q p, if_neg hq]
  by_cases h : q < 0
  · have e : (q.natAbs : Int) = -q := by omega
    rw [if_pos h, Int.fdiv_eq_ediv_of_dvd ((Int.neg_dvd).mpr d1), Int.ediv_neg, Int.natCast_ediv, e, Int.neg_ediv_of_dvd d1]
  · have e : (q.natAbs : Int) = q := by omega
    rw [if_neg h, Int.fdiv_eq_ediv_of_dvd d1, Int.natCast_ediv, e]
theorem gcd_bd {n : Nat} {p q : Int} (h : Bd n q) (hq : q ≠ 0) : Bd n (Int.gcd p q : Int) := by
  refine h.of_le ?_
  have := Nat.le_of_dvd (by omega) (Int.gcd_dvd_natAbs_right p q)
  simpa using this
theorem gcd_ne {p q : Int} (hq : q ≠ 0) : (Int.gcd p q : Int) ≠ 0 := by
  have := Int.gcd_pos_of_ne_zero_right p hq
  omega
end Sx

namespace Sx
open PySem PySem.Spec PyProof.Rows L2
/-! ### a frame: what a call does not see stays as it is -/
def join (G F : Hp) : Hp := fun a => match F a with
  | some o => some o
  | none => G a
theorem join_f {G F : Hp} {a : Addr} {o : HO} (h : F a = some o) : join G F a = some o := by unfold join; rw [h]
theorem join_g {G F : Hp} {a : Addr} (h : F a = none) : join G F a = G a := by unfold join; rw [h]
def FO (F : Hp) (a : Addr) : HO → Prop
  | .lst _ => True
  | .dK _ => True
  | .xd _ => True
  | .ins _ dx _ => F dx = some (.own a)
  | .own x => ∃ u, F x = some u
  | _ => False
def FrOk (G F : Hp) : Prop := ∀ a o, F a = some o → G a = none ∧ FO F a o
def Fr (sp : Sp) : Sp := fun vs H Q E => ∃ G F, H = join G F ∧ FrOk G F ∧ sp vs G (fun v G2 => FrOk G2 F → Q v (join G2 F)) (fun c d G2 => FrOk G2 F → E c d (join G2 F))
section
variable {P : Program} {w : World} {G G2 F : Hp} {h h' : Heap}
theorem FrOk.none_of {G F : Hp} (k : FrOk G F) {a : Addr} {o : HO} (e : G a = some o) : F a = none := by
  cases q : F a with
  | none => rfl
  | some u => rw [(k a u q).1] at e; cases e
theorem frame_hok (k : FrOk G F) (x : HOk P w (join G F) h) : HOk P w G h := fun a o e => by
  have hf := k.none_of e
  have z := x a o (by rw [join_g hf]; exact e)
  refine z.stay (fun _ _ _ q => q) (fun b q => ?_) (fun b xs q => ?_)
  · cases qf : F b with
    | none => rw [join_g qf] at q; exact q
    | some u =>
      rw [join_f qf] at q
      cases q
      obtain ⟨u, hu⟩ := (k b _ qf).2
      rw [hf] at hu
      cases hu
  · cases qf : F b with
    | none => rw [join_g qf] at q; exact q
    | some u =>
      rw [join_f qf] at q
      cases q
      exact (k b _ qf).2.elim
theorem frame_back (k : FrOk G F) (n : ∀ a o, F a = some o → G2 a = none) (x : HOk P w (join G F) h) (y : HOk P w G2 h') (keep : ∀ a o, F a = some o → ∀ u, h.get? a = some u → h'.get? a = some u) : HOk P w (join G2 F) h' := fun a o e => by
  cases qf : F a with
  | none =>
    rw [join_g qf] at e
    refine (y a o e).stay (fun _ _ _ q => q) (fun b q => ?_) (fun b xs q => ?_)
    · have : F b = none := by
        cases z : F b with
        | none => rfl
        | some u => rw [n b u z] at q; cases q
      rw [join_g this]; exact q
    · have : F b = none := by
        cases z : F b with
        | none => rfl
        | some u => rw [n b u z] at q; cases q
      rw [join_g this]; exact q
  | some u =>
    rw [join_f qf] at e
    cases e
    have z := x a o (join_f qf)
    have fo := (k a o qf).2
    cases o with
    | lst xs => obtain ⟨z, its, n, r, e⟩ := z; exact ⟨z, its, n, r, keep _ _ qf _ e⟩
    | dK kvs => obtain ⟨z, y, vs, r, ob, es, ep, e, c⟩ := z; exact ⟨z, y, vs, r, ob, es, ep, keep _ _ qf _ e, c⟩
    | xd fs => obtain ⟨mA, ⟨od, es, ep, e, c⟩, r⟩ := z; exact ⟨mA, ⟨od, es, ep, keep _ _ qf _ e, c⟩, r⟩
    | ins C dx fs =>
      have fd : F dx = some (.own a) := fo
      obtain ⟨d, z, ne, e, mA, ⟨od, es, ep, e2, c⟩, r⟩ := z
      exact ⟨join_f fd, z, ne, keep _ _ qf _ e, mA, ⟨od, es, ep, keep _ _ fd _ e2, c⟩, r⟩
    | own y => obtain ⟨ob, e⟩ := z; exact ⟨ob, keep _ _ qf _ e⟩
    | _ => exact fo.elim
theorem frame_none {Z : Hp} (k : FrOk G F) {b : Addr} (e : join G F b = none) : F b = none ∧ G b = none := by
  cases q : F b with
  | none => rw [join_g q] at e; exact ⟨rfl, e⟩
  | some u => rw [join_f q] at e; cases e
theorem frame_un {fs : List Addr} (k : FrOk G F) (k2 : FrOk G2 F) (u : Un fs [] G G2 h h') : Un fs [] (join G F) (join G2 F) h h' where
  keep := fun b o q e => u.keep b o q (frame_none (Z := G) k e).2
  slot := fun b o q e => u.slot b o q (frame_none (Z := G) k e).2
  free := fun b o q e hx => by
    obtain ⟨e1, e2⟩ := frame_none (Z := G) k e
    rw [join_g e1]
    exact u.free b o q e2 hx
  there := u.there
  tups := fun b xs e => by
    cases q : F b with
    | none => rw [join_g q] at e ⊢; exact u.tups b xs e
    | some o => rw [join_f q] at e; cases e; exact (k b _ q).2.elim
  frzs := fun b o xs e => by
    cases q : F b with
    | none => rw [join_g q] at e ⊢; exact u.frzs b o xs e
    | some o => rw [join_f q] at e; cases e; exact (k b _ q).2.elim
  tbls := fun b xs e => by
    cases q : F b with
    | none => rw [join_g q] at e ⊢; exact u.tbls b xs e
    | some o => rw [join_f q] at e; cases e; exact (k b _ q).2.elim
theorem frame_ub {fs : List Addr} {B : Heap} (k : FrOk G F) (k2 : FrOk G2 F) (u : UB fs G G2 h B h') : UB fs (join G F) (join G2 F) h B h' where
  keep := fun b o q e => u.keep b o q (frame_none (Z := G) k e).2
  slot := u.slot
  free := fun b o q e => by
    obtain ⟨e1, e2⟩ := frame_none (Z := G) k e
    rw [join_g e1]
    exact u.free b o q e2
  there := u.there
  tups := fun b xs e => by
    cases q : F b with
    | none => rw [join_g q] at e ⊢; exact u.tups b xs e
    | some o => rw [join_f q] at e; cases e; exact (k b _ q).2.elim
  frzs := fun b o xs e => by
    cases q : F b with
    | none => rw [join_g q] at e ⊢; exact u.frzs b o xs e
    | some o => rw [join_f q] at e; cases e; exact (k b _ q).2.elim
  tbls := fun b xs e => by
    cases q : F b with
    | none => rw [join_g q] at e ⊢; exact u.tbls b xs e
    | some o => rw [join_f q] at e; cases e; exact (k b _ q).2.elim
end
theorem FnR.frame {P : Program} {w : World} {K : PySem.W.Frag} {mg : Str → Option Value} {base : Heap} {k : Nat} {f : Addr} {sp : Sp} (R : FnR P w K mg base (L2.CX P w) k f sp) : FnR P w K mg base (L2.CX P w) k f (Fr sp) := by
  intro A outer s H us vs Q E hr e0 r h
  obtain ⟨G, F, rfl, fk, h⟩ := h
  have at_ : ∀ a o, F a = some o → ∃ u, s.heap.get? a = some u := fun a o q => by
    have z := e0.hok a o (join_f q)
    have fo := (fk a o q).2
    cases o with
    | lst xs => obtain ⟨z, its, n, r, e⟩ := z; exact ⟨_, e⟩
    | dK kvs => obtain ⟨z, y, vs, r, ob, es, ep, e, c⟩ := z; exact ⟨_, e⟩
    | xd fs => obtain ⟨mA, ⟨od, es, ep, e, c⟩, r⟩ := z; exact ⟨_, e⟩
    | ins C dx fs => obtain ⟨d, z, ne, e, mA, ⟨od, es, ep, e2, c⟩, r⟩ := z; exact ⟨_, e⟩
    | own y => exact z
    | _ => exact fo.elim
  have nf : ∀ a o, F a = some o → a ∉ frs outer := fun a o q hm => by
    have := e0.frf a hm
    rw [join_f q] at this
    cases this
  have e1 : Env0 P w K mg base A outer s G := ⟨e0.frames, e0.mod, fun b o q => ⟨(e0.bs b o q).1, (frame_none (Z := G) fk (e0.bs b o q).2).2⟩, e0.bsz, e0.funs, fun b hb => (frame_none (Z := G) fk (e0.frf b hb)).2, frame_hok fk e0.hok, e0.bare⟩
  refine codeAny_mono (R A outer s G us vs _ _ hr e1 r h) fun res s' hq => ?_
  cases res with
  | error e =>
    obtain ⟨a, B, G2, cls, d, rfl, fl, ok, ub, na, os, ag, q⟩ := hq
    have n2 : ∀ b o, F b = some o → G2 b = none := fun b o z => by
      obtain ⟨u, hu⟩ := at_ b o z
      exact ub.free b u hu (fk b o z).1
    have k2 : FrOk G2 F := fun b o z => ⟨n2 b o z, (fk b o z).2⟩
    have kp : ∀ b o, F b = some o → ∀ u, s.heap.get? b = some u → B.get? b = some u := fun b o z u hu => ub.keep b u hu (fk b o z).1 (nf b o z)
    refine ⟨a, B, join G2 F, cls, d, rfl, fl, frame_back fk n2 e0.hok ok kp, frame_ub fk k2 ub, ?_, os, ag, q k2⟩
    have fa : F a = none := by
      cases z : F a with
      | none => rfl
      | some o =>
        obtain ⟨u, hu⟩ := at_ a o z
        have := kp a o z u hu
        rw [fl.2.1] at this
        cases this
    rw [join_g fa]
    exact na
  | ok fl =>
    cases fl with
    | ret u =>
      obtain ⟨v, G2, os, ag, un, ok, rv, q⟩ := hq
      have n2 : ∀ b o, F b = some o → G2 b = none := fun b o z => by
        obtain ⟨u, hu⟩ := at_ b o z
        exact un.free b u hu (fk b o z).1 (by simp)
      have k2 : FrOk G2 F := fun b o z => ⟨n2 b o z, (fk b o z).2⟩
      have kp : ∀ b o, F b = some o → ∀ u, s.heap.get? b = some u → s'.heap.get? b = some u := fun b o z u hu => un.keep b u hu (fk b o z).1 (nf b o z) (by simp)
      exact ⟨v, join G2 F, os, ag, frame_un fk k2 un, frame_back fk n2 e0.hok ok kp, rv, q k2⟩
    | next => exact False.elim hq
    | brk => exact False.elim hq
    | cont => exact False.elim hq
/-! ### one list, one instance beside -/
section
variable {G : Hp} {sp : Sp} {vs : List V} {Q : VK} {E : XK} {st x dx : Addr} {xs : List V} {C : Addr} {fs : List (Str × V)}
def F1 (a : Addr) (o : HO) : Hp := upd (fun _ => none) a o
theorem join_1 {a : Addr} {o : HO} : join G (F1 a o) = upd G a o := by
  funext b
  by_cases h : b = a
  · subst h; rw [upd_same]; exact join_f upd_same
  · rw [upd_ne h]; exact join_g (by unfold F1; rw [upd_ne h])
theorem frok_1 {a : Addr} (xs : List V) : FrOk G (F1 a (.lst xs)) ↔ G a = none := by
  constructor
  · intro h; exact (h a _ upd_same).1
  · intro h b o e
    by_cases q : b = a
    · subst q
      unfold F1 at e
      rw [upd_same] at e
      cases e
      exact ⟨h, trivial⟩
    · unfold F1 at e
      rw [upd_ne q] at e
      cases e
theorem fr_lst (n : G st = none) (h : sp vs G (fun v G2 => G2 st = none → Q v (upd G2 st (.lst xs))) (fun c d G2 => G2 st = none → E c d (upd G2 st (.lst xs)))) : Fr sp vs (upd G st (.lst xs)) Q E := by
  refine ⟨G, F1 st (.lst xs), join_1.symm, (frok_1 xs).mpr n, ?_⟩
  have e1 : (fun v G2 => FrOk G2 (F1 st (.lst xs)) → Q v (join G2 (F1 st (.lst xs)))) = fun v G2 => G2 st = none → Q v (upd G2 st (.lst xs)) := by
    funext v G2; rw [join_1, frok_1]
  have e2 : (fun c d G2 => FrOk G2 (F1 st (.lst xs)) → E c d (join G2 (F1 st (.lst xs)))) = fun c d G2 => G2 st = none → E c d (upd G2 st (.lst xs)) := by
    funext c d G2; rw [join_1, frok_1]
  rw [e1, e2]
  exact h
/-- nothing is framed -/
theorem fr_no (h : sp vs G Q E) (hi : ∀ {Q' : VK} {E' : XK}, (∀ v H, Q v H → Q' v H) → (∀ c d H, E c d H → E' c d H) → sp vs G Q E → sp vs G Q' E') : Fr sp vs G Q E := by
  have j0 : ∀ X : Hp, join X (fun _ => none) = X := fun X => by funext b; exact join_g rfl
  refine ⟨G, fun _ => none, (j0 G).symm, fun _ _ e => (nomatch e), hi (fun v H q _ => ?_) (fun c d H q _ => ?_) h⟩
  · rw [j0]; exact q
  · rw [j0]; exact q
theorem fr_ins (nx : G x = none) (ndx : G dx = none) (ne : dx ≠ x) (h : sp vs G (fun v G2 => G2 x = none → G2 dx = none → Q v (upd (upd G2 dx (.own x)) x (.ins C dx fs))) (fun c d G2 => G2 x = none → G2 dx = none → E c d (upd (upd G2 dx (.own x)) x (.ins C dx fs)))) :
    Fr sp vs (upd (upd G dx (.own x)) x (.ins C dx fs)) Q E := by
  have j : ∀ G : Hp, join G (upd (F1 dx (.own x)) x (.ins C dx fs)) = upd (upd G dx (.own x)) x (.ins C dx fs) := fun G => by
    funext b
    by_cases hb : b = x
    · subst hb; rw [upd_same]; exact join_f upd_same
    · rw [upd_ne hb]
      by_cases q : b = dx
      · rw [q, upd_same]; exact join_f (by rw [upd_ne ne]; exact upd_same)
      · rw [upd_ne q]; exact join_g (by rw [upd_ne hb]; unfold F1; rw [upd_ne q])
  have k : ∀ G : Hp, FrOk G (upd (F1 dx (.own x)) x (.ins C dx fs)) ↔ (G x = none ∧ G dx = none) := fun G => by
    constructor
    · intro h
      exact ⟨(h x _ upd_same).1, (h dx (.own x) (by rw [upd_ne ne]; exact upd_same)).1⟩
    · intro h b o e
      by_cases q : b = x
      · subst q
        rw [upd_same] at e
        cases e
        refine ⟨h.1, ?_⟩
        show upd (F1 dx (.own b)) b (.ins C dx fs) dx = some (.own b)
        rw [upd_ne ne]; exact upd_same
      · rw [upd_ne q] at e
        unfold F1 at e
        by_cases z : b = dx
        · subst z
          rw [upd_same] at e
          cases e
          exact ⟨h.2, _, upd_same⟩
        · rw [upd_ne z] at e
          cases e
  refine ⟨G, upd (F1 dx (.own x)) x (.ins C dx fs), (j G).symm, (k G).mpr ⟨nx, ndx⟩, ?_⟩
  have e1 : (fun v G2 => FrOk G2 (upd (F1 dx (.own x)) x (.ins C dx fs)) → Q v (join G2 (upd (F1 dx (.own x)) x (.ins C dx fs)))) = fun v G2 => G2 x = none → G2 dx = none → Q v (upd (upd G2 dx (.own x)) x (.ins C dx fs)) := by
    funext v G2; rw [j, k]; exact propext ⟨fun h a b => h ⟨a, b⟩, fun h a => h a.1 a.2⟩
  have e2 : (fun c d G2 => FrOk G2 (upd (F1 dx (.own x)) x (.ins C dx fs)) → E c d (join G2 (upd (F1 dx (.own x)) x (.ins C dx fs)))) = fun c d G2 => G2 x = none → G2 dx = none → E c d (upd (upd G2 dx (.own x)) x (.ins C dx fs)) := by
    funext c d G2; rw [j, k]; exact propext ⟨fun h a b => h ⟨a, b⟩, fun h a => h a.1 a.2⟩
  rw [e1, e2]
  exact h
end
end Sx

namespace Sx
open PySem PySem.Spec PyProof.Rows L2
section
variable {K : PySem.W.Frag} {G H : Hp} {Q : VK} {st p : Addr} {xs : List V} {a b c d e v : V} {i : Int}
theorem r_ixL (hp : SqL K H p xs) (he : atI xs i = some v) (h : Q v H) : rIxL K (.ref p) (.int i) H Q := ⟨p, xs, i, v, rfl, rfl, hp, he, h⟩
theorem r_setL {QS : Hp → Prop} {j : Nat} (he : ixN xs.length i = some j) (h : QS (upd G st (.lst (xs.set j v)))) : rSetL (.ref st) (.int i) v (upd G st (.lst xs)) QS :=
  ⟨st, xs, i, j, rfl, rfl, upd_same, he, by rw [L2.upd_upd]; exact h⟩
theorem r5_0 (h : Q a (upd G st (.lst [a, b, c, d, e]))) : rIxL K (.ref st) (.int 0) (upd G st (.lst [a, b, c, d, e])) Q := r_ixL (SqL.of upd_same) rfl h
theorem r5_1 (h : Q b (upd G st (.lst [a, b, c, d, e]))) : rIxL K (.ref st) (.int 1) (upd G st (.lst [a, b, c, d, e])) Q := r_ixL (SqL.of upd_same) rfl h
theorem r5_2 (h : Q c (upd G st (.lst [a, b, c, d, e]))) : rIxL K (.ref st) (.int 2) (upd G st (.lst [a, b, c, d, e])) Q := r_ixL (SqL.of upd_same) rfl h
theorem r5_3 (h : Q d (upd G st (.lst [a, b, c, d, e]))) : rIxL K (.ref st) (.int 3) (upd G st (.lst [a, b, c, d, e])) Q := r_ixL (SqL.of upd_same) rfl h
theorem r5_4 (h : Q e (upd G st (.lst [a, b, c, d, e]))) : rIxL K (.ref st) (.int 4) (upd G st (.lst [a, b, c, d, e])) Q := r_ixL (SqL.of upd_same) rfl h
theorem w5_1 {QS : Hp → Prop} (h : QS (upd G st (.lst [a, v, c, d, e]))) : rSetL (.ref st) (.int 1) v (upd G st (.lst [a, b, c, d, e])) QS := r_setL rfl h
theorem w5_2 {QS : Hp → Prop} (h : QS (upd G st (.lst [a, b, v, d, e]))) : rSetL (.ref st) (.int 2) v (upd G st (.lst [a, b, c, d, e])) QS := r_setL rfl h
theorem w5_3 {QS : Hp → Prop} (h : QS (upd G st (.lst [a, b, c, v, e]))) : rSetL (.ref st) (.int 3) v (upd G st (.lst [a, b, c, d, e])) QS := r_setL rfl h
theorem w5_4 {QS : Hp → Prop} (h : QS (upd G st (.lst [a, b, c, d, v]))) : rSetL (.ref st) (.int 4) v (upd G st (.lst [a, b, c, d, e])) QS := r_setL rfl h
end
/-! ### the state of the draws -/
structure Ds where
  it : Addr
  ns : List Int
  pos : Int
  big : Int
  mix : Int
  cnt : Int
abbrev Ds.o (s : Ds) : List V := [.ref s.it, .int s.pos, .int s.big, .int s.mix, .int s.cnt]
structure DsOk (K : PySem.W.Frag) (G : Hp) (s : Ds) : Prop where
  it : SqL K G s.it (s.ns.map V.int)
  pos : 0 ≤ s.pos
  mix0 : 0 ≤ s.mix
  mix1 : s.mix < 2147483648
theorem DsOk.mono {K : PySem.W.Frag} {G G' : Hp} {s : Ds} (h : DsOk K G s) (e : Same G G') : DsOk K G' s := ⟨Same.seq e h.it, h.pos, h.mix0, h.mix1⟩
def sp_draw (K : PySem.W.Frag) : Sp := fun vs H Q _ => ∃ st many G s, vs = [.ref st, .int many] ∧ H = upd G st (.lst (Ds.o s)) ∧ G st = none ∧ DsOk K G s ∧ 0 < many ∧ many < 1073741824 ∧
  ∀ r s', 0 ≤ r → r < many → DsOk K G s' → Q (.int r) (upd G st (.lst (Ds.o s')))
theorem k_draw {K : PySem.W.Frag} {G : Hp} {st : Addr} {s : Ds} {many : Int} {Q : VK} {E : XK} (hn : G st = none) (ok : DsOk K G s) (h1 : 0 < many) (h2 : many < 1073741824) (k : ∀ r s', 0 ≤ r → r < many → DsOk K G s' → Q (.int r) (upd G st (.lst (Ds.o s')))) : sp_draw K [.ref st, .int many] (upd G st (.lst (Ds.o s))) Q E :=
  ⟨st, many, G, s, rfl, rfl, hn, ok, h1, h2, k⟩
theorem atI_ints {ns : List Int} {i : Int} (h0 : 0 ≤ i) (h1 : i < (ns.map V.int).length) : ∃ n, atI (ns.map V.int) i = some (.int n) := by
  obtain ⟨j, rfl⟩ : ∃ j : Nat, i = j := ⟨i.toNat, by omega⟩
  have hj : j < ns.length := by simpa using h1
  exact ⟨ns[j], atI_nat (by rw [List.getElem?_map, List.getElem?_eq_getElem hj]; rfl)⟩
end Sx

namespace Sx
open PySem PySem.Spec PyProof.Rows L2
/-! ### list comprehensions that make data -/
section
variable {K : PySem.W.Frag} {H1 : Hp} {a : Addr} {xs : List V} {g : TG} {tt : TT} {te : TE} {vs : List Nat} {σ : L2.St} {Q : VK} {out : List (Option D)}
/-- what holds at the i-th turn -/
def LcP (K : PySem.W.Frag) (H1 : Hp) (D : Addr) (out : List (Option Sx.D)) (i : Nat) (H : Hp) : Prop := ∃ G ys, H = upd G D (.lst ys) ∧ G D = none ∧ Same H1 G ∧ ys.length ≤ i ∧ IsL K G ys ((out.take i).filterMap id)
/-- what is to be shown of one turn: the element y is the data d, or it is passed over -/
def LcS (K : PySem.W.Frag) (H1 : Hp) (D : Addr) (g : TG) (tt : TT) (te : TE) (vs : List Nat) (σ : L2.St) (x : V) (o : Option Sx.D) : Prop :=
  ∀ (G : Hp) (acc : List V) (Nk : VK) (El : Hp → Prop), Same H1 G → G D = none → (∀ d, o = some d → ∀ y G4, G4 D = none → Same G G4 → Is K G4 y d → Nk y (upd G4 D (.lst acc))) → (o = none → ∀ G4, G4 D = none → Same G G4 → El (upd G4 D (.lst acc))) →
    g x (wipe σ vs) (upd G D (.lst acc)) fun σ2 H2 => wipe σ2 vs = wipe σ vs ∧ tt σ2 H2 fun b H3 => if b = true then te σ2 H3 Nk else El H3
theorem LcP.step {D : Addr} {i : Nat} {H : Hp} {x : V} {o : Option Sx.D} (ho : out[i]? = some o) (hi : i < 1000000) (h : LcS K H1 D g tt te vs σ x o) (p : LcP K H1 D out i H) :
    g x (wipe σ vs) H fun σ2 H2 => wipe σ2 vs = wipe σ vs ∧ tt σ2 H2 fun b H3 => if b = true then te σ2 H3 fun y H4 => ∃ acc, H4 D = some (.lst acc) ∧ acc.length < sizeLine ∧ LcP K H1 D out (i + 1) (upd H4 D (.lst (acc ++ [y]))) else LcP K H1 D out (i + 1) H3 := by
  obtain ⟨G, ys, rfl, hn, hs, hl, hy⟩ := p
  have et : out.take (i + 1) = out.take i ++ [o] := by rw [List.take_succ, ho]; rfl
  refine h G ys _ _ hs hn (fun d ed y G4 n4 s4 hd => ⟨ys, upd_same, ?_, G4, ys ++ [y], ?_, n4, hs.trans s4, ?_, ?_⟩) (fun eo G4 n4 s4 => ⟨G4, ys, rfl, n4, hs.trans s4, by omega, ?_⟩)
  · rw [sizeLine_eq]; omega
  · rw [L2.upd_upd]
  · simp; omega
  · rw [et, List.filterMap_append, ed]
    exact (IsL.mono s4 hy).snoc hd
  · rw [et, List.filterMap_append, eo]
    simpa using IsL.mono s4 hy
theorem LcP.zero {D : Addr} (n : H1 D = none) : LcP K H1 D out 0 (upd H1 D (.lst [])) := ⟨H1, [], rfl, n, Same.refl _, Nat.le_refl _, .nil⟩
theorem LcP.last {D : Addr} {n : Nat} {H : Hp} (hn : n = out.length) (p : LcP K H1 D out n H) (h : ∀ G ys, Same H1 G → G D = none → IsL K G ys (out.filterMap id) → Q (.ref D) (upd G D (.lst ys))) : Q (.ref D) H := by
  obtain ⟨G, ys, rfl, n1, s, _, hy⟩ := p
  rw [hn, List.take_length] at hy
  exact h G ys s n1 hy
theorem LcP.seq {D : Addr} {i : Nat} {H : Hp} (ha : SqL K H1 a xs) (p : LcP K H1 D out i H) : SqL K H a xs := by
  obtain ⟨G, ys, rfl, n1, s, _⟩ := p
  exact Same.seq (Same.updR s n1) ha
theorem LcP.seqT {D : Addr} {i : Nat} {H : Hp} (ha : SqT K H1 a xs) (p : LcP K H1 D out i H) : SqT K H a xs := by
  obtain ⟨G, ys, rfl, n1, s, _⟩ := p
  exact Same.seqT (Same.updR s n1) ha
end
section
variable {K : PySem.W.Frag} {H : Hp} {a : Addr} {xs : List V} {g : TG} {tt : TT} {te : TE} {vs : List Nat} {σ : L2.St} {Q : VK}
def kLcL (K : PySem.W.Frag) (g : TG) (tt : TT) (te : TE) (vs : List Nat) (σ : L2.St) (Q : VK) : VK := fun x H => ∃ b, x = .ref b ∧ (∃ xs, SqL K H b xs) ∧ ∀ D, H D = none → ∃ W : Nat → Nat → Hp → Prop, (∃ m, W 0 m (upd H D (.lst []))) ∧ ∀ i m H, W i m H →
      ((Itl K b).stop i H ∧ Q (.ref D) H) ∨ ((Itl K b).go i H ∧ ∃ Nx : Hp → Prop, (∀ H', Nx H' → ∃ m', m' < m ∧ W (i + 1) m' H') ∧ ∀ x H', (Itl K b).yld i H x H' → g x (wipe σ vs) H' fun σ2 H2 => wipe σ2 vs = wipe σ vs ∧ tt σ2 H2 fun b H3 =>
        if b = true then te σ2 H3 fun y H4 => ∃ acc, H4 D = some (.lst acc) ∧ acc.length < sizeLine ∧ Nx (upd H4 D (.lst (acc ++ [y]))) else Nx H3)
def kLcT (K : PySem.W.Frag) (g : TG) (tt : TT) (te : TE) (vs : List Nat) (σ : L2.St) (Q : VK) : VK := fun x H => ∃ b, x = .ref b ∧ (∃ xs, SqT K H b xs) ∧ ∀ D, H D = none → ∃ W : Nat → Nat → Hp → Prop, (∃ m, W 0 m (upd H D (.lst []))) ∧ ∀ i m H, W i m H →
      ((Itt K b).stop i H ∧ Q (.ref D) H) ∨ ((Itt K b).go i H ∧ ∃ Nx : Hp → Prop, (∀ H', Nx H' → ∃ m', m' < m ∧ W (i + 1) m' H') ∧ ∀ x H', (Itt K b).yld i H x H' → g x (wipe σ vs) H' fun σ2 H2 => wipe σ2 vs = wipe σ vs ∧ tt σ2 H2 fun b H3 =>
        if b = true then te σ2 H3 fun y H4 => ∃ acc, H4 D = some (.lst acc) ∧ acc.length < sizeLine ∧ Nx (upd H4 D (.lst (acc ++ [y]))) else Nx H3)
def kLcR (lo : Int) (n : Nat) (g : TG) (tt : TT) (te : TE) (vs : List Nat) (σ : L2.St) (Q : VK) (H : Hp) : Prop := ∀ D, H D = none → ∃ W : Nat → Nat → Hp → Prop, (∃ m, W 0 m (upd H D (.lst []))) ∧ ∀ i m H, W i m H →
      ((Itr lo n).stop i H ∧ Q (.ref D) H) ∨ ((Itr lo n).go i H ∧ ∃ Nx : Hp → Prop, (∀ H', Nx H' → ∃ m', m' < m ∧ W (i + 1) m' H') ∧ ∀ x H', (Itr lo n).yld i H x H' → g x (wipe σ vs) H' fun σ2 H2 => wipe σ2 vs = wipe σ vs ∧ tt σ2 H2 fun b H3 =>
        if b = true then te σ2 H3 fun y H4 => ∃ acc, H4 D = some (.lst acc) ∧ acc.length < sizeLine ∧ Nx (upd H4 D (.lst (acc ++ [y]))) else Nx H3)
def kLcR1 (g : TG) (tt : TT) (te : TE) (vs : List Nat) (σ : L2.St) (Q : VK) : List V → Hp → Prop := fun us H => ∃ j : Int, us = [.int j] ∧ -(2 ^ 62) ≤ j ∧ j < 2 ^ 62 ∧ kLcR 0 j.toNat g tt te vs σ Q H
def kLcR2 (g : TG) (tt : TT) (te : TE) (vs : List Nat) (σ : L2.St) (Q : VK) : List V → Hp → Prop := fun us H => ∃ i j : Int, us = [.int i, .int j] ∧ (-(2 ^ 62) ≤ i ∧ i < 2 ^ 62 ∧ -(2 ^ 62) ≤ j ∧ j < 2 ^ 62) ∧ kLcR i (j - i).toNat g tt te vs σ Q H
theorem r_lcL {tl : TE} (h : tl σ H (kLcL K g tt te vs σ Q)) : tLc (iList K tl) g tt te vs σ H Q := h
theorem r_lcT {tl : TE} (h : tl σ H (kLcT K g tt te vs σ Q)) : tLc (iTup K tl) g tt te vs σ H Q := h
theorem r_lcR1 {ta : TA} (h : ta σ H (kLcR1 g tt te vs σ Q)) : tLc (iRng1 ta) g tt te vs σ H Q := h
theorem r_lcR2 {ta : TA} (h : ta σ H (kLcR2 g tt te vs σ Q)) : tLc (iRng2 ta) g tt te vs σ H Q := h
/-- the walk over a list that stands: [e for x in l] -/
theorem k_lcL (out : List (Option D)) (ha : SqL K H a xs) (hl : out.length = xs.length) (hz : xs.length < 1000000) (h : ∀ D, H D = none → (∀ (i : Nat) x o, xs[i]? = some x → out[i]? = some o → LcS K H D g tt te vs σ x o) ∧
      ∀ G ys, Same H G → G D = none → IsL K G ys (out.filterMap id) → Q (.ref D) (upd G D (.lst ys))) :
    kLcL K g tt te vs σ Q (.ref a) H := by
  refine ⟨a, rfl, ⟨xs, ha⟩, fun D n => ?_⟩
  obtain ⟨q1, q2⟩ := h D n
  refine lc_list (xs := xs) (LcP K H D out) (LcP.zero n) (fun i H _ p => p.seq ha) (fun i x H e p => ?_) (fun H p => p.last hl.symm q2)
  have hi : i < xs.length := (List.getElem?_eq_some_iff.mp e).1
  have ho : out[i]? = some out[i] := List.getElem?_eq_getElem (by omega)
  exact p.step ho (by omega) (q1 i x _ e ho)
theorem k_lcT (out : List (Option D)) (ha : SqT K H a xs) (hl : out.length = xs.length) (hz : xs.length < 1000000) (h : ∀ D, H D = none → (∀ (i : Nat) x o, xs[i]? = some x → out[i]? = some o → LcS K H D g tt te vs σ x o) ∧
      ∀ G ys, Same H G → G D = none → IsL K G ys (out.filterMap id) → Q (.ref D) (upd G D (.lst ys))) :
    kLcT K g tt te vs σ Q (.ref a) H := by
  refine ⟨a, rfl, ⟨xs, ha⟩, fun D n => ?_⟩
  obtain ⟨q1, q2⟩ := h D n
  refine lc_tup (xs := xs) (LcP K H D out) (LcP.zero n) (fun i H _ p => p.seqT ha) (fun i x H e p => ?_) (fun H p => p.last hl.symm q2)
  have hi : i < xs.length := (List.getElem?_eq_some_iff.mp e).1
  have ho : out[i]? = some out[i] := List.getElem?_eq_getElem (by omega)
  exact p.step ho (by omega) (q1 i x _ e ho)
theorem k_lcR {lo : Int} {n : Nat} (out : List (Option D)) (hl : out.length = n) (hz : n < 1000000) (h : ∀ D, H D = none → (∀ (i : Nat) o, i < n → out[i]? = some o → LcS K H D g tt te vs σ (.int (lo + i)) o) ∧
      ∀ G ys, Same H G → G D = none → IsL K G ys (out.filterMap id) → Q (.ref D) (upd G D (.lst ys))) : kLcR lo n g tt te vs σ Q H := by
  intro D hn
  obtain ⟨q1, q2⟩ := h D hn
  refine lc_range (LcP K H D out) (LcP.zero hn) (fun i H e p => ?_) (fun H p => p.last hl.symm q2)
  have ho : out[i]? = some out[i] := List.getElem?_eq_getElem (by omega)
  exact p.step ho (by omega) (q1 i _ e ho)
theorem k_lcR1 {j : Int} (h1 : -(2 ^ 62) ≤ j) (h2 : j < 2 ^ 62) (h : kLcR 0 j.toNat g tt te vs σ Q H) : kLcR1 g tt te vs σ Q [.int j] H := ⟨j, rfl, h1, h2, h⟩
theorem k_lcR2 {i j : Int} (h1 : -(2 ^ 62) ≤ i) (h2 : i < 2 ^ 62) (h3 : -(2 ^ 62) ≤ j) (h4 : j < 2 ^ 62) (h : kLcR i (j - i).toNat g tt te vs σ Q H) : kLcR2 g tt te vs σ Q [.int i, .int j] H := ⟨i, j, rfl, ⟨h1, h2, h3, h4⟩, h⟩
theorem r_sliceL {lo hi : Option Int} (ha : SqL K H a xs) (h : ∀ p, H p = none → Q (.ref p) (upd H p (.lst (cutV xs lo hi)))) : rSlL K (.ref a) lo hi H Q := ⟨a, xs, rfl, ha, h⟩
end
theorem r_yes {σ : L2.St} {H : Hp} {QB : Bool → Hp → Prop} (h : QB true H) : tYes σ H QB := h
theorem fm_map {α : Type} (f : α → D) : ∀ l : List α, (l.map fun n => some (f n)).filterMap id = l.map f
  | [] => rfl
  | a :: l => by rw [List.map_cons, List.map_cons, ← fm_map f l]; rfl
theorem fm_some : ∀ l : List D, (l.map some).filterMap id = l
  | [] => rfl
  | a :: l => by show a :: (l.map some).filterMap id = a :: l; rw [fm_some l]
/-! ### for -/
section
variable {K : PySem.W.Frag} {H : Hp} {a : Addr} {xs : List V} {g : TG} {tb : TS} {D : Ends} {σ : L2.St}
def kFor (J : It) (g : TG) (tb : TS) (D : Ends) (σ : L2.St) (H : Hp) : Prop := ∃ W : Nat → Nat → L2.St → Hp → Prop, (∃ m, W 0 m σ H) ∧ ∀ i m σ H, W i m σ H →
  (J.stop i H ∧ D.nx σ H) ∨ (J.go i H ∧ ∃ N : L2.St → Hp → Prop, (∀ σ' H', N σ' H' → ∃ m', m' < m ∧ W (i + 1) m' σ' H') ∧ ∀ x H', J.yld i H x H' → g x σ H' fun σ2 H2 => tb { D with nx := N, ct := N, bk := D.nx } σ2 H2)
def kForL (K : PySem.W.Frag) (g : TG) (tb : TS) (D : Ends) (σ : L2.St) : VK := fun x H => ∃ b, x = .ref b ∧ (∃ xs, SqL K H b xs) ∧ kFor (Itl K b) g tb D σ H
def kForT (K : PySem.W.Frag) (g : TG) (tb : TS) (D : Ends) (σ : L2.St) : VK := fun x H => ∃ b, x = .ref b ∧ (∃ xs, SqT K H b xs) ∧ kFor (Itt K b) g tb D σ H
def kForR1 (g : TG) (tb : TS) (D : Ends) (σ : L2.St) : List V → Hp → Prop := fun us H => ∃ j : Int, us = [.int j] ∧ -(2 ^ 62) ≤ j ∧ j < 2 ^ 62 ∧ kFor (Itr 0 j.toNat) g tb D σ H
def kForR2 (g : TG) (tb : TS) (D : Ends) (σ : L2.St) : List V → Hp → Prop := fun us H => ∃ i j : Int, us = [.int i, .int j] ∧ (-(2 ^ 62) ≤ i ∧ i < 2 ^ 62 ∧ -(2 ^ 62) ≤ j ∧ j < 2 ^ 62) ∧ kFor (Itr i (j - i).toNat) g tb D σ H
theorem r_forL {tl : TE} (h : tl σ H (kForL K g tb D σ)) : tFor (iList K tl) g tb D σ H := h
theorem r_forT {tl : TE} (h : tl σ H (kForT K g tb D σ)) : tFor (iTup K tl) g tb D σ H := h
theorem r_forR1 {ta : TA} (h : ta σ H (kForR1 g tb D σ)) : tFor (iRng1 ta) g tb D σ H := h
theorem r_forR2 {ta : TA} (h : ta σ H (kForR2 g tb D σ)) : tFor (iRng2 ta) g tb D σ H := h
theorem k_forL (Pv : Nat → L2.St → Hp → Prop) (ha : SqL K H a xs) (h0 : Pv 0 σ H) (hl : ∀ i σ H, i ≤ xs.length → Pv i σ H → SqL K H a xs)
    (hs : ∀ (i : Nat) x σ H, xs[i]? = some x → Pv i σ H → g x σ H fun σ2 H2 => tb { D with nx := Pv (i + 1), ct := Pv (i + 1), bk := D.nx } σ2 H2) (hd : ∀ σ H, Pv xs.length σ H → D.nx σ H) : kForL K g tb D σ (.ref a) H :=
  ⟨a, rfl, ⟨xs, ha⟩, for_list (xs := xs) Pv h0 hl hs hd⟩
theorem k_forT (Pv : Nat → L2.St → Hp → Prop) (ha : SqT K H a xs) (h0 : Pv 0 σ H) (hl : ∀ i σ H, i ≤ xs.length → Pv i σ H → SqT K H a xs)
    (hs : ∀ (i : Nat) x σ H, xs[i]? = some x → Pv i σ H → g x σ H fun σ2 H2 => tb { D with nx := Pv (i + 1), ct := Pv (i + 1), bk := D.nx } σ2 H2) (hd : ∀ σ H, Pv xs.length σ H → D.nx σ H) : kForT K g tb D σ (.ref a) H :=
  ⟨a, rfl, ⟨xs, ha⟩, for_tup (xs := xs) Pv h0 hl hs hd⟩
theorem k_forR {lo : Int} {n : Nat} (Pv : Nat → L2.St → Hp → Prop) (h0 : Pv 0 σ H)
    (hs : ∀ i σ H, i < n → Pv i σ H → g (.int (lo + i)) σ H fun σ2 H2 => tb { D with nx := Pv (i + 1), ct := Pv (i + 1), bk := D.nx } σ2 H2) (hd : ∀ σ H, Pv n σ H → D.nx σ H) : kFor (Itr lo n) g tb D σ H := for_range Pv h0 hs hd
theorem k_forR1 {j : Int} (h1 : -(2 ^ 62) ≤ j) (h2 : j < 2 ^ 62) (h : kFor (Itr 0 j.toNat) g tb D σ H) : kForR1 g tb D σ [.int j] H := ⟨j, rfl, h1, h2, h⟩
theorem k_forR2 {i j : Int} (h1 : -(2 ^ 62) ≤ i) (h2 : i < 2 ^ 62) (h3 : -(2 ^ 62) ≤ j) (h4 : j < 2 ^ 62) (h : kFor (Itr i (j - i).toNat) g tb D σ H) : kForR2 g tb D σ [.int i, .int j] H := ⟨i, j, rfl, ⟨h1, h2, h3, h4⟩, h⟩
end
theorem cut_to (xs : List V) (k : Nat) : cutV xs none (some (k : Int)) = xs.take k := by
  unfold cutV
  rw [HT.sIx_none, HT.sIx_nat, List.drop_zero, Nat.sub_zero]
  by_cases h : k ≤ xs.length
  · rw [Nat.min_eq_left h]
  · rw [Nat.min_eq_right (by omega), List.take_of_length_le (Nat.le_refl _), List.take_of_length_le (by omega)]
end Sx

namespace Sx
open PySem PySem.Spec PyProof.Rows L2
/-! ### what stands in an except suite -/
theorem excC_of {K : PySem.W.Frag} {x : Str} (f : XfC K (He.ga K x)) (c : (Fx.xis x).ok K = true) : ExcC K (He.ga K x) := by
  obtain ⟨c1, c⟩ := He.ba c
  obtain ⟨c2, c⟩ := He.ba c
  obtain ⟨c3, c4⟩ := He.ba c
  exact ⟨f.ga, f.gg, f.exC, f.hdC, He.eqO_ok c1, He.eqO_ok c2, of_decide_eq_true c3, of_decide_eq_true c4⟩
class IsExc (K : PySem.W.Frag) (x : Str) : Prop where
  c : ExcC K (He.ga K x)
def rIsX (K : PySem.W.Frag) (a : Addr) (cls : Value) (d : Option Addr) : List V → Hp → VK → Prop := fun xs H Q => ∃ (C : Addr) (c : V) (cv : Value) (b : Bool), cls = .ref C ∧ xs = [.ref a, c] ∧ (∀ u, RelV c u → u = cv) ∧ ExcC K C ∧ PySem.W.kitOne K (.ref C) cv = some b ∧
  (d = none ∨ ∃ dd fs, d = some dd ∧ H dd = some (.xd fs)) ∧ Q (.bl b) H
theorem call_isX {X : Cx} {a : Addr} {cls : Value} {d : Option Addr} {oe : Obj} {pn : List (Addr × Obj)} (hz : Zc cls d oe) (hf : ∃ vs, oe.data = .fields vs) : CallR (X.suite a ((a, oe) :: pn)) (.builtin "isinstance") (rIsX X.K a cls d) := by
  intro pins s σ H xs us Q I r h
  obtain ⟨D, c, cv, b, rfl, rfl, hcv, C, e, hd, q⟩ := h
  cases r with
  | cons rx rr =>
    cases rr with
    | cons rt rr =>
      cases rr
      cases rx
      have ec := hcv _ rt
      subst ec
      obtain ⟨hget, _⟩ := I.pin (a, oe) (List.mem_append.mpr (.inl List.mem_cons_self))
      obtain ⟨vs, hv⟩ := hf
      have J : ∃ od, PySem.W.InstAt s.heap a oe D od := by
        rcases hd with rfl | ⟨dd, fs, rfl, ea⟩
        · exact ⟨none, hget, hz.1, by unfold PySem.W.notCls; rw [hv] <;> rfl, by rw [hz.2]; trivial⟩
        · have hx : ObjOk X.prog X.w H s.heap dd (.xd fs) := I.hok dd _ ea
          obtain ⟨mA, hns, hr⟩ := hx
          obtain ⟨od, ho, hl⟩ := lookIn_ns hns
          exact ⟨some od, hget, hz.1, by unfold PySem.W.notCls; rw [hv] <;> rfl, by rw [hz.2]; exact ho⟩
      obtain ⟨od, J⟩ := J
      have hcl : (PySem.W.clsIn X.K D).isSome = true := by
        obtain ⟨cd, hc, _⟩ := PySem.W.any_some C.hd
        rw [hc]; rfl
      exact PySem.W.kia_one (PySem.W.kitx_exc (od := od) hcl C.hg C.hk C.hs C.ha C.hn C.ht C.hm) I.kIn J e (fun z => nomatch z) fun tk => ⟨.bl b, H, I.kept (t' := tk) fun _ _ z => z, rfl, q⟩
section
variable {K : PySem.W.Frag} {H : Hp} {Q : VK} {a dd : Addr} {fs : List (Str × V)} {x c f : Str} {b : Bool} {v : V} {σ : L2.St}
theorem r_isXC [C : IsExc K x] [k : Kit K (.c x) (.c c) b] (hd : At H dd (.xd fs)) (h : Q (.bl b) H) : rIsX K a (.ref (He.ga K x)) (some dd) [.ref a, .ref (He.ga K c)] H Q :=
  ⟨_, _, _, b, rfl, rfl, fun u e => e, C.c, k.h, .inr ⟨dd, fs, rfl, hd⟩, h⟩
theorem r_isXB {n : String} [C : IsExc K x] [k : Kit K (.c x) (.b n) b] (hd : At H dd (.xd fs)) (h : Q (.bl b) H) : rIsX K a (.ref (He.ga K x)) (some dd) [.ref a, .ty n] H Q :=
  ⟨_, _, _, b, rfl, rfl, fun u e => e, C.c, k.h, .inr ⟨dd, fs, rfl, hd⟩, h⟩
def kXf (a : Addr) (cls : Value) (d : Option Addr) (C : Addr) (f : Str) (Q : VK) : VK := fun x H1 => x = .ref a ∧ cls = .ref C ∧ ∃ (dd : Addr) (fs : List (Str × V)) (v : V), d = some dd ∧ H1 dd = some (.xd fs) ∧ fs.lookup f = some v ∧ Q v H1
theorem r_xf {cls : Value} {d : Option Addr} {C : Addr} {te : TE} (h : te σ H (kXf a cls d C f Q)) : tXf a cls d C f te σ H Q := h
theorem k_xf {C : Addr} (hd : At H dd (.xd fs)) (e : fs.lookup f = some v) (h : Q v H) : kXf a (.ref C) (some dd) C f Q (.ref a) H := ⟨rfl, rfl, dd, fs, v, rfl, hd, e, h⟩
theorem r_wAs {cls cv : Value} {i : Nat} {ts : Addr → Value → Option Addr → TS} {Wout : WX} {D : Ends} {d : Option Addr} (hx : PySem.W.exmOne K cls cv = some true)
    (h : ∀ a, H a = none → ts a cls d { nx := fun σ' H' => D.nx (σ'.set i none) H', rt := D.rt, bk := fun σ' H' => D.bk (σ'.set i none) H', ct := fun σ' H' => D.ct (σ'.set i none) H' } (σ.set i (some (.ref a))) H) : wAs K cv i ts Wout D cls d σ H :=
  ⟨true, hx, fun _ => h, fun e => by cases e⟩
theorem r_wOnly {cls cv : Value} {ts : Addr → Value → Option Addr → TS} {Wout : WX} {D : Ends} {d : Option Addr} (hx : PySem.W.exmOne K cls cv = some true) (h : ∀ a, H a = none → ts a cls d D σ H) : wOnly K cv ts Wout D cls d σ H :=
  ⟨true, hx, fun _ => h, fun e => by cases e⟩
end
end Sx

namespace Sx
open PySem PySem.Spec PyProof.Rows L2
mutual
def D.py : D → PyData
  | .non => .none
  | .bl b => .bool b
  | .int i => .int i
  | .str x => .str x
  | .tup ds => .tuple (pyL ds)
  | .lst ds => .list (pyL ds)
  | .ins _ _ => .none
  | .dic => .none
def pyL : List D → List PyData
  | [] => []
  | d :: ds => D.py d :: pyL ds
end
mutual
/-- None, bools, ints, texts, tuples and lists of such -/
def D.pl : D → Bool
  | .tup ds => plL ds
  | .lst ds => plL ds
  | .ins _ _ => false
  | .dic => false
  | .non => true
  | .bl _ => true
  | .int _ => true
  | .str _ => true
def plL : List D → Bool
  | [] => true
  | d :: ds => D.pl d && plL ds
end
section
variable {K : PySem.W.Frag} {H : Hp}
mutual
theorem Is.dp : ∀ {v : V} {d : D}, Is K H v d → D.pl d = true → Dp K H v (D.py d)
  | _, _, .non, _ => by rw [D.py]; exact .non
  | _, _, .bl b, _ => by rw [D.py]; exact .bl b
  | _, _, .int i, _ => by rw [D.py]; exact .int i
  | _, _, .str x, _ => by rw [D.py]; exact .str x
  | _, _, .tup h hs, p => by rw [D.py]; rw [D.pl] at p; exact .tup h (IsL.dp hs p)
  | _, _, .lst h hs, p => by rw [D.py]; rw [D.pl] at p; exact .lst h (IsL.dp hs p)
  | _, _, .ins _ _, p => by rw [D.pl] at p; cases p
  | _, _, .dic _, p => by rw [D.pl] at p; cases p
theorem IsL.dp : ∀ {vs : List V} {ds : List D}, IsL K H vs ds → plL ds = true → DpAll K H vs (pyL ds)
  | _, _, .nil, _ => by rw [pyL]; exact .nil
  | _, _, .cons h hs, p => by
    rw [plL, Bool.and_eq_true] at p
    rw [pyL]
    exact .cons (Is.dp h p.1) (IsL.dp hs p.2)
end
variable {Q : VK} {x y v : V} {d e : D} {b : Bool} {ds : List D} {i : Int}
theorem r_neD (hx : Is K H x d) (hy : Is K H y e) (p1 : d.pl = true) (p2 : e.pl = true) (s1 : SeqAt.shaped d.py = true) (s2 : SeqAt.shaped e.py = true) (hb : PyData.eqv d.py e.py = b) (h : Q (.bl (!b)) H) : rNeD K x y H Q :=
  ⟨_, _, hx.dp p1, hy.dp p2, s1, s2, by rw [hb]; exact h⟩
theorem r_eqD (hx : Is K H x d) (hy : Is K H y e) (p1 : d.pl = true) (p2 : e.pl = true) (s1 : SeqAt.shaped d.py = true) (s2 : SeqAt.shaped e.py = true) (hb : PyData.eqv d.py e.py = b) (h : Q (.bl b) H) : rEqD K x y H Q :=
  ⟨_, _, hx.dp p1, hy.dp p2, s1, s2, by rw [hb]; exact h⟩
theorem k_ixD (hv : Is K H v (.lst ds)) (h0 : 0 ≤ i) (h1 : i < ds.length) (h : ∀ u d, ds[i.toNat]? = some d → Is K H u d → Q u H) : rIxL K v (.int i) H Q := by
  obtain ⟨j, rfl⟩ : ∃ j : Nat, i = j := ⟨i.toNat, by omega⟩
  cases hv with
  | lst hs hd =>
    have hj : j < ds.length := by omega
    obtain ⟨u, e1, e2⟩ := hd.get (List.getElem?_eq_getElem hj)
    exact ⟨_, _, _, u, rfl, rfl, hs, atI_nat e1, h u _ (by simp [hj]) e2⟩
theorem r_dic {σ : L2.St} (k : ∀ v H2, Same H H2 → Is K H2 v .dic → Q v H2) : tDNewK σ H Q :=
  fun p n => k _ _ (Same.updR (Same.refl _) n) (.dic upd_same)
end
theorem Vals.rev : ∀ {vs : List V} {us : List Value}, Vals vs us → Vals vs.reverse us.reverse
  | _, _, .nil => .nil
  | _, _, .cons r t => by
    rw [List.reverse_cons, List.reverse_cons]
    exact L2.Vals.append (Vals.rev t) (.cons r .nil)
def kMakeK (C : Addr) (n m : Nat) (sp : Sp) (gV : List V → List V → List V) (Q : VK) (E : XK) (vs : List V) : List V → Hp → Prop := fun zs H2 => vs.length = n ∧ zs.length = m ∧
  ∀ x dx, H2 x = none → H2 dx = none → dx ≠ x → sp (gV (.ref x :: vs) zs) (upd (upd H2 dx (.own x)) x (.ins C dx [])) (fun v H3 => v = .non ∧ Q (.ref x) H3) E
theorem r_makeK {C : Addr} {n m : Nat} {sp : Sp} {gV : List V → List V → List V} {E : XK} {t tk : TA} {σ : L2.St} {H : Hp} {Q : VK} (h : t σ H fun vs H1 => tk σ H1 (kMakeK C n m sp gV Q E vs)) : tMakeK C n m sp gV E t tk σ H Q := h
end Sx

namespace Sx
open PySem PySem.Spec PyProof.Rows L2
/-- a law whose defs may raise inside: what a call lets out is told world by world -/
theorem walk_x {law : PySem.W.OpenLaw} {lim lev : Nat} {pq : Program} {names : List Str} {XP : (Str → Option Value) → Heap → Prop} {YP : World → Heap → Prop} {def_ : DefRec} {x : Str}
    (h1 : law.most = some lim) (h2 : lim ≤ sizeLine) (h3 : def_.params.defaults = []) (h4 : Room lev callerA)
    (F : ∀ (w : World) (mg : Str → Option Value) (at_ : Addr) (hp : Heap), YP w hp → hp.Ns mainGlobals mg → mg def_.name = some (.ref at_) → ∃ (K : PySem.W.Frag) (fd : FuncData) (sp : Sp), K.In hp ∧
      (∀ (sh : Shared) (val : Value), BindsTo sh fd ⟨[val], []⟩ [(x, val)]) ∧ (∀ (H : Hp) (li : Addr) (ns : List Int), ns.length ≤ lim → SqL K H li (ns.map V.int) → sp [.ref li] H (fun v _ => v = .bl true) fun _ _ _ => False) ∧
      ∀ b0 : Heap, K.In b0 → b0.Ns mainGlobals mg → FnOk law.prog w K mg b0 (L2.CX law.prog w) lev at_ fd [x] sp) :
    PySem.W.WalkO pq names XP YP law.row.toRowW def_ [] (fun f vs => PySem.call f vs) := by
  refine Att.attach_call h1 h3 fun w _ sh mg _ at_ _ _ _ _ li vals ns gr yp _ _ _ hname hli hvals hlen hgens => ?_
  obtain ⟨K, fd, sp, kin, bnd, hsp, ok⟩ := F w mg at_ _ yp gr.T.g hname
  refine law_call kin gr.T.g gr.T.b gr.T.builtins gr.T.nolimit hgens hli hvals (Nat.le_trans hlen h2) h4 ok bnd (fun H _ sq => hsp H li ns hlen sq) fun H e s' out => ?_
  obtain ⟨_, _, _, _, _, _, _, _, _, _, _, _, no⟩ := out
  exact no
end Sx

namespace Sx
open PySem PySem.Spec PyProof.Rows L2
def top (i : Nat) : Stmt := PySem.Challenge.pw_seriessquares_k01_ratio_made.main.body.getD i (.Pass ⟨0, 0, 0, 0⟩)
abbrev s_is_integer : Stmt := top 7
def d_is_integer : He.DefD := ⟨("is_integer", none), "is_integer", "is_integer", defArgs s_is_integer, defBody s_is_integer, defScope s_is_integer, [], []⟩
abbrev s_plain_digits : Stmt := top 8
def d_plain_digits : He.DefD := ⟨("plain_digits", none), "plain_digits", "plain_digits", defArgs s_plain_digits, defBody s_plain_digits, defScope s_plain_digits, [], []⟩
abbrev s__law_state : Stmt := top 11
def d__law_state : He.DefD := ⟨("_law_state", none), "_law_state", "_law_state", defArgs s__law_state, defBody s__law_state, defScope s__law_state, [], []⟩
abbrev s__law_draw : Stmt := top 12
def d__law_draw : He.DefD := ⟨("_law_draw", none), "_law_draw", "_law_draw", defArgs s__law_draw, defBody s__law_draw, defScope s__law_draw, [], []⟩
abbrev s__law_gcd : Stmt := top 13
def d__law_gcd : He.DefD := ⟨("_law_gcd", none), "_law_gcd", "_law_gcd", defArgs s__law_gcd, defBody s__law_gcd, defScope s__law_gcd, [], []⟩
abbrev s__law_is_integer : Stmt := top 14
def d__law_is_integer : He.DefD := ⟨("_law_is_integer", none), "_law_is_integer", "_law_is_integer", defArgs s__law_is_integer, defBody s__law_is_integer, defScope s__law_is_integer, [], []⟩
abbrev s__law_great : Stmt := top 15
def d__law_great : He.DefD := ⟨("_law_great", none), "_law_great", "_law_great", defArgs s__law_great, defBody s__law_great, defScope s__law_great, [], []⟩
abbrev s__law_good : Stmt := top 16
def d__law_good : He.DefD := ⟨("_law_good", none), "_law_good", "_law_good", defArgs s__law_good, defBody s__law_good, defScope s__law_good, [], []⟩
abbrev s__law_try : Stmt := top 17
def d__law_try : He.DefD := ⟨("_law_try", none), "_law_try", "_law_try", defArgs s__law_try, defBody s__law_try, defScope s__law_try, [], []⟩
abbrev s_law : Stmt := top 18
def d_law : He.DefD := ⟨("law", none), "law", "law", defArgs s_law, defBody s_law, defScope s_law, [], []⟩
abbrev s_Ratio___init__ : Stmt := inClass (top 9) 0
def d_Ratio___init__ : He.DefD := ⟨("Ratio", some "__init__"), "__init__", "Ratio.__init__", defArgs s_Ratio___init__, defBody s_Ratio___init__, defScope s_Ratio___init__, [.int (1)], []⟩
abbrev s_Ratio___eq__ : Stmt := inClass (top 9) 1
def d_Ratio___eq__ : He.DefD := ⟨("Ratio", some "__eq__"), "__eq__", "Ratio.__eq__", defArgs s_Ratio___eq__, defBody s_Ratio___eq__, defScope s_Ratio___eq__, [], []⟩
abbrev s_Ratio___add__ : Stmt := inClass (top 9) 2
def d_Ratio___add__ : He.DefD := ⟨("Ratio", some "__add__"), "__add__", "Ratio.__add__", defArgs s_Ratio___add__, defBody s_Ratio___add__, defScope s_Ratio___add__, [], []⟩
abbrev s_Ratio___radd__ : Stmt := inClass (top 9) 3
def d_Ratio___radd__ : He.DefD := ⟨("Ratio", some "__radd__"), "__radd__", "Ratio.__radd__", defArgs s_Ratio___radd__, defBody s_Ratio___radd__, defScope s_Ratio___radd__, [], []⟩
abbrev s_Ratio___sub__ : Stmt := inClass (top 9) 4
def d_Ratio___sub__ : He.DefD := ⟨("Ratio", some "__sub__"), "__sub__", "Ratio.__sub__", defArgs s_Ratio___sub__, defBody s_Ratio___sub__, defScope s_Ratio___sub__, [], []⟩
abbrev s_Ratio___rsub__ : Stmt := inClass (top 9) 5
def d_Ratio___rsub__ : He.DefD := ⟨("Ratio", some "__rsub__"), "__rsub__", "Ratio.__rsub__", defArgs s_Ratio___rsub__, defBody s_Ratio___rsub__, defScope s_Ratio___rsub__, [], []⟩
abbrev s_Ratio___mul__ : Stmt := inClass (top 9) 6
def d_Ratio___mul__ : He.DefD := ⟨("Ratio", some "__mul__"), "__mul__", "Ratio.__mul__", defArgs s_Ratio___mul__, defBody s_Ratio___mul__, defScope s_Ratio___mul__, [], []⟩
abbrev s_Ratio___rmul__ : Stmt := inClass (top 9) 7
def d_Ratio___rmul__ : He.DefD := ⟨("Ratio", some "__rmul__"), "__rmul__", "Ratio.__rmul__", defArgs s_Ratio___rmul__, defBody s_Ratio___rmul__, defScope s_Ratio___rmul__, [], []⟩
abbrev s_Ratio___neg__ : Stmt := inClass (top 9) 8
def d_Ratio___neg__ : He.DefD := ⟨("Ratio", some "__neg__"), "__neg__", "Ratio.__neg__", defArgs s_Ratio___neg__, defBody s_Ratio___neg__, defScope s_Ratio___neg__, [], []⟩
abbrev s_Ratio_text : Stmt := inClass (top 9) 10
def d_Ratio_text : He.DefD := ⟨("Ratio", some "text"), "text", "Ratio.text", defArgs s_Ratio_text, defBody s_Ratio_text, defScope s_Ratio_text, [], []⟩
abbrev s_NoRatio___init__ : Stmt := inClass (top 4) 0
def z_NoRatio : SupD := ⟨"NoRatio", "NoRatio.__init__", defArgs s_NoRatio___init__, defBody s_NoRatio___init__, defScope s_NoRatio___init__⟩
def fa0 : List Fx := [.glo "is_integer", .glo "plain_digits", .glo "_law_state", .glo "_law_draw", .glo "_law_gcd", .glo "_law_is_integer", .glo "_law_great", .glo "_law_good", .glo "_law_try", .glo "law", .glo "SeriesError", .glo "NoRatio", .glo "Ratio", .free "ValueError", .free "staticmethod", .free "abs", .free "range", .free "isinstance", .free "int", .free "NotImplemented"]
def fa1 : List Fx := [.free "bool", .free "str", .free "len", .blt "gcd" "math.gcd", .int "READ_DIGITS" 60, .cls "Ratio", .tyi "Ratio", .self "Ratio", .noat "Ratio" "top", .noat "Ratio" "bottom", .mkr "Ratio", .meth "Ratio" "__init__", .meth "Ratio" "__eq__", .meth "Ratio" "__add__", .meth "Ratio" "__radd__", .meth "Ratio" "__sub__", .meth "Ratio" "__rsub__", .meth "Ratio" "__mul__", .meth "Ratio" "__rmul__", .meth "Ratio" "__neg__"]
def fa2 : List Fx := [.meth "Ratio" "text", .oex "SeriesError", .xf "SeriesError", .xis "SeriesError", .oex "NoRatio", .xf "NoRatio", .xis "NoRatio", .sup "NoRatio" "word", .exm "SeriesError" "NoRatio" false, .exm "NoRatio" "NoRatio" true, .kit (.c "Ratio") (.b "int") false, .kit (.b "NoneType") (.c "Ratio") false, .kit (.b "bool") (.c "Ratio") false, .kit (.b "int") (.c "Ratio") false, .kit (.b "str") (.c "Ratio") false, .kit (.b "tuple") (.c "Ratio") false, .kit (.b "list") (.c "Ratio") false, .kit (.b "dict") (.c "Ratio") false, .kit (.c "Ratio") (.c "Ratio") true, .kit (.c "Ratio") (.b "bool") false]
def fa3 : List Fx := [.kit (.c "Ratio") (.b "str") false, .kit (.c "SeriesError") (.c "SeriesError") true, .kit (.c "NoRatio") (.c "SeriesError") true, .kit (.c "Ratio") (.b "ValueError") false, .kit (.c "SeriesError") (.b "ValueError") true, .kit (.c "NoRatio") (.b "ValueError") true]
def fa : List Fx := fa0 ++ fa1 ++ fa2 ++ fa3
def fn0 : List He.DefD := [d_is_integer, d_plain_digits, d__law_state, d__law_draw, d__law_gcd, d__law_is_integer, d__law_great, d__law_good, d__law_try, d_law, d_Ratio___init__, d_Ratio___eq__, d_Ratio___add__, d_Ratio___radd__, d_Ratio___sub__, d_Ratio___rsub__, d_Ratio___mul__, d_Ratio___rmul__, d_Ratio___neg__, d_Ratio_text]
def fn : List He.DefD := fn0
def fz0 : List SupD := [z_NoRatio]
def fz : List SupD := fz0
def loose0 : List Str := ["gcd", "_wall", "SeriesError", "NoRatio", "READ_DIGITS", "is_integer", "plain_digits", "Ratio", "_law_state", "_law_draw", "_law_gcd", "_law_is_integer", "_law_great", "_law_good", "_law_try"]
def loose : List Str := loose0
class Sy (K : PySem.W.Frag) : Prop where
  says : SaysM fa fn fz K
abbrev PP : Program := PySem.Challenge.pw_seriessquares_k01_ratio_made
/-- a def of this text keeps its promise -/
abbrev Fn (w : World) (K : PySem.W.Frag) (mg : Str → Option Value) (base : Heap) (k : Nat) (f : Addr) (sp : Sp) : Prop := FnR PP w K mg base (L2.CX PP w) k f sp
theorem g_is_integer {K : PySem.W.Frag} [Sy K] {mg : Str → Option Value} (M : Mg K mg) : mg "is_integer" = some (.ref (He.ga K "is_integer")) := glo_of M ((Sy.says.fact (K := K) 0 (f := .glo "is_integer")))
theorem g_plain_digits {K : PySem.W.Frag} [Sy K] {mg : Str → Option Value} (M : Mg K mg) : mg "plain_digits" = some (.ref (He.ga K "plain_digits")) := glo_of M ((Sy.says.fact (K := K) 1 (f := .glo "plain_digits")))
theorem g__law_state {K : PySem.W.Frag} [Sy K] {mg : Str → Option Value} (M : Mg K mg) : mg "_law_state" = some (.ref (He.ga K "_law_state")) := glo_of M ((Sy.says.fact (K := K) 2 (f := .glo "_law_state")))
theorem g__law_draw {K : PySem.W.Frag} [Sy K] {mg : Str → Option Value} (M : Mg K mg) : mg "_law_draw" = some (.ref (He.ga K "_law_draw")) := glo_of M ((Sy.says.fact (K := K) 3 (f := .glo "_law_draw")))
theorem g__law_gcd {K : PySem.W.Frag} [Sy K] {mg : Str → Option Value} (M : Mg K mg) : mg "_law_gcd" = some (.ref (He.ga K "_law_gcd")) := glo_of M ((Sy.says.fact (K := K) 4 (f := .glo "_law_gcd")))
theorem g__law_is_integer {K : PySem.W.Frag} [Sy K] {mg : Str → Option Value} (M : Mg K mg) : mg "_law_is_integer" = some (.ref (He.ga K "_law_is_integer")) := glo_of M ((Sy.says.fact (K := K) 5 (f := .glo "_law_is_integer")))
theorem g__law_great {K : PySem.W.Frag} [Sy K] {mg : Str → Option Value} (M : Mg K mg) : mg "_law_great" = some (.ref (He.ga K "_law_great")) := glo_of M ((Sy.says.fact (K := K) 6 (f := .glo "_law_great")))
theorem g__law_good {K : PySem.W.Frag} [Sy K] {mg : Str → Option Value} (M : Mg K mg) : mg "_law_good" = some (.ref (He.ga K "_law_good")) := glo_of M ((Sy.says.fact (K := K) 7 (f := .glo "_law_good")))
theorem g__law_try {K : PySem.W.Frag} [Sy K] {mg : Str → Option Value} (M : Mg K mg) : mg "_law_try" = some (.ref (He.ga K "_law_try")) := glo_of M ((Sy.says.fact (K := K) 8 (f := .glo "_law_try")))
theorem g_law {K : PySem.W.Frag} [Sy K] {mg : Str → Option Value} (M : Mg K mg) : mg "law" = some (.ref (He.ga K "law")) := glo_of M ((Sy.says.fact (K := K) 9 (f := .glo "law")))
theorem g_SeriesError {K : PySem.W.Frag} [Sy K] {mg : Str → Option Value} (M : Mg K mg) : mg "SeriesError" = some (.ref (He.ga K "SeriesError")) := glo_of M ((Sy.says.fact (K := K) 10 (f := .glo "SeriesError")))
theorem g_NoRatio {K : PySem.W.Frag} [Sy K] {mg : Str → Option Value} (M : Mg K mg) : mg "NoRatio" = some (.ref (He.ga K "NoRatio")) := glo_of M ((Sy.says.fact (K := K) 11 (f := .glo "NoRatio")))
theorem g_Ratio {K : PySem.W.Frag} [Sy K] {mg : Str → Option Value} (M : Mg K mg) : mg "Ratio" = some (.ref (He.ga K "Ratio")) := glo_of M ((Sy.says.fact (K := K) 12 (f := .glo "Ratio")))
theorem f_ValueError {K : PySem.W.Frag} [Sy K] {mg : Str → Option Value} (M : Mg K mg) : mg "ValueError" = none := free_of M ((Sy.says.fact (K := K) 13 (f := .free "ValueError")))
theorem f_staticmethod {K : PySem.W.Frag} [Sy K] {mg : Str → Option Value} (M : Mg K mg) : mg "staticmethod" = none := free_of M ((Sy.says.fact (K := K) 14 (f := .free "staticmethod")))
theorem f_abs {K : PySem.W.Frag} [Sy K] {mg : Str → Option Value} (M : Mg K mg) : mg "abs" = none := free_of M ((Sy.says.fact (K := K) 15 (f := .free "abs")))
theorem f_range {K : PySem.W.Frag} [Sy K] {mg : Str → Option Value} (M : Mg K mg) : mg "range" = none := free_of M ((Sy.says.fact (K := K) 16 (f := .free "range")))
theorem f_isinstance {K : PySem.W.Frag} [Sy K] {mg : Str → Option Value} (M : Mg K mg) : mg "isinstance" = none := free_of M ((Sy.says.fact (K := K) 17 (f := .free "isinstance")))
theorem f_int {K : PySem.W.Frag} [Sy K] {mg : Str → Option Value} (M : Mg K mg) : mg "int" = none := free_of M ((Sy.says.fact (K := K) 18 (f := .free "int")))
theorem f_NotImplemented {K : PySem.W.Frag} [Sy K] {mg : Str → Option Value} (M : Mg K mg) : mg "NotImplemented" = none := free_of M ((Sy.says.fact (K := K) 19 (f := .free "NotImplemented")))
theorem f_bool {K : PySem.W.Frag} [Sy K] {mg : Str → Option Value} (M : Mg K mg) : mg "bool" = none := free_of M ((Sy.says.fact (K := K) 20 (f := .free "bool")))
theorem f_str {K : PySem.W.Frag} [Sy K] {mg : Str → Option Value} (M : Mg K mg) : mg "str" = none := free_of M ((Sy.says.fact (K := K) 21 (f := .free "str")))
theorem f_len {K : PySem.W.Frag} [Sy K] {mg : Str → Option Value} (M : Mg K mg) : mg "len" = none := free_of M ((Sy.says.fact (K := K) 22 (f := .free "len")))
theorem g_gcd {K : PySem.W.Frag} [Sy K] {mg : Str → Option Value} (M : Mg K mg) : mg "gcd" = some (.builtin "math.gcd") := blt_of M ((Sy.says.fact (K := K) 23 (f := .blt "gcd" "math.gcd")))
theorem g_import_math_gcd {K : PySem.W.Frag} [Sy K] {mg : Str → Option Value} (M : Mg K mg) : mg "gcd" = some (.builtin "math.gcd") := blt_of M ((Sy.says.fact (K := K) 23 (f := .blt "gcd" "math.gcd")))
theorem g_READ_DIGITS {K : PySem.W.Frag} [Sy K] {mg : Str → Option Value} (M : Mg K mg) : ∃ t, mg "READ_DIGITS" = some (.int 60 t) := int_of M ((Sy.says.fact (K := K) 24 (f := .int "READ_DIGITS" 60)))
instance i_Ratio {K : PySem.W.Frag} [Sy K] : IsCls K "Ratio" := ⟨cls_of ((Sy.says.fact (K := K) 25 (f := .cls "Ratio"))), (Sy.says.fact (K := K) 26 (f := .tyi "Ratio"))⟩
theorem self_Ratio {K : PySem.W.Frag} [Sy K] : PySem.W.selfFirst K (He.ga K "Ratio") = true := (Sy.says.fact (K := K) 27 (f := .self "Ratio"))
instance i_Ratio_top {K : PySem.W.Frag} [Sy K] : HasFld K "Ratio" "top" := ⟨He.noat_ok ((Sy.says.fact (K := K) 28 (f := .noat "Ratio" "top")))⟩
instance i_Ratio_bottom {K : PySem.W.Frag} [Sy K] : HasFld K "Ratio" "bottom" := ⟨He.noat_ok ((Sy.says.fact (K := K) 29 (f := .noat "Ratio" "bottom")))⟩
theorem mk_Ratio {K : PySem.W.Frag} [Sy K] : Mk K (He.ga K "Ratio") (He.ma K (He.ga K "Ratio") "__init__") := mkr_of ((Sy.says.fact (K := K) 30 (f := .mkr "Ratio")))
theorem m_Ratio___init__ {K : PySem.W.Frag} [Sy K] : Meth K (He.ga K "Ratio") "__init__" (He.ma K (He.ga K "Ratio") "__init__") := meth_of ((Sy.says.fact (K := K) 31 (f := .meth "Ratio" "__init__")))
theorem m_Ratio___eq__ {K : PySem.W.Frag} [Sy K] : Meth K (He.ga K "Ratio") "__eq__" (He.ma K (He.ga K "Ratio") "__eq__") := meth_of ((Sy.says.fact (K := K) 32 (f := .meth "Ratio" "__eq__")))
theorem m_Ratio___add__ {K : PySem.W.Frag} [Sy K] : Meth K (He.ga K "Ratio") "__add__" (He.ma K (He.ga K "Ratio") "__add__") := meth_of ((Sy.says.fact (K := K) 33 (f := .meth "Ratio" "__add__")))
theorem m_Ratio___radd__ {K : PySem.W.Frag} [Sy K] : Meth K (He.ga K "Ratio") "__radd__" (He.ma K (He.ga K "Ratio") "__radd__") := meth_of ((Sy.says.fact (K := K) 34 (f := .meth "Ratio" "__radd__")))
theorem m_Ratio___sub__ {K : PySem.W.Frag} [Sy K] : Meth K (He.ga K "Ratio") "__sub__" (He.ma K (He.ga K "Ratio") "__sub__") := meth_of ((Sy.says.fact (K := K) 35 (f := .meth "Ratio" "__sub__")))
theorem m_Ratio___rsub__ {K : PySem.W.Frag} [Sy K] : Meth K (He.ga K "Ratio") "__rsub__" (He.ma K (He.ga K "Ratio") "__rsub__") := meth_of ((Sy.says.fact (K := K) 36 (f := .meth "Ratio" "__rsub__")))
theorem m_Ratio___mul__ {K : PySem.W.Frag} [Sy K] : Meth K (He.ga K "Ratio") "__mul__" (He.ma K (He.ga K "Ratio") "__mul__") := meth_of ((Sy.says.fact (K := K) 37 (f := .meth "Ratio" "__mul__")))
theorem m_Ratio___rmul__ {K : PySem.W.Frag} [Sy K] : Meth K (He.ga K "Ratio") "__rmul__" (He.ma K (He.ga K "Ratio") "__rmul__") := meth_of ((Sy.says.fact (K := K) 38 (f := .meth "Ratio" "__rmul__")))
theorem m_Ratio___neg__ {K : PySem.W.Frag} [Sy K] : Meth K (He.ga K "Ratio") "__neg__" (He.ma K (He.ga K "Ratio") "__neg__") := meth_of ((Sy.says.fact (K := K) 39 (f := .meth "Ratio" "__neg__")))
theorem m_Ratio_text {K : PySem.W.Frag} [Sy K] : Meth K (He.ga K "Ratio") "text" (He.ma K (He.ga K "Ratio") "text") := meth_of ((Sy.says.fact (K := K) 40 (f := .meth "Ratio" "text")))
theorem oex_SeriesError {K : PySem.W.Frag} [Sy K] : OexC K (He.ga K "SeriesError") := oex_ok ((Sy.says.fact (K := K) 41 (f := .oex "SeriesError")))
theorem xf_SeriesError {K : PySem.W.Frag} [Sy K] : XfC K (He.ga K "SeriesError") := xfB_ok ((Sy.says.fact (K := K) 42 (f := .xf "SeriesError")))
theorem xis_SeriesError {K : PySem.W.Frag} [Sy K] : (Fx.xis "SeriesError").ok K = true := (Sy.says.fact (K := K) 43 (f := .xis "SeriesError"))
instance {K : PySem.W.Frag} [Sy K] : IsExc K "SeriesError" := ⟨excC_of xf_SeriesError xis_SeriesError⟩
theorem oex_NoRatio {K : PySem.W.Frag} [Sy K] : OexC K (He.ga K "NoRatio") := oex_ok ((Sy.says.fact (K := K) 44 (f := .oex "NoRatio")))
theorem xf_NoRatio {K : PySem.W.Frag} [Sy K] : XfC K (He.ga K "NoRatio") := xfB_ok ((Sy.says.fact (K := K) 45 (f := .xf "NoRatio")))
theorem xis_NoRatio {K : PySem.W.Frag} [Sy K] : (Fx.xis "NoRatio").ok K = true := (Sy.says.fact (K := K) 46 (f := .xis "NoRatio"))
instance {K : PySem.W.Frag} [Sy K] : IsExc K "NoRatio" := ⟨excC_of xf_NoRatio xis_NoRatio⟩
theorem sup_NoRatio {K : PySem.W.Frag} [Sy K] : SupC PySem.Challenge.pw_seriessquares_k01_ratio_made K (He.ga K "NoRatio") (He.ma K (He.ga K "NoRatio") "__init__") "word" ∧ PySem.W.findIn K (.ref (He.ga K "NoRatio")) "__init__" = some (some (.ref (He.ma K (He.ga K "NoRatio") "__init__"))) ∧ PySem.W.typeIn K (.ref (He.ma K (He.ga K "NoRatio") "__init__")) = some (.type "function") :=
  sup_ok (P := PySem.Challenge.pw_seriessquares_k01_ratio_made) (x := "NoRatio") (fld := "word") (d := z_NoRatio) ((Sy.says.fact (K := K) 44 (f := .oex "NoRatio"))) ((Sy.says.fact (K := K) 47 (f := .sup "NoRatio" "word"))) (Sy.says.sup_ 0) (by decide +kernel) rfl (by decide +kernel)
    ⟨_, _, _, _, _, _, _, _, _, _, _, _, rfl, rfl, by decide +kernel, by decide +kernel, by decide +kernel, by decide +kernel, by decide +kernel, rfl, rfl, rfl, by decide +kernel, fun _ _ _ _ _ _ _ _ _ => rfl, _, fun _ => rfl⟩
theorem exm_SeriesError_NoRatio {K : PySem.W.Frag} [Sy K] : PySem.W.exmOne K (.ref (He.ga K "SeriesError")) (.ref (He.ga K "NoRatio")) = some false := of_decide_eq_true ((Sy.says.fact (K := K) 48 (f := .exm "SeriesError" "NoRatio" false)))
theorem exm_NoRatio_NoRatio {K : PySem.W.Frag} [Sy K] : PySem.W.exmOne K (.ref (He.ga K "NoRatio")) (.ref (He.ga K "NoRatio")) = some true := of_decide_eq_true ((Sy.says.fact (K := K) 49 (f := .exm "NoRatio" "NoRatio" true)))
instance {K : PySem.W.Frag} : Kit K (.b "NoneType") (.b "int") false := ⟨kit_ty (by decide +kernel)⟩
instance {K : PySem.W.Frag} : Kit K (.b "bool") (.b "int") true := ⟨kit_ty (by decide +kernel)⟩
instance {K : PySem.W.Frag} : Kit K (.b "int") (.b "int") true := ⟨kit_ty (by decide +kernel)⟩
instance {K : PySem.W.Frag} : Kit K (.b "str") (.b "int") false := ⟨kit_ty (by decide +kernel)⟩
instance {K : PySem.W.Frag} : Kit K (.b "tuple") (.b "int") false := ⟨kit_ty (by decide +kernel)⟩
instance {K : PySem.W.Frag} : Kit K (.b "list") (.b "int") false := ⟨kit_ty (by decide +kernel)⟩
instance {K : PySem.W.Frag} : Kit K (.b "dict") (.b "int") false := ⟨kit_ty (by decide +kernel)⟩
instance {K : PySem.W.Frag} [Sy K] : Kit K (.c "Ratio") (.b "int") false := kit_of' ((Sy.says.fact (K := K) 50 (f := .kit (.c "Ratio") (.b "int") false)))
instance {K : PySem.W.Frag} [Sy K] : Kit K (.b "NoneType") (.c "Ratio") false := kit_of' ((Sy.says.fact (K := K) 51 (f := .kit (.b "NoneType") (.c "Ratio") false)))
instance {K : PySem.W.Frag} [Sy K] : Kit K (.b "bool") (.c "Ratio") false := kit_of' ((Sy.says.fact (K := K) 52 (f := .kit (.b "bool") (.c "Ratio") false)))
instance {K : PySem.W.Frag} [Sy K] : Kit K (.b "int") (.c "Ratio") false := kit_of' ((Sy.says.fact (K := K) 53 (f := .kit (.b "int") (.c "Ratio") false)))
instance {K : PySem.W.Frag} [Sy K] : Kit K (.b "str") (.c "Ratio") false := kit_of' ((Sy.says.fact (K := K) 54 (f := .kit (.b "str") (.c "Ratio") false)))
instance {K : PySem.W.Frag} [Sy K] : Kit K (.b "tuple") (.c "Ratio") false := kit_of' ((Sy.says.fact (K := K) 55 (f := .kit (.b "tuple") (.c "Ratio") false)))
instance {K : PySem.W.Frag} [Sy K] : Kit K (.b "list") (.c "Ratio") false := kit_of' ((Sy.says.fact (K := K) 56 (f := .kit (.b "list") (.c "Ratio") false)))
instance {K : PySem.W.Frag} [Sy K] : Kit K (.b "dict") (.c "Ratio") false := kit_of' ((Sy.says.fact (K := K) 57 (f := .kit (.b "dict") (.c "Ratio") false)))
instance {K : PySem.W.Frag} [Sy K] : Kit K (.c "Ratio") (.c "Ratio") true := kit_of' ((Sy.says.fact (K := K) 58 (f := .kit (.c "Ratio") (.c "Ratio") true)))
instance {K : PySem.W.Frag} : Kit K (.b "NoneType") (.b "bool") false := ⟨kit_ty (by decide +kernel)⟩
instance {K : PySem.W.Frag} : Kit K (.b "bool") (.b "bool") true := ⟨kit_ty (by decide +kernel)⟩
instance {K : PySem.W.Frag} : Kit K (.b "int") (.b "bool") false := ⟨kit_ty (by decide +kernel)⟩
instance {K : PySem.W.Frag} : Kit K (.b "str") (.b "bool") false := ⟨kit_ty (by decide +kernel)⟩
instance {K : PySem.W.Frag} : Kit K (.b "tuple") (.b "bool") false := ⟨kit_ty (by decide +kernel)⟩
instance {K : PySem.W.Frag} : Kit K (.b "list") (.b "bool") false := ⟨kit_ty (by decide +kernel)⟩
instance {K : PySem.W.Frag} : Kit K (.b "dict") (.b "bool") false := ⟨kit_ty (by decide +kernel)⟩
instance {K : PySem.W.Frag} [Sy K] : Kit K (.c "Ratio") (.b "bool") false := kit_of' ((Sy.says.fact (K := K) 59 (f := .kit (.c "Ratio") (.b "bool") false)))
instance {K : PySem.W.Frag} : Kit K (.b "NoneType") (.b "str") false := ⟨kit_ty (by decide +kernel)⟩
instance {K : PySem.W.Frag} : Kit K (.b "bool") (.b "str") false := ⟨kit_ty (by decide +kernel)⟩
instance {K : PySem.W.Frag} : Kit K (.b "int") (.b "str") false := ⟨kit_ty (by decide +kernel)⟩
instance {K : PySem.W.Frag} : Kit K (.b "str") (.b "str") true := ⟨kit_ty (by decide +kernel)⟩
instance {K : PySem.W.Frag} : Kit K (.b "tuple") (.b "str") false := ⟨kit_ty (by decide +kernel)⟩
instance {K : PySem.W.Frag} : Kit K (.b "list") (.b "str") false := ⟨kit_ty (by decide +kernel)⟩
instance {K : PySem.W.Frag} : Kit K (.b "dict") (.b "str") false := ⟨kit_ty (by decide +kernel)⟩
instance {K : PySem.W.Frag} [Sy K] : Kit K (.c "Ratio") (.b "str") false := kit_of' ((Sy.says.fact (K := K) 60 (f := .kit (.c "Ratio") (.b "str") false)))
instance {K : PySem.W.Frag} [Sy K] : Kit K (.c "SeriesError") (.c "SeriesError") true := kit_of' ((Sy.says.fact (K := K) 61 (f := .kit (.c "SeriesError") (.c "SeriesError") true)))
instance {K : PySem.W.Frag} [Sy K] : Kit K (.c "NoRatio") (.c "SeriesError") true := kit_of' ((Sy.says.fact (K := K) 62 (f := .kit (.c "NoRatio") (.c "SeriesError") true)))
instance {K : PySem.W.Frag} : Kit K (.b "NoneType") (.b "ValueError") false := ⟨kit_ty (by decide +kernel)⟩
instance {K : PySem.W.Frag} : Kit K (.b "bool") (.b "ValueError") false := ⟨kit_ty (by decide +kernel)⟩
instance {K : PySem.W.Frag} : Kit K (.b "int") (.b "ValueError") false := ⟨kit_ty (by decide +kernel)⟩
instance {K : PySem.W.Frag} : Kit K (.b "str") (.b "ValueError") false := ⟨kit_ty (by decide +kernel)⟩
instance {K : PySem.W.Frag} : Kit K (.b "tuple") (.b "ValueError") false := ⟨kit_ty (by decide +kernel)⟩
instance {K : PySem.W.Frag} : Kit K (.b "list") (.b "ValueError") false := ⟨kit_ty (by decide +kernel)⟩
instance {K : PySem.W.Frag} : Kit K (.b "dict") (.b "ValueError") false := ⟨kit_ty (by decide +kernel)⟩
instance {K : PySem.W.Frag} [Sy K] : Kit K (.c "Ratio") (.b "ValueError") false := kit_of' ((Sy.says.fact (K := K) 63 (f := .kit (.c "Ratio") (.b "ValueError") false)))
instance {K : PySem.W.Frag} [Sy K] : Kit K (.c "SeriesError") (.b "ValueError") true := kit_of' ((Sy.says.fact (K := K) 64 (f := .kit (.c "SeriesError") (.b "ValueError") true)))
instance {K : PySem.W.Frag} [Sy K] : Kit K (.c "NoRatio") (.b "ValueError") true := kit_of' ((Sy.says.fact (K := K) 65 (f := .kit (.c "NoRatio") (.b "ValueError") true)))
theorem def_is_integer {K : PySem.W.Frag} [Sy K] : ∃ fd, FunD K d_is_integer.name d_is_integer.qual (defArgs s_is_integer) (defBody s_is_integer) (defScope s_is_integer) (d_is_integer.dvs K) [] (He.fAd K d_is_integer.at_) fd := Sy.says.def_ 0
theorem kp_is_integer {K : PySem.W.Frag} [Sy K] : PySem.W.keepIn K (.ref (He.fAd K d_is_integer.at_)) = true := let ⟨_, F⟩ := def_is_integer (K := K); F.kp
theorem def_plain_digits {K : PySem.W.Frag} [Sy K] : ∃ fd, FunD K d_plain_digits.name d_plain_digits.qual (defArgs s_plain_digits) (defBody s_plain_digits) (defScope s_plain_digits) (d_plain_digits.dvs K) [] (He.fAd K d_plain_digits.at_) fd := Sy.says.def_ 1
theorem kp_plain_digits {K : PySem.W.Frag} [Sy K] : PySem.W.keepIn K (.ref (He.fAd K d_plain_digits.at_)) = true := let ⟨_, F⟩ := def_plain_digits (K := K); F.kp
theorem def__law_state {K : PySem.W.Frag} [Sy K] : ∃ fd, FunD K d__law_state.name d__law_state.qual (defArgs s__law_state) (defBody s__law_state) (defScope s__law_state) (d__law_state.dvs K) [] (He.fAd K d__law_state.at_) fd := Sy.says.def_ 2
theorem kp__law_state {K : PySem.W.Frag} [Sy K] : PySem.W.keepIn K (.ref (He.fAd K d__law_state.at_)) = true := let ⟨_, F⟩ := def__law_state (K := K); F.kp
theorem def__law_draw {K : PySem.W.Frag} [Sy K] : ∃ fd, FunD K d__law_draw.name d__law_draw.qual (defArgs s__law_draw) (defBody s__law_draw) (defScope s__law_draw) (d__law_draw.dvs K) [] (He.fAd K d__law_draw.at_) fd := Sy.says.def_ 3
theorem kp__law_draw {K : PySem.W.Frag} [Sy K] : PySem.W.keepIn K (.ref (He.fAd K d__law_draw.at_)) = true := let ⟨_, F⟩ := def__law_draw (K := K); F.kp
theorem def__law_gcd {K : PySem.W.Frag} [Sy K] : ∃ fd, FunD K d__law_gcd.name d__law_gcd.qual (defArgs s__law_gcd) (defBody s__law_gcd) (defScope s__law_gcd) (d__law_gcd.dvs K) [] (He.fAd K d__law_gcd.at_) fd := Sy.says.def_ 4
theorem kp__law_gcd {K : PySem.W.Frag} [Sy K] : PySem.W.keepIn K (.ref (He.fAd K d__law_gcd.at_)) = true := let ⟨_, F⟩ := def__law_gcd (K := K); F.kp
theorem def__law_is_integer {K : PySem.W.Frag} [Sy K] : ∃ fd, FunD K d__law_is_integer.name d__law_is_integer.qual (defArgs s__law_is_integer) (defBody s__law_is_integer) (defScope s__law_is_integer) (d__law_is_integer.dvs K) [] (He.fAd K d__law_is_integer.at_) fd := Sy.says.def_ 5
theorem kp__law_is_integer {K : PySem.W.Frag} [Sy K] : PySem.W.keepIn K (.ref (He.fAd K d__law_is_integer.at_)) = true := let ⟨_, F⟩ := def__law_is_integer (K := K); F.kp
theorem def__law_great {K : PySem.W.Frag} [Sy K] : ∃ fd, FunD K d__law_great.name d__law_great.qual (defArgs s__law_great) (defBody s__law_great) (defScope s__law_great) (d__law_great.dvs K) [] (He.fAd K d__law_great.at_) fd := Sy.says.def_ 6
theorem kp__law_great {K : PySem.W.Frag} [Sy K] : PySem.W.keepIn K (.ref (He.fAd K d__law_great.at_)) = true := let ⟨_, F⟩ := def__law_great (K := K); F.kp
theorem def__law_good {K : PySem.W.Frag} [Sy K] : ∃ fd, FunD K d__law_good.name d__law_good.qual (defArgs s__law_good) (defBody s__law_good) (defScope s__law_good) (d__law_good.dvs K) [] (He.fAd K d__law_good.at_) fd := Sy.says.def_ 7
theorem kp__law_good {K : PySem.W.Frag} [Sy K] : PySem.W.keepIn K (.ref (He.fAd K d__law_good.at_)) = true := let ⟨_, F⟩ := def__law_good (K := K); F.kp
theorem def__law_try {K : PySem.W.Frag} [Sy K] : ∃ fd, FunD K d__law_try.name d__law_try.qual (defArgs s__law_try) (defBody s__law_try) (defScope s__law_try) (d__law_try.dvs K) [] (He.fAd K d__law_try.at_) fd := Sy.says.def_ 8
theorem kp__law_try {K : PySem.W.Frag} [Sy K] : PySem.W.keepIn K (.ref (He.fAd K d__law_try.at_)) = true := let ⟨_, F⟩ := def__law_try (K := K); F.kp
theorem def_law {K : PySem.W.Frag} [Sy K] : ∃ fd, FunD K d_law.name d_law.qual (defArgs s_law) (defBody s_law) (defScope s_law) (d_law.dvs K) [] (He.fAd K d_law.at_) fd := Sy.says.def_ 9
theorem kp_law {K : PySem.W.Frag} [Sy K] : PySem.W.keepIn K (.ref (He.fAd K d_law.at_)) = true := let ⟨_, F⟩ := def_law (K := K); F.kp
theorem def_Ratio___init__ {K : PySem.W.Frag} [Sy K] : ∃ fd, FunD K d_Ratio___init__.name d_Ratio___init__.qual (defArgs s_Ratio___init__) (defBody s_Ratio___init__) (defScope s_Ratio___init__) (d_Ratio___init__.dvs K) [] (He.fAd K d_Ratio___init__.at_) fd := Sy.says.def_ 10
theorem kp_Ratio___init__ {K : PySem.W.Frag} [Sy K] : PySem.W.keepIn K (.ref (He.fAd K d_Ratio___init__.at_)) = true := let ⟨_, F⟩ := def_Ratio___init__ (K := K); F.kp
theorem def_Ratio___eq__ {K : PySem.W.Frag} [Sy K] : ∃ fd, FunD K d_Ratio___eq__.name d_Ratio___eq__.qual (defArgs s_Ratio___eq__) (defBody s_Ratio___eq__) (defScope s_Ratio___eq__) (d_Ratio___eq__.dvs K) [] (He.fAd K d_Ratio___eq__.at_) fd := Sy.says.def_ 11
theorem kp_Ratio___eq__ {K : PySem.W.Frag} [Sy K] : PySem.W.keepIn K (.ref (He.fAd K d_Ratio___eq__.at_)) = true := let ⟨_, F⟩ := def_Ratio___eq__ (K := K); F.kp
theorem def_Ratio___add__ {K : PySem.W.Frag} [Sy K] : ∃ fd, FunD K d_Ratio___add__.name d_Ratio___add__.qual (defArgs s_Ratio___add__) (defBody s_Ratio___add__) (defScope s_Ratio___add__) (d_Ratio___add__.dvs K) [] (He.fAd K d_Ratio___add__.at_) fd := Sy.says.def_ 12
theorem kp_Ratio___add__ {K : PySem.W.Frag} [Sy K] : PySem.W.keepIn K (.ref (He.fAd K d_Ratio___add__.at_)) = true := let ⟨_, F⟩ := def_Ratio___add__ (K := K); F.kp
theorem def_Ratio___radd__ {K : PySem.W.Frag} [Sy K] : ∃ fd, FunD K d_Ratio___radd__.name d_Ratio___radd__.qual (defArgs s_Ratio___radd__) (defBody s_Ratio___radd__) (defScope s_Ratio___radd__) (d_Ratio___radd__.dvs K) [] (He.fAd K d_Ratio___radd__.at_) fd := Sy.says.def_ 13
theorem kp_Ratio___radd__ {K : PySem.W.Frag} [Sy K] : PySem.W.keepIn K (.ref (He.fAd K d_Ratio___radd__.at_)) = true := let ⟨_, F⟩ := def_Ratio___radd__ (K := K); F.kp
theorem def_Ratio___sub__ {K : PySem.W.Frag} [Sy K] : ∃ fd, FunD K d_Ratio___sub__.name d_Ratio___sub__.qual (defArgs s_Ratio___sub__) (defBody s_Ratio___sub__) (defScope s_Ratio___sub__) (d_Ratio___sub__.dvs K) [] (He.fAd K d_Ratio___sub__.at_) fd := Sy.says.def_ 14
theorem kp_Ratio___sub__ {K : PySem.W.Frag} [Sy K] : PySem.W.keepIn K (.ref (He.fAd K d_Ratio___sub__.at_)) = true := let ⟨_, F⟩ := def_Ratio___sub__ (K := K); F.kp
theorem def_Ratio___rsub__ {K : PySem.W.Frag} [Sy K] : ∃ fd, FunD K d_Ratio___rsub__.name d_Ratio___rsub__.qual (defArgs s_Ratio___rsub__) (defBody s_Ratio___rsub__) (defScope s_Ratio___rsub__) (d_Ratio___rsub__.dvs K) [] (He.fAd K d_Ratio___rsub__.at_) fd := Sy.says.def_ 15
theorem kp_Ratio___rsub__ {K : PySem.W.Frag} [Sy K] : PySem.W.keepIn K (.ref (He.fAd K d_Ratio___rsub__.at_)) = true := let ⟨_, F⟩ := def_Ratio___rsub__ (K := K); F.kp
theorem def_Ratio___mul__ {K : PySem.W.Frag} [Sy K] : ∃ fd, FunD K d_Ratio___mul__.name d_Ratio___mul__.qual (defArgs s_Ratio___mul__) (defBody s_Ratio___mul__) (defScope s_Ratio___mul__) (d_Ratio___mul__.dvs K) [] (He.fAd K d_Ratio___mul__.at_) fd := Sy.says.def_ 16
theorem kp_Ratio___mul__ {K : PySem.W.Frag} [Sy K] : PySem.W.keepIn K (.ref (He.fAd K d_Ratio___mul__.at_)) = true := let ⟨_, F⟩ := def_Ratio___mul__ (K := K); F.kp
theorem def_Ratio___rmul__ {K : PySem.W.Frag} [Sy K] : ∃ fd, FunD K d_Ratio___rmul__.name d_Ratio___rmul__.qual (defArgs s_Ratio___rmul__) (defBody s_Ratio___rmul__) (defScope s_Ratio___rmul__) (d_Ratio___rmul__.dvs K) [] (He.fAd K d_Ratio___rmul__.at_) fd := Sy.says.def_ 17
theorem kp_Ratio___rmul__ {K : PySem.W.Frag} [Sy K] : PySem.W.keepIn K (.ref (He.fAd K d_Ratio___rmul__.at_)) = true := let ⟨_, F⟩ := def_Ratio___rmul__ (K := K); F.kp
theorem def_Ratio___neg__ {K : PySem.W.Frag} [Sy K] : ∃ fd, FunD K d_Ratio___neg__.name d_Ratio___neg__.qual (defArgs s_Ratio___neg__) (defBody s_Ratio___neg__) (defScope s_Ratio___neg__) (d_Ratio___neg__.dvs K) [] (He.fAd K d_Ratio___neg__.at_) fd := Sy.says.def_ 18
theorem kp_Ratio___neg__ {K : PySem.W.Frag} [Sy K] : PySem.W.keepIn K (.ref (He.fAd K d_Ratio___neg__.at_)) = true := let ⟨_, F⟩ := def_Ratio___neg__ (K := K); F.kp
theorem def_Ratio_text {K : PySem.W.Frag} [Sy K] : ∃ fd, FunD K d_Ratio_text.name d_Ratio_text.qual (defArgs s_Ratio_text) (defBody s_Ratio_text) (defScope s_Ratio_text) (d_Ratio_text.dvs K) [] (He.fAd K d_Ratio_text.at_) fd := Sy.says.def_ 19
theorem kp_Ratio_text {K : PySem.W.Frag} [Sy K] : PySem.W.keepIn K (.ref (He.fAd K d_Ratio_text.at_)) = true := let ⟨_, F⟩ := def_Ratio_text (K := K); F.kp
end Sx

section
local macro_rules | `(tactic| walk_at "sc") => `(tactic| first | exact Sx.cpow_c (by decide) (by decide) (by decide) | exact Sx.cmul_r (by decide) (by decide) | exact Sx.cmul_l (by decide) (by decide) | exact Sx.cdiv_p (by decide) (by decide) | exact Sx.cdiv_p (by omega) (by omega) | exact Sx.cmul_l (by omega) (by omega) | exact Sx.cmul_r (by omega) (by omega) | (show (0 : Int) < _; omega) | (show _ ≠ (0 : Int); omega))
local macro_rules | `(tactic| walk_at "sm") => `(tactic| first | assumption | exact Same.refl _ | (refine Sx.Same.updR ?_ (by assumption); walk_at "sm") | (refine Same.trans (H1 := ?_) ?_ (by assumption); walk_at "sm"))
local macro_rules | `(tactic| walk_at "is") => `(tactic| first | assumption | exact Sx.Is.int _ | exact Sx.Is.bl _ | exact Sx.Is.str _ | exact Sx.Is.non | (refine Sx.Is.mono ?_ (by assumption); walk_at "sm"))
local macro_rules | `(tactic| walk_at "isl") => `(tactic| first | exact Sx.IsL.nil | (refine Sx.IsL.cons (by walk_at "is") (by walk_at "isl")))
local macro_rules | `(tactic| walk_at "name") => `(tactic| first | with_reducible refine Sx.n_0 ?_ | with_reducible refine Sx.n_1 ?_ | with_reducible refine Sx.n_2 ?_ | with_reducible refine Sx.n_3 ?_ | with_reducible refine Sx.n_4 ?_ | with_reducible refine Sx.n_5 ?_ | with_reducible refine Sx.n_6 ?_ | with_reducible refine Sx.n_7 ?_ | with_reducible refine Sx.n_8 ?_ | with_reducible refine Sx.n_9 ?_ | with_reducible refine Sx.n_10 ?_ | with_reducible refine Sx.n_11 ?_ | with_reducible refine Sx.n_12 ?_)
local macro_rules | `(tactic| walk_at "g1") => `(tactic| first
  | with_reducible refine Sx.r_var rfl ?_ | with_reducible refine Sx.r_c ?_ | with_reducible refine Sx.r_op ?_ | with_reducible refine Sx.r_I0 ?_
  | with_reducible refine Sx.r_seq ?_ | with_reducible refine Sx.r_asg ?_ | walk_at "name" | with_reducible refine Sx.r_cons ?_ | with_reducible refine Sx.r_nil ?_
  | with_reducible refine Sx.r_CB ?_ | with_reducible refine Sx.r_callW ?_ | with_reducible refine Sx.r_test ?_ | with_reducible refine Sx.r_B ?_ | with_reducible refine Sx.r_bl ?_
  | with_reducible refine Sx.r_ifS ?_ | with_reducible refine Sx.r_and ?_ | with_reducible refine Sx.r_or ?_ | with_reducible refine Sx.r_not ?_
  | with_reducible refine Sx.i_T ?_ | with_reducible refine Sx.i_F ?_ | with_reducible refine Sx.i_nT ?_ | with_reducible refine Sx.i_nF ?_
  | with_reducible refine Sx.r_andV ?_ | with_reducible refine Sx.r_orV ?_ | with_reducible refine Sx.r_notV ?_ | with_reducible refine Sx.r_ifE ?_ | with_reducible refine Sx.r_chain ?_
  | with_reducible refine Sx.r_eq rfl ?_ | with_reducible refine Sx.r_ne rfl ?_ | with_reducible refine Sx.r_un ?_ | with_reducible refine Sx.r_U ?_
  | with_reducible refine Sx.r_ret ?_ | with_reducible refine Sx.r_retN ?_ | with_reducible refine Sx.r_drop ?_ | with_reducible refine Sx.r_next ?_ | with_reducible refine Sx.r_brk ?_ | with_reducible refine Sx.r_cont ?_
  | with_reducible refine Sx.r_fld ?_ | with_reducible refine Sx.r_fldS ?_ | with_reducible refine Sx.r_methW ?_ | with_reducible refine Sx.r_makeW ?_ | with_reducible refine Sx.r_tup ?_ | with_reducible refine Sx.r_lst ?_
  | with_reducible refine Sx.r_par ?_ | with_reducible refine Sx.r_two ?_ | with_reducible refine Sx.r_one ?_ | with_reducible refine Sx.r_sub ?_ | with_reducible refine Sx.r_bm ?_ | with_reducible refine Sx.r_bm0 ?_ | with_reducible refine Sx.r_sl ?_ | with_reducible refine Sx.r_part ?_ | with_reducible refine Sx.r_noPart ?_ | with_reducible refine Sx.r_exI ?_ | with_reducible refine Sx.r_mkE ?_ | with_reducible refine Sx.r_int ?_ | with_reducible refine Sx.r_abs ?_ | with_reducible refine Sx.r_gcd ?_ | with_reducible refine Sx.r_min ?_ | with_reducible refine Sx.r_max ?_ | with_reducible refine Sx.r_makeK ?_ | with_reducible refine Sx.r_xf ?_ | with_reducible refine Sx.k_isI ?_ | with_reducible refine Sx.k_fldI (by assumption) (by with_unfolding_all rfl) ?_ | with_reducible refine Sx.r_lcL ?_ | with_reducible refine Sx.r_lcT ?_ | with_reducible refine Sx.r_lcR1 ?_ | with_reducible refine Sx.r_lcR2 ?_ | with_reducible refine Sx.r_forL ?_ | with_reducible refine Sx.r_forT ?_ | with_reducible refine Sx.r_forR1 ?_ | with_reducible refine Sx.r_forR2 ?_ | (with_reducible refine Sx.r_I ?_ ?_; · walk_at "sc"))
local macro_rules | `(tactic| walk_at "s1") => `(tactic| first | walk_at "g1" | with_reducible refine Sx.r5_0 ?_ | with_reducible refine Sx.r5_1 ?_ | with_reducible refine Sx.r5_2 ?_ | with_reducible refine Sx.r5_3 ?_ | with_reducible refine Sx.r5_4 ?_ | with_reducible refine Sx.w5_1 ?_ | with_reducible refine Sx.w5_2 ?_ | with_reducible refine Sx.w5_3 ?_ | with_reducible refine Sx.w5_4 ?_)
local macro_rules | `(tactic| walk_at "st") => `(tactic| repeat walk_at "s1")
local macro_rules | `(tactic| walk_at "go") => `(tactic| repeat walk_at "g1")
local macro_rules | `(tactic| walk_at "lc") => `(tactic| (dsimp only [L2.wipe, List.map, List.set]; walk_at "go"; refine ⟨rfl, ?_⟩; try with_reducible refine Sx.r_yes ?_))

namespace Sx
open PySem PySem.Spec PyProof.Rows L2
section
variable {w : World} {K : PySem.W.Frag} [Sy K] {mg : Str → Option Value} {base : Heap}
def sp_is_integer (K : PySem.W.Frag) : Sp := fun vs H Q _ => ∃ v d, vs = [v] ∧ Is K H v d ∧ Dn K d ∧ Q (.bl (isIntD d)) H
theorem k_isI {K : PySem.W.Frag} {H : Hp} {Q : VK} {E : XK} {i : Int} (h : Q (.bl true) H) : sp_is_integer K [.int i] H Q E := ⟨_, .int i, rfl, .int i, inferInstance, h⟩
theorem k_isD {K : PySem.W.Frag} {H : Hp} {Q : VK} {E : XK} {v : V} {d : D} (hv : Is K H v d) [n : Dn K d] (h : Q (.bl (isIntD d)) H) : sp_is_integer K [v] H Q E := ⟨v, d, rfl, hv, n, h⟩
theorem sc_is_integer : FnScope ["value"] ["value"] (defScope s_is_integer) := ⟨rfl, rfl, rfl, by decide +kernel, rfl, by decide +kernel, by decide +kernel⟩
theorem ok_is_integer (M : Mg K mg) : Fn w K mg base 1 (He.ga K "is_integer") (sp_is_integer K) := by
  refine fnr_of def_is_integer sc_is_integer (fun _ _ _ _ _ _ us hl => match us, hl with | [_], _ => rfl) (fun vs H Q E h => ?_) (fun cdv A outer s H vs Q E hr h => ?_)
  · obtain ⟨v, d, rfl, _⟩ := h
    rfl
  · obtain ⟨v, d, rfl, hv, hd, hq⟩ := h
    refine ⟨_, (pss_one (ps_ret (pe_and (pe_callB call_isi (by rfl) (f_isinstance (K := K) M) (by decide +kernel) (pa_cons (pv 0) (pa_cons (pe_bltn (v := .ty "int") (by rfl) (f_int (K := K) M) (by decide +kernel) rfl) pa_nil))) (pe_one (pe_not (pe_callB call_isi (by rfl) (f_isinstance (K := K) M) (by decide +kernel) (pa_cons (pv 0) (pa_cons (pe_bltn (v := .ty "bool") (by rfl) (f_bool (K := K) M) (by decide +kernel) rfl) pa_nil)))))))), ?_⟩
    simp only [show (∀ a0 : V, L2.start ["value"] [a0] = [some a0]) from fun _ => rfl, cxK]
    walk_at "go"
    refine r_isiB (ok := hd.ok) (k := hd.ki) hv ?_
    cases d <;> dsimp only [isNum, isIntD] at hq ⊢ <;> walk_at "go" <;> first | exact hq | (refine r_isiB hv ?_; walk_at "go"; exact hq)
theorem sc__law_is_integer : FnScope ["_law_told"] ["_law_told"] (defScope s__law_is_integer) := ⟨rfl, rfl, rfl, by decide +kernel, rfl, by decide +kernel, by decide +kernel⟩
theorem ok__law_is_integer (M : Mg K mg) : Fn w K mg base 1 (He.ga K "_law_is_integer") (sp_is_integer K) := by
  refine fnr_of def__law_is_integer sc__law_is_integer (fun _ _ _ _ _ _ us hl => match us, hl with | [_], _ => rfl) (fun vs H Q E h => ?_) (fun cdv A outer s H vs Q E hr h => ?_)
  · obtain ⟨v, d, rfl, _⟩ := h
    rfl
  · obtain ⟨v, d, rfl, hv, hd, hq⟩ := h
    refine ⟨_, (pss_one (ps_ret (pe_and (pe_callB call_isi (by rfl) (f_isinstance (K := K) M) (by decide +kernel) (pa_cons (pv 0) (pa_cons (pe_bltn (v := .ty "int") (by rfl) (f_int (K := K) M) (by decide +kernel) rfl) pa_nil))) (pe_one (pe_not (pe_callB call_isi (by rfl) (f_isinstance (K := K) M) (by decide +kernel) (pa_cons (pv 0) (pa_cons (pe_bltn (v := .ty "bool") (by rfl) (f_bool (K := K) M) (by decide +kernel) rfl) pa_nil)))))))), ?_⟩
    simp only [show (∀ a0 : V, L2.start ["_law_told"] [a0] = [some a0]) from fun _ => rfl, cxK]
    walk_at "go"
    refine r_isiB (ok := hd.ok) (k := hd.ki) hv ?_
    cases d <;> dsimp only [isNum, isIntD] at hq ⊢ <;> walk_at "go" <;> first | exact hq | (refine r_isiB hv ?_; walk_at "go"; exact hq)
end
end Sx
end

section
local macro_rules | `(tactic| walk_at "sc") => `(tactic| first | exact Sx.cpow_c (by decide) (by decide) (by decide) | exact Sx.cmul_r (by decide) (by decide) | exact Sx.cmul_l (by decide) (by decide) | exact Sx.cdiv_p (by decide) (by decide) | exact Sx.cdiv_p (by omega) (by omega) | exact Sx.cmul_l (by omega) (by omega) | exact Sx.cmul_r (by omega) (by omega) | (show (0 : Int) < _; omega) | (show _ ≠ (0 : Int); omega))
local macro_rules | `(tactic| walk_at "sm") => `(tactic| first | assumption | exact Same.refl _ | (refine Sx.Same.updR ?_ (by assumption); walk_at "sm") | (refine Same.trans (H1 := ?_) ?_ (by assumption); walk_at "sm"))
local macro_rules | `(tactic| walk_at "is") => `(tactic| first | assumption | exact Sx.Is.int _ | exact Sx.Is.bl _ | exact Sx.Is.str _ | exact Sx.Is.non | (refine Sx.Is.mono ?_ (by assumption); walk_at "sm"))
local macro_rules | `(tactic| walk_at "isl") => `(tactic| first | exact Sx.IsL.nil | (refine Sx.IsL.cons (by walk_at "is") (by walk_at "isl")))
local macro_rules | `(tactic| walk_at "name") => `(tactic| first | with_reducible refine Sx.n_0 ?_ | with_reducible refine Sx.n_1 ?_ | with_reducible refine Sx.n_2 ?_ | with_reducible refine Sx.n_3 ?_ | with_reducible refine Sx.n_4 ?_ | with_reducible refine Sx.n_5 ?_ | with_reducible refine Sx.n_6 ?_ | with_reducible refine Sx.n_7 ?_ | with_reducible refine Sx.n_8 ?_ | with_reducible refine Sx.n_9 ?_ | with_reducible refine Sx.n_10 ?_ | with_reducible refine Sx.n_11 ?_ | with_reducible refine Sx.n_12 ?_)
local macro_rules | `(tactic| walk_at "g1") => `(tactic| first
  | with_reducible refine Sx.r_var rfl ?_ | with_reducible refine Sx.r_c ?_ | with_reducible refine Sx.r_op ?_ | with_reducible refine Sx.r_I0 ?_
  | with_reducible refine Sx.r_seq ?_ | with_reducible refine Sx.r_asg ?_ | walk_at "name" | with_reducible refine Sx.r_cons ?_ | with_reducible refine Sx.r_nil ?_
  | with_reducible refine Sx.r_CB ?_ | with_reducible refine Sx.r_callW ?_ | with_reducible refine Sx.r_test ?_ | with_reducible refine Sx.r_B ?_ | with_reducible refine Sx.r_bl ?_
  | with_reducible refine Sx.r_ifS ?_ | with_reducible refine Sx.r_and ?_ | with_reducible refine Sx.r_or ?_ | with_reducible refine Sx.r_not ?_
  | with_reducible refine Sx.i_T ?_ | with_reducible refine Sx.i_F ?_ | with_reducible refine Sx.i_nT ?_ | with_reducible refine Sx.i_nF ?_
  | with_reducible refine Sx.r_andV ?_ | with_reducible refine Sx.r_orV ?_ | with_reducible refine Sx.r_notV ?_ | with_reducible refine Sx.r_ifE ?_ | with_reducible refine Sx.r_chain ?_
  | with_reducible refine Sx.r_eq rfl ?_ | with_reducible refine Sx.r_ne rfl ?_ | with_reducible refine Sx.r_un ?_ | with_reducible refine Sx.r_U ?_
  | with_reducible refine Sx.r_ret ?_ | with_reducible refine Sx.r_retN ?_ | with_reducible refine Sx.r_drop ?_ | with_reducible refine Sx.r_next ?_ | with_reducible refine Sx.r_brk ?_ | with_reducible refine Sx.r_cont ?_
  | with_reducible refine Sx.r_fld ?_ | with_reducible refine Sx.r_fldS ?_ | with_reducible refine Sx.r_methW ?_ | with_reducible refine Sx.r_makeW ?_ | with_reducible refine Sx.r_tup ?_ | with_reducible refine Sx.r_lst ?_
  | with_reducible refine Sx.r_par ?_ | with_reducible refine Sx.r_two ?_ | with_reducible refine Sx.r_one ?_ | with_reducible refine Sx.r_sub ?_ | with_reducible refine Sx.r_bm ?_ | with_reducible refine Sx.r_bm0 ?_ | with_reducible refine Sx.r_sl ?_ | with_reducible refine Sx.r_part ?_ | with_reducible refine Sx.r_noPart ?_ | with_reducible refine Sx.r_exI ?_ | with_reducible refine Sx.r_mkE ?_ | with_reducible refine Sx.r_int ?_ | with_reducible refine Sx.r_abs ?_ | with_reducible refine Sx.r_gcd ?_ | with_reducible refine Sx.r_min ?_ | with_reducible refine Sx.r_max ?_ | with_reducible refine Sx.r_makeK ?_ | with_reducible refine Sx.r_xf ?_ | with_reducible refine Sx.k_isI ?_ | with_reducible refine Sx.k_fldI (by assumption) (by with_unfolding_all rfl) ?_ | with_reducible refine Sx.r_lcL ?_ | with_reducible refine Sx.r_lcT ?_ | with_reducible refine Sx.r_lcR1 ?_ | with_reducible refine Sx.r_lcR2 ?_ | with_reducible refine Sx.r_forL ?_ | with_reducible refine Sx.r_forT ?_ | with_reducible refine Sx.r_forR1 ?_ | with_reducible refine Sx.r_forR2 ?_ | (with_reducible refine Sx.r_I ?_ ?_; · walk_at "sc"))
local macro_rules | `(tactic| walk_at "s1") => `(tactic| first | walk_at "g1" | with_reducible refine Sx.r5_0 ?_ | with_reducible refine Sx.r5_1 ?_ | with_reducible refine Sx.r5_2 ?_ | with_reducible refine Sx.r5_3 ?_ | with_reducible refine Sx.r5_4 ?_ | with_reducible refine Sx.w5_1 ?_ | with_reducible refine Sx.w5_2 ?_ | with_reducible refine Sx.w5_3 ?_ | with_reducible refine Sx.w5_4 ?_)
local macro_rules | `(tactic| walk_at "st") => `(tactic| repeat walk_at "s1")
local macro_rules | `(tactic| walk_at "go") => `(tactic| repeat walk_at "g1")
local macro_rules | `(tactic| walk_at "lc") => `(tactic| (dsimp only [L2.wipe, List.map, List.set]; walk_at "go"; refine ⟨rfl, ?_⟩; try with_reducible refine Sx.r_yes ?_))

namespace Sx
open PySem PySem.Spec PyProof.Rows L2
/-- a number, as data -/
abbrev rF (q : Rat) : List (Str × D) := [("top", .int q.num), ("bottom", .int (q.den : Int))]
abbrev rD (q : Rat) : D := .ins "Ratio" (rF q)
def sp_Ratio (K : PySem.W.Frag) : Sp := fun vs H Q E => ∃ a dx v1 d1 v2 d2, vs = [.ref a, v1, v2] ∧ H a = some (.ins (He.ga K "Ratio") dx []) ∧ Is K H v1 d1 ∧ Is K H v2 d2 ∧ Dn K d1 ∧ Dn K d2 ∧
  (isIntD d1 = false → Rz K E "NoRatio" "word" (.str "top") H) ∧ ∀ p, d1 = .int p → (isIntD d2 = false → Rz K E "NoRatio" "word" (.str "bottom") H) ∧ ∀ q, d2 = .int q → (q = 0 → Rz K E "NoRatio" "word" (.str "zero") H) ∧
  (q ≠ 0 → Bd 9000 q ∧ Q .non (upd H a (.ins (He.ga K "Ratio") dx [("top", .int (Rat.divInt p q).num), ("bottom", .int ((Rat.divInt p q).den : Int))])))
section
variable {w : World} {K : PySem.W.Frag} [Sy K] {mg : Str → Option Value} {base : Heap}

theorem sc_Ratio___init__ : FnScope ["self", "top", "bottom", "shared"] ["self", "top", "bottom"] (defScope s_Ratio___init__) := ⟨rfl, rfl, rfl, by decide +kernel, rfl, by decide +kernel, by decide +kernel⟩
theorem fok_Ratio___init__ (M : Mg K mg) {fd : FuncData} (F : FunD K d_Ratio___init__.name d_Ratio___init__.qual (defArgs s_Ratio___init__) (defBody s_Ratio___init__) (defScope s_Ratio___init__) (d_Ratio___init__.dvs K) [] (He.fAd K d_Ratio___init__.at_) fd) :
    FnOk PP w K mg base (L2.CX PP w) 4 (He.fAd K d_Ratio___init__.at_) fd ["self", "top", "bottom"] (sp_Ratio K) := by
  refine F.ok sc_Ratio___init__ (fun vs H Q E h => ?_) (fun cdv A outer s H vs Q E hr h => ?_)
  · obtain ⟨a, dx, v1, d1, v2, d2, rfl, _⟩ := h
    rfl
  · obtain ⟨a, dx, v1, d1, v2, d2, rfl, ha, hv1, hv2, hd1, hd2, k1, k⟩ := h
    refine ⟨_, (pss_cons (ps_if (pt_not (pt_val (pe_fnW (ok_is_integer (K := K) M) (hr.mono (by decide)) rfl (g_is_integer (K := K) M) (kp_is_integer (K := K)) (takes_of rfl rfl rfl rfl) (pa_cons (pv 1) pa_nil)))) (pss_one (ps_raise rfl (takes_of rfl rfl rfl rfl) (pmk_sup rfl (sup_NoRatio (K := K)).1 (sup_NoRatio (K := K)).2.1 (sup_NoRatio (K := K)).2.2 (hr.mono (by decide)) rfl (g_NoRatio (K := K) M) (pa_cons pe_str pa_nil)))) pss_nil) (pss_cons (ps_if (pt_not (pt_val (pe_fnW (ok_is_integer (K := K) M) (hr.mono (by decide)) rfl (g_is_integer (K := K) M) (kp_is_integer (K := K)) (takes_of rfl rfl rfl rfl) (pa_cons (pv 2) pa_nil)))) (pss_one (ps_raise rfl (takes_of rfl rfl rfl rfl) (pmk_sup rfl (sup_NoRatio (K := K)).1 (sup_NoRatio (K := K)).2.1 (sup_NoRatio (K := K)).2.2 (hr.mono (by decide)) rfl (g_NoRatio (K := K) M) (pa_cons pe_str pa_nil)))) pss_nil) (pss_cons (ps_if (pt_cmpR op_eq (pv 2) pe_int (nomark _)) (pss_one (ps_raise rfl (takes_of rfl rfl rfl rfl) (pmk_sup rfl (sup_NoRatio (K := K)).1 (sup_NoRatio (K := K)).2.1 (sup_NoRatio (K := K)).2.2 (hr.mono (by decide)) rfl (g_NoRatio (K := K) M) (pa_cons pe_str pa_nil)))) pss_nil) (pss_cons (ps_set (i := 3) sc_Ratio___init__.nd rfl (by first | exact Or.inl rfl | exact Or.inr rfl) (pe_callBfun cr_gcd rfl (g_gcd (K := K) M) (pa_cons (pv 1) (pa_cons (pv 2) pa_nil)))) (pss_cons (ps_if (pt_cmpR op_lt (pv 2) pe_int (nomark _)) (pss_one (ps_set (i := 3) sc_Ratio___init__.nd rfl (by first | exact Or.inl rfl | exact Or.inr rfl) (pe_un un_neg (pv 3)))) pss_nil) (pss_cons (ps_fld (pv 0) (pe_op op_fdivX (pv 1) (pv 3)) rfl) (pss_one (ps_fld (pv 0) (pe_op op_fdivX (pv 2) (pv 3)) rfl)))))))), ?_⟩
    simp only [show (∀ a0 a1 a2 : V, L2.start ["self", "top", "bottom", "shared"] [a0, a1, a2] = [some a0, some a1, some a2, none]) from fun _ _ _ => rfl, cxK]
    walk_at "go"
    refine ⟨v1, d1, rfl, hv1, hd1, ?_⟩
    walk_at "go"
    cases hi : isIntD d1
    · walk_at "go"
      exact (k1 hi).e
    obtain ⟨p, rfl⟩ := isInt_ex hi
    obtain ⟨k2, k⟩ := k p rfl
    walk_at "go"
    refine ⟨v2, d2, rfl, hv2, hd2, ?_⟩
    walk_at "go"
    cases hj : isIntD d2
    · walk_at "go"
      exact (k2 hj).e
    obtain ⟨q, rfl⟩ := isInt_ex hj
    obtain ⟨k3, k⟩ := k q rfl
    obtain rfl := hv1.int_eq
    obtain rfl := hv2.int_eq
    walk_at "go"
    refine i_I (fun h0 => ?_) (fun h0 => ?_)
    · walk_at "go"
      exact (k3 h0).e
    obtain ⟨hb, k⟩ := k h0
    walk_at "go"
    have rest : ∀ s, s = (if q < 0 then -(Int.gcd p q : Int) else (Int.gcd p q : Int)) → tSeq (sFld K (tVar 0) (tOp (rI CDivX fun i j => V.int (i.fdiv j)) (tVar 1) (tVar 3)) "top")
            (sFld K (tVar 0) (tOp (rI CDivX fun i j => V.int (i.fdiv j)) (tVar 2) (tVar 3)) "bottom")
            { nx := fun x H' => Q V.non H', rt := Q } [some (V.ref a), some (V.int p), some (V.int q), some (V.int s)] H := fun s hs => by
      have hne : s ≠ 0 := by rw [hs]; have := gcd_ne (p := p) h0; split <;> omega
      have hsb : Bd 9000 s := by
        rw [hs]
        split
        · exact (gcd_bd hb h0).neg
        · exact gcd_bd hb h0
      walk_at "go"
      refine r_I (hsb.divOk (by decide) hne (by decide)) ?_
      walk_at "go"
      refine k_setF ha (by decide) ?_
      walk_at "go"
      refine r_I (hsb.divOk (by decide) hne (by decide)) ?_
      walk_at "go"
      refine k_setF upd_same (by show 1 < 1000; decide) ?_
      rw [upd_upd, hs, rat_num h0, rat_den h0]
      exact k
    refine i_d (fun hn => ?_) (fun hn => ?_)
    · exact r_asg (r_un (r_var rfl (r_U (n_3 (rest _ (by rw [if_pos hn]))))))
    · exact rest _ (by rw [if_neg hn])
theorem kb_Ratio {fd : FuncData} (F : FunD K d_Ratio___init__.name d_Ratio___init__.qual (defArgs s_Ratio___init__) (defBody s_Ratio___init__) (defScope s_Ratio___init__) (d_Ratio___init__.dvs K) [] (He.fAd K d_Ratio___init__.at_) fd) :
    ∃ its : List Value, KBn K fd ["self", "top", "bottom"] 1 ["bottom", "top"] (fun us ws => us ++ ws.reverse) (fun vs zs => vs ++ zs.reverse) :=
  F.kbindsD 1 ["bottom", "top"] (fun us _ ws => us ++ ws.reverse) (by show [V.int 1] ≠ []; simp) (fun r1 _ r3 => L2.Vals.append r1 (Vals.rev r3))
    (fun _ _ _ _ _ _ _ us its ws h1 h2 h3 => match us, its, ws, h1, h2, h3 with | [_], [_], [_, _], _, _, _ => ⟨_, rfl, rfl⟩)
theorem oks_Ratio (M : Mg K mg) : Fn w K mg base 4 (He.fAd K d_Ratio___init__.at_) (sp_Ratio K) ∧ Fn w K mg base 4 (He.fAd K d_Ratio___init__.at_) (fun vs H Q E => sp_Ratio K (vs ++ [.int 1]) H Q E) := by
  obtain ⟨fd, F⟩ := def_Ratio___init__ (K := K)
  exact fnr1 F (fok_Ratio___init__ M F) (by decide) (fun _ _ _ _ _ _ _ us its hl hi => match us, its, hl, hi with | [_, _, _], [_], _, _ => ⟨_, rfl, rfl⟩) (fun _ _ _ _ _ _ _ us its hl hi => match us, its, hl, hi with | [_, _], [_], _, _ => ⟨_, rfl, rfl⟩)
theorem ok_Ratio___init__ (M : Mg K mg) : Fn w K mg base 4 (He.ma K (He.ga K "Ratio") "__init__") (sp_Ratio K) := (oks_Ratio M).1
theorem ok1_Ratio (M : Mg K mg) : Fn w K mg base 4 (He.ma K (He.ga K "Ratio") "__init__") (fun vs H Q E => sp_Ratio K (vs ++ [.int 1]) H Q E) := (oks_Ratio M).2
end
section
variable {K : PySem.W.Frag} {H : Hp} {Q : VK} {E : XK} {v1 v2 : V} {d1 d2 : D} {p q : Int}
theorem made_is {x dx : Addr} {C : Str} {fs : List (Str × V)} {gs : List (Str × D)} (hx : H x = none) (hdx : H dx = none) (hne : dx ≠ x) (hs : IsF K H fs gs) :
    Same H (upd (upd (upd H dx (.own x)) x (.ins (He.ga K C) dx [])) x (.ins (He.ga K C) dx fs)) ∧ Is K (upd (upd (upd H dx (.own x)) x (.ins (He.ga K C) dx [])) x (.ins (He.ga K C) dx fs)) (.ref x) (.ins C gs) := by
  rw [upd_upd]
  have e : Same H (upd (upd H dx (.own x)) x (.ins (He.ga K C) dx fs)) := Same.updR (Same.updR (Same.refl _) hdx) (upd_none hx (Ne.symm hne))
  exact ⟨e, .ins upd_same (IsF.mono e hs)⟩
theorem same_mk {x dx : Addr} {o u : HO} (hx : H x = none) (hdx : H dx = none) (hne : dx ≠ x) : Same H (upd (upd H dx o) x u) := Same.updR (Same.updR (Same.refl _) hdx) (upd_none hx (Ne.symm hne))
/-- Ratio(p, q) of data -/
theorem new_Ratio (h1 : Is K H v1 d1) (h2 : Is K H v2 d2) (n1 : Dn K d1) (n2 : Dn K d2)
    (k1 : isIntD d1 = false → Rz K E "NoRatio" "word" (.str "top") H) (k : ∀ p, d1 = .int p → (isIntD d2 = false → Rz K E "NoRatio" "word" (.str "bottom") H) ∧ ∀ q, d2 = .int q → (q = 0 → Rz K E "NoRatio" "word" (.str "zero") H) ∧
      (q ≠ 0 → Bd 9000 q ∧ ∀ v H2, Same H H2 → Is K H2 v (rD (Rat.divInt p q)) → Q v H2)) :
    kMake (He.ga K "Ratio") (sp_Ratio K) Q E [v1, v2] H := by
  intro x dx hx hdx hne
  have e := same_mk (o := .own x) (u := .ins (He.ga K "Ratio") dx []) hx hdx hne
  refine ⟨x, dx, v1, d1, v2, d2, rfl, upd_same, h1.mono e, h2.mono e, n1, n2, fun h => (k1 h).mono e, fun p hp => ?_⟩
  obtain ⟨k2, k⟩ := k p hp
  refine ⟨fun h => (k2 h).mono e, fun q hq => ?_⟩
  obtain ⟨k3, k⟩ := k q hq
  refine ⟨fun h => (k3 h).mono e, fun h => ?_⟩
  obtain ⟨b, k⟩ := k h
  refine ⟨b, rfl, ?_⟩
  have m := made_is (K := K) (C := "Ratio") hx hdx hne (fs := [("top", .int (Rat.divInt p q).num), ("bottom", .int ((Rat.divInt p q).den : Int))]) (.cons (.int _) (.cons (.int _) .nil))
  exact k _ _ m.1 m.2
theorem new_RatioI (hq : q ≠ 0) (b : Bd 9000 q) (k : ∀ v H2, Same H H2 → Is K H2 v (rD (Rat.divInt p q)) → Q v H2) :
    kMake (He.ga K "Ratio") (sp_Ratio K) Q E [.int p, .int q] H :=
  new_Ratio (.int p) (.int q) inferInstance inferInstance (fun h => by cases h) fun p' hp => by
    cases hp
    refine ⟨fun h => (by cases h), fun q' hq' => ?_⟩
    cases hq'
    exact ⟨fun h => absurd h hq, fun _ => ⟨b, k⟩⟩
theorem new_Ratio1 (k : ∀ v H2, Same H H2 → Is K H2 v (rD p) → Q v H2) : kMake (He.ga K "Ratio") (fun vs H Q E => sp_Ratio K (vs ++ [.int 1]) H Q E) Q E [.int p] H :=
  new_RatioI (q := 1) (by decide) (by unfold Bd; exact Nat.one_lt_two_pow (by decide)) (by
    have e : Rat.divInt p 1 = (p : Rat) := by rw [show (1 : Int) = ((1 : Nat) : Int) from rfl, Rat.divInt_ofNat, ← Rat.mk_eq_mkRat p 1 (by decide) (by simp)]; rfl
    rw [e]
    exact k)
theorem new_RatioK (hq : q ≠ 0) (b : Bd 9000 q) (k : ∀ v H2, Same H H2 → Is K H2 v (rD (Rat.divInt p q)) → Q v H2) : kMakeK (He.ga K "Ratio") 0 2 (sp_Ratio K) (fun vs zs => vs ++ zs.reverse) Q E [] [.int q, .int p] H :=
  ⟨rfl, rfl, new_RatioI hq b k⟩
end
end Sx
end

section
local macro_rules | `(tactic| walk_at "sc") => `(tactic| first | exact Sx.cpow_c (by decide) (by decide) (by decide) | exact Sx.cmul_r (by decide) (by decide) | exact Sx.cmul_l (by decide) (by decide) | exact Sx.cdiv_p (by decide) (by decide) | exact Sx.cdiv_p (by omega) (by omega) | exact Sx.cmul_l (by omega) (by omega) | exact Sx.cmul_r (by omega) (by omega) | (show (0 : Int) < _; omega) | (show _ ≠ (0 : Int); omega))
local macro_rules | `(tactic| walk_at "sm") => `(tactic| first | assumption | exact Same.refl _ | (refine Sx.Same.updR ?_ (by assumption); walk_at "sm") | (refine Same.trans (H1 := ?_) ?_ (by assumption); walk_at "sm"))
local macro_rules | `(tactic| walk_at "is") => `(tactic| first | assumption | exact Sx.Is.int _ | exact Sx.Is.bl _ | exact Sx.Is.str _ | exact Sx.Is.non | (refine Sx.Is.mono ?_ (by assumption); walk_at "sm"))
local macro_rules | `(tactic| walk_at "isl") => `(tactic| first | exact Sx.IsL.nil | (refine Sx.IsL.cons (by walk_at "is") (by walk_at "isl")))
local macro_rules | `(tactic| walk_at "name") => `(tactic| first | with_reducible refine Sx.n_0 ?_ | with_reducible refine Sx.n_1 ?_ | with_reducible refine Sx.n_2 ?_ | with_reducible refine Sx.n_3 ?_ | with_reducible refine Sx.n_4 ?_ | with_reducible refine Sx.n_5 ?_ | with_reducible refine Sx.n_6 ?_ | with_reducible refine Sx.n_7 ?_ | with_reducible refine Sx.n_8 ?_ | with_reducible refine Sx.n_9 ?_ | with_reducible refine Sx.n_10 ?_ | with_reducible refine Sx.n_11 ?_ | with_reducible refine Sx.n_12 ?_)
local macro_rules | `(tactic| walk_at "g1") => `(tactic| first
  | with_reducible refine Sx.r_var rfl ?_ | with_reducible refine Sx.r_c ?_ | with_reducible refine Sx.r_op ?_ | with_reducible refine Sx.r_I0 ?_
  | with_reducible refine Sx.r_seq ?_ | with_reducible refine Sx.r_asg ?_ | walk_at "name" | with_reducible refine Sx.r_cons ?_ | with_reducible refine Sx.r_nil ?_
  | with_reducible refine Sx.r_CB ?_ | with_reducible refine Sx.r_callW ?_ | with_reducible refine Sx.r_test ?_ | with_reducible refine Sx.r_B ?_ | with_reducible refine Sx.r_bl ?_
  | with_reducible refine Sx.r_ifS ?_ | with_reducible refine Sx.r_and ?_ | with_reducible refine Sx.r_or ?_ | with_reducible refine Sx.r_not ?_
  | with_reducible refine Sx.i_T ?_ | with_reducible refine Sx.i_F ?_ | with_reducible refine Sx.i_nT ?_ | with_reducible refine Sx.i_nF ?_
  | with_reducible refine Sx.r_andV ?_ | with_reducible refine Sx.r_orV ?_ | with_reducible refine Sx.r_notV ?_ | with_reducible refine Sx.r_ifE ?_ | with_reducible refine Sx.r_chain ?_
  | with_reducible refine Sx.r_eq rfl ?_ | with_reducible refine Sx.r_ne rfl ?_ | with_reducible refine Sx.r_un ?_ | with_reducible refine Sx.r_U ?_
  | with_reducible refine Sx.r_ret ?_ | with_reducible refine Sx.r_retN ?_ | with_reducible refine Sx.r_drop ?_ | with_reducible refine Sx.r_next ?_ | with_reducible refine Sx.r_brk ?_ | with_reducible refine Sx.r_cont ?_
  | with_reducible refine Sx.r_fld ?_ | with_reducible refine Sx.r_fldS ?_ | with_reducible refine Sx.r_methW ?_ | with_reducible refine Sx.r_makeW ?_ | with_reducible refine Sx.r_tup ?_ | with_reducible refine Sx.r_lst ?_
  | with_reducible refine Sx.r_par ?_ | with_reducible refine Sx.r_two ?_ | with_reducible refine Sx.r_one ?_ | with_reducible refine Sx.r_sub ?_ | with_reducible refine Sx.r_bm ?_ | with_reducible refine Sx.r_bm0 ?_ | with_reducible refine Sx.r_sl ?_ | with_reducible refine Sx.r_part ?_ | with_reducible refine Sx.r_noPart ?_ | with_reducible refine Sx.r_exI ?_ | with_reducible refine Sx.r_mkE ?_ | with_reducible refine Sx.r_int ?_ | with_reducible refine Sx.r_abs ?_ | with_reducible refine Sx.r_gcd ?_ | with_reducible refine Sx.r_min ?_ | with_reducible refine Sx.r_max ?_ | with_reducible refine Sx.r_makeK ?_ | with_reducible refine Sx.r_xf ?_ | with_reducible refine Sx.k_isI ?_ | with_reducible refine Sx.k_fldI (by assumption) (by with_unfolding_all rfl) ?_ | with_reducible refine Sx.r_lcL ?_ | with_reducible refine Sx.r_lcT ?_ | with_reducible refine Sx.r_lcR1 ?_ | with_reducible refine Sx.r_lcR2 ?_ | with_reducible refine Sx.r_forL ?_ | with_reducible refine Sx.r_forT ?_ | with_reducible refine Sx.r_forR1 ?_ | with_reducible refine Sx.r_forR2 ?_ | (with_reducible refine Sx.r_I ?_ ?_; · walk_at "sc"))
local macro_rules | `(tactic| walk_at "s1") => `(tactic| first | walk_at "g1" | with_reducible refine Sx.r5_0 ?_ | with_reducible refine Sx.r5_1 ?_ | with_reducible refine Sx.r5_2 ?_ | with_reducible refine Sx.r5_3 ?_ | with_reducible refine Sx.r5_4 ?_ | with_reducible refine Sx.w5_1 ?_ | with_reducible refine Sx.w5_2 ?_ | with_reducible refine Sx.w5_3 ?_ | with_reducible refine Sx.w5_4 ?_)
local macro_rules | `(tactic| walk_at "st") => `(tactic| repeat walk_at "s1")
local macro_rules | `(tactic| walk_at "go") => `(tactic| repeat walk_at "g1")
local macro_rules | `(tactic| walk_at "lc") => `(tactic| (dsimp only [L2.wipe, List.map, List.set]; walk_at "go"; refine ⟨rfl, ?_⟩; try with_reducible refine Sx.r_yes ?_))

namespace Sx
open PySem PySem.Spec PyProof.Rows L2
section
variable {w : World} {K : PySem.W.Frag} [Sy K] {mg : Str → Option Value} {base : Heap}

theorem sc__law_draw : FnScope ["_law_state_here", "_law_many", "_law_twice", "_law_item", "_law_found"] ["_law_state_here", "_law_many"] (defScope s__law_draw) := ⟨rfl, rfl, rfl, by decide +kernel, rfl, by decide +kernel, by decide +kernel⟩
theorem ok__law_draw (M : Mg K mg) : Fn w K mg base 1 (He.ga K "_law_draw") (sp_draw K) := by
  refine fnr_of def__law_draw sc__law_draw (fun _ _ _ _ _ _ us hl => match us, hl with | [_, _], _ => rfl) (fun vs H Q E h => ?_) (fun cdv A outer s H vs Q E hr h => ?_)
  · obtain ⟨st, many, G, s, rfl, _⟩ := h
    rfl
  · obtain ⟨st, many, G, ⟨it, ns, pos, big, mix, cnt⟩, rfl, rfl, hn, ok, hm, hm2, hq⟩ := h
    refine ⟨_, (pss_cons (ps_asg (pe_op op_add (pe_ix ix_list (pv 0) pe_int (fun _ _ => rfl)) pe_int) (pg_sub (pv 0) pe_int set_list)) (Evl.pss_cut (ps_if (PW.pt (pw_and (pt_cmpR op_le (pe_ix ix_list (pv 0) pe_int (fun _ _ => rfl)) pe_int (nomark _)) (pw_and1 (pt_cmpR op_lt (pe_ix ix_list (pv 0) pe_int (fun _ _ => rfl)) (pe_callB call_lenN (by rfl) (f_len (K := K) M) (by decide +kernel) (pa_cons (pe_ix ix_list (pv 0) pe_int (fun _ _ => rfl)) pa_nil)) (nomark _))))) (pss_cons (ps_set (i := 3) sc__law_draw.nd rfl (by first | exact Or.inl rfl | exact Or.inr rfl) (pe_ix ix_list (pe_ix ix_list (pv 0) pe_int (fun _ _ => rfl)) (pe_ix ix_list (pv 0) pe_int (fun _ _ => rfl)) (fun _ _ => rfl))) (pss_cons (ps_asg (pe_op op_add (pe_ix ix_list (pv 0) pe_int (fun _ _ => rfl)) pe_int) (pg_sub (pv 0) pe_int set_list)) (pss_one (ps_if (pt_cmpR op_ge (pe_callB call_absN (by rfl) (f_abs (K := K) M) (by decide +kernel) (pa_cons (pv 3) pa_nil)) (pe_op op_pow pe_int pe_int) (nomark _)) (pss_one (ps_asg (pe_callB call_absN (by rfl) (f_abs (K := K) M) (by decide +kernel) (pa_cons (pv 3) pa_nil)) (pg_sub (pv 0) pe_int set_list))) (pss_cons (ps_asg pe_int (pg_sub (pv 0) pe_int set_list)) (pss_one (ps_asg (pe_op op_mod (pe_callTy call_intN (by rfl) (f_int (K := K) M) (by decide +kernel) (pa_cons (pe_op op_add (pe_op op_add (pe_op op_mul (pe_ix ix_list (pv 0) pe_int (fun _ _ => rfl)) pe_int) (pv 3)) (pe_op op_mul pe_int (pe_ix ix_list (pv 0) pe_int (fun _ _ => rfl)))) pa_nil)) pe_int) (pg_sub (pv 0) pe_int set_list)))))))) pss_nil) (pss_cons (ps_if (pt_cmpR op_gt (pe_ix ix_list (pv 0) pe_int (fun _ _ => rfl)) pe_int (nomark _)) (pss_cons (ps_set (i := 4) sc__law_draw.nd rfl (by first | exact Or.inl rfl | exact Or.inr rfl) (pe_op op_mod (pe_callTy call_intN (by rfl) (f_int (K := K) M) (by decide +kernel) (pa_cons (pe_ix ix_list (pv 0) pe_int (fun _ _ => rfl)) pa_nil)) (pv 1))) (pss_cons (ps_asg (pe_op op_fdiv (pe_ix ix_list (pv 0) pe_int (fun _ _ => rfl)) (pv 1)) (pg_sub (pv 0) pe_int set_list)) (pss_one (ps_ret (pv 4))))) pss_nil) (pss_cons (ps_asg (pe_op op_mod (pe_callTy call_intN (by rfl) (f_int (K := K) M) (by decide +kernel) (pa_cons (pe_op op_add (pe_op op_add (pe_op op_mul (pe_ix ix_list (pv 0) pe_int (fun _ _ => rfl)) pe_int) (pe_op op_mul pe_int (pe_ix ix_list (pv 0) pe_int (fun _ _ => rfl)))) pe_int) pa_nil)) pe_int) (pg_sub (pv 0) pe_int set_list)) (pss_cons (ps_set (i := 2) sc__law_draw.nd rfl (by first | exact Or.inl rfl | exact Or.inr rfl) (pe_op op_mod (pe_callTy call_intN (by rfl) (f_int (K := K) M) (by decide +kernel) (pa_cons (pe_op op_mul (pe_ix ix_list (pv 0) pe_int (fun _ _ => rfl)) (pe_op op_add (pe_op op_fdiv (pe_ix ix_list (pv 0) pe_int (fun _ _ => rfl)) pe_int) pe_int)) pa_nil)) pe_int)) (pss_one (ps_ret (pe_op op_mod (pe_op op_fdiv (pv 2) pe_int) (pv 1))))))))), ?_⟩
    simp only [show (∀ a0 a1 : V, L2.start ["_law_state_here", "_law_many", "_law_twice", "_law_item", "_law_found"] [a0, a1] = [some a0, some a1, none, none, none]) from fun _ _ => rfl, cxK]
    dsimp only [Ds.o] at hq ⊢
    obtain ⟨ok1, ok2, ok3, ok4⟩ := ok
    dsimp only at ok1 ok2 ok3 ok4
    have mono : ∀ o, Same G (upd G st o) := fun o => Same.updR (Same.refl _) hn
    walk_at "st"
    refine r_cutS (fun σ H => ∃ (s : Ds) (a b c : Option V), σ = [some (.ref st), some (.int many), a, b, c] ∧ H = upd G st (.lst (Ds.o s)) ∧ DsOk K G s) ?_ ?_
    · have skip : ∃ (s : Ds) (a b c : Option V), [some (V.ref st), some (V.int many), none, none, none] = [some (.ref st), some (.int many), a, b, c] ∧ upd G st (.lst [.ref it, .int pos, .int big, .int mix, .int (cnt + 1)]) = upd G st (.lst (Ds.o s)) ∧ DsOk K G s :=
        ⟨⟨it, ns, pos, big, mix, cnt + 1⟩, none, none, none, rfl, rfl, ok1, ok2, ok3, ok4⟩
      walk_at "st"
      refine i_d (fun h1 => ?_) (fun h1 => ?_)
      · walk_at "st"
        refine r_lenL (Same.seq (mono _) ok1) ?_
        walk_at "st"
        refine i_d (fun h2 => ?_) (fun h2 => ?_)
        · walk_at "st"
          obtain ⟨n, e⟩ := atI_ints ok2 h2
          refine r_ixL (Same.seq (mono _) ok1) e ?_
          walk_at "st"
          refine i_d (fun h3 => ?_) (fun h3 => ?_)
          · walk_at "st"
            exact ⟨⟨it, ns, pos + 1, n.natAbs, mix, cnt + 1⟩, _, _, _, rfl, rfl, ok1, by show 0 ≤ pos + 1; omega, ok3, ok4⟩
          · walk_at "st"
            exact ⟨⟨it, ns, pos + 1, 0, _, cnt + 1⟩, _, _, _, rfl, rfl, ok1, by show 0 ≤ pos + 1; omega, by show 0 ≤ _ % _; omega, by show _ % _ < _; omega⟩
        · exact skip
      · exact skip
    · rintro σ' H' ⟨⟨it, ns, pos, big, mix, cnt⟩, a, b, c, rfl, rfl, ok1, ok2, ok3, ok4⟩
      dsimp only [Ds.o] at ok1 ok2 ok3 ok4 ⊢
      walk_at "st"
      refine i_d (fun h1 => ?_) (fun h1 => ?_)
      · walk_at "st"
        exact hq _ ⟨it, ns, pos, _, mix, cnt⟩ (Int.emod_nonneg _ (by omega)) (Int.emod_lt_of_pos _ hm) ⟨ok1, ok2, ok3, ok4⟩
      · walk_at "st"
        exact hq _ ⟨it, ns, pos, big, _, cnt⟩ (Int.emod_nonneg _ (by omega)) (Int.emod_lt_of_pos _ hm) ⟨ok1, ok2, by show 0 ≤ _ % _; omega, by show _ % _ < _; omega⟩
theorem sc__law_state : FnScope ["_law_script", "_law_items", "_law_item"] ["_law_script"] (defScope s__law_state) := ⟨rfl, rfl, rfl, by decide +kernel, rfl, by decide +kernel, by decide +kernel⟩
def sp_state (K : PySem.W.Frag) : Sp := fun vs H Q _ => ∃ (a : Addr) (ns : List Int), vs = [.ref a] ∧ SqL K H a (ns.map V.int) ∧ ∀ st G s, G st = none → Same H G → DsOk K G s → Q (.ref st) (upd G st (.lst (Ds.o s)))
theorem ok__law_state (M : Mg K mg) : Fn w K mg base 1 (He.ga K "_law_state") (sp_state K) := by
  refine fnr_of def__law_state sc__law_state (fun _ _ _ _ _ _ us hl => match us, hl with | [_], _ => rfl) (fun vs H Q E h => ?_) (fun cdv A outer s H vs Q E hr h => ?_)
  · obtain ⟨a, ns, rfl, _⟩ := h
    rfl
  · obtain ⟨a, ns, rfl, ha, hq⟩ := h
    refine ⟨_, (pss_cons (ps_setLc (i := 1) (own := [("_law_item", 2)]) (g := gName 2) rfl sc__law_state.nd rfl rfl (sw_true rfl rfl rfl (by decide +kernel)) (pi_list (pe_slice sl_list (pv 0) po_none (po_some pe_int))) (blkOk_by (own := [("_law_item", 2)]) (N := ["_law_script", "_law_items", "_law_item"]) (sc := defScope s__law_state) (by decide +kernel)) (fun _ _ _ _ _ => (pg_name (i := 2) sc__law_state.nd rfl (by first | exact Or.inl rfl | exact Or.inr rfl))) (fun _ _ _ _ _ => pts_nil) (fun _ _ _ _ _ => (pe_callTy call_intN (by rfl) (f_int (K := K) M) (by decide +kernel) (pa_cons (pv 2) pa_nil)))) (pss_one (ps_ret (pe_lst (pa_cons (pv 1) (pa_cons pe_int (pa_cons pe_int (pa_cons (pe_op op_add pe_int (pe_callB call_lenN (by rfl) (f_len (K := K) M) (by decide +kernel) (pa_cons (pv 1) pa_nil))) (pa_cons pe_int pa_nil))))))))), ?_⟩
    simp only [show (∀ a0 : V, L2.start ["_law_script", "_law_items", "_law_item"] [a0] = [some a0, none, none]) from fun _ => rfl, cxK]
    walk_at "go"
    refine r_sliceL ha (fun p hp => ?_)
    have ec : cutV (ns.map V.int) none (some 63) = (ns.take 63).map V.int := by rw [show (some (63 : Int)) = some ((63 : Nat) : Int) from rfl, cut_to, List.map_take]
    rw [ec]
    have hs1 : Same H (upd H p (.lst ((ns.take 63).map V.int))) := Same.updR (Same.refl _) hp
    have hl : (ns.take 63).length ≤ 63 := by rw [List.length_take]; omega
    refine k_lcL (xs := (ns.take 63).map V.int) ((ns.take 63).map fun n => some (D.int n)) (SqL.of upd_same) (by simp) (by simp; omega) (fun Dl hD => ⟨fun i x o hx ho => ?_, fun G ys hs hn hy => ?_⟩)
    · intro G acc Nk El s1 n1 k1 k2
      obtain ⟨n, hn, rfl⟩ : ∃ n, (ns.take 63)[i]? = some n ∧ x = V.int n := by
        rw [List.getElem?_map] at hx
        cases e : (ns.take 63)[i]? with
        | none => rw [e] at hx; cases hx
        | some n => rw [e] at hx; exact ⟨n, rfl, (Option.some.inj hx).symm⟩
      have eo : o = some (.int n) := by
        rw [List.getElem?_map, hn] at ho
        exact (Option.some.inj ho).symm
      walk_at "lc"
      walk_at "go"
      exact k1 _ eo _ _ n1 (Same.refl _) (.int n)
    · walk_at "go"
      have ey : ys = ((ns.take 63).map V.int) := by
        have : ((ns.take 63).map fun n => some (Sx.D.int n)).filterMap id = (ns.take 63).map Sx.D.int := fm_map _ _
        rw [this] at hy
        exact hy.ofInts
      subst ey
      refine r_lenL (SqL.of upd_same) ?_
      walk_at "go"
      refine k_lst (by show 5 ≤ 1000; decide) (fun st hst => ?_)
      have hs2 : Same H (upd G Dl (.lst ((ns.take 63).map V.int))) := Same.updR (hs1.trans hs) hn
      exact hq st _ ⟨Dl, ns.take 63, 0, 0, _, 0⟩ hst hs2 ⟨SqL.of upd_same, Int.le_refl 0, by show 0 ≤ (1 : Int) + _; omega, by show (1 : Int) + _ < _; rw [List.length_map]; omega⟩
end
end Sx
end

section
local macro_rules | `(tactic| walk_at "sc") => `(tactic| first | exact Sx.cpow_c (by decide) (by decide) (by decide) | exact Sx.cmul_r (by decide) (by decide) | exact Sx.cmul_l (by decide) (by decide) | exact Sx.cdiv_p (by decide) (by decide) | exact Sx.cdiv_p (by omega) (by omega) | exact Sx.cmul_l (by omega) (by omega) | exact Sx.cmul_r (by omega) (by omega) | (show (0 : Int) < _; omega) | (show _ ≠ (0 : Int); omega))
local macro_rules | `(tactic| walk_at "sm") => `(tactic| first | assumption | exact Same.refl _ | (refine Sx.Same.updR ?_ (by assumption); walk_at "sm") | (refine Same.trans (H1 := ?_) ?_ (by assumption); walk_at "sm"))
local macro_rules | `(tactic| walk_at "is") => `(tactic| first | assumption | exact Sx.Is.int _ | exact Sx.Is.bl _ | exact Sx.Is.str _ | exact Sx.Is.non | (refine Sx.Is.mono ?_ (by assumption); walk_at "sm"))
local macro_rules | `(tactic| walk_at "isl") => `(tactic| first | exact Sx.IsL.nil | (refine Sx.IsL.cons (by walk_at "is") (by walk_at "isl")))
local macro_rules | `(tactic| walk_at "name") => `(tactic| first | with_reducible refine Sx.n_0 ?_ | with_reducible refine Sx.n_1 ?_ | with_reducible refine Sx.n_2 ?_ | with_reducible refine Sx.n_3 ?_ | with_reducible refine Sx.n_4 ?_ | with_reducible refine Sx.n_5 ?_ | with_reducible refine Sx.n_6 ?_ | with_reducible refine Sx.n_7 ?_ | with_reducible refine Sx.n_8 ?_ | with_reducible refine Sx.n_9 ?_ | with_reducible refine Sx.n_10 ?_ | with_reducible refine Sx.n_11 ?_ | with_reducible refine Sx.n_12 ?_)
local macro_rules | `(tactic| walk_at "g1") => `(tactic| first
  | with_reducible refine Sx.r_var rfl ?_ | with_reducible refine Sx.r_c ?_ | with_reducible refine Sx.r_op ?_ | with_reducible refine Sx.r_I0 ?_
  | with_reducible refine Sx.r_seq ?_ | with_reducible refine Sx.r_asg ?_ | walk_at "name" | with_reducible refine Sx.r_cons ?_ | with_reducible refine Sx.r_nil ?_
  | with_reducible refine Sx.r_CB ?_ | with_reducible refine Sx.r_callW ?_ | with_reducible refine Sx.r_test ?_ | with_reducible refine Sx.r_B ?_ | with_reducible refine Sx.r_bl ?_
  | with_reducible refine Sx.r_ifS ?_ | with_reducible refine Sx.r_and ?_ | with_reducible refine Sx.r_or ?_ | with_reducible refine Sx.r_not ?_
  | with_reducible refine Sx.i_T ?_ | with_reducible refine Sx.i_F ?_ | with_reducible refine Sx.i_nT ?_ | with_reducible refine Sx.i_nF ?_
  | with_reducible refine Sx.r_andV ?_ | with_reducible refine Sx.r_orV ?_ | with_reducible refine Sx.r_notV ?_ | with_reducible refine Sx.r_ifE ?_ | with_reducible refine Sx.r_chain ?_
  | with_reducible refine Sx.r_eq rfl ?_ | with_reducible refine Sx.r_ne rfl ?_ | with_reducible refine Sx.r_un ?_ | with_reducible refine Sx.r_U ?_
  | with_reducible refine Sx.r_ret ?_ | with_reducible refine Sx.r_retN ?_ | with_reducible refine Sx.r_drop ?_ | with_reducible refine Sx.r_next ?_ | with_reducible refine Sx.r_brk ?_ | with_reducible refine Sx.r_cont ?_
  | with_reducible refine Sx.r_fld ?_ | with_reducible refine Sx.r_fldS ?_ | with_reducible refine Sx.r_methW ?_ | with_reducible refine Sx.r_makeW ?_ | with_reducible refine Sx.r_tup ?_ | with_reducible refine Sx.r_lst ?_
  | with_reducible refine Sx.r_par ?_ | with_reducible refine Sx.r_two ?_ | with_reducible refine Sx.r_one ?_ | with_reducible refine Sx.r_sub ?_ | with_reducible refine Sx.r_bm ?_ | with_reducible refine Sx.r_bm0 ?_ | with_reducible refine Sx.r_sl ?_ | with_reducible refine Sx.r_part ?_ | with_reducible refine Sx.r_noPart ?_ | with_reducible refine Sx.r_exI ?_ | with_reducible refine Sx.r_mkE ?_ | with_reducible refine Sx.r_int ?_ | with_reducible refine Sx.r_abs ?_ | with_reducible refine Sx.r_gcd ?_ | with_reducible refine Sx.r_min ?_ | with_reducible refine Sx.r_max ?_ | with_reducible refine Sx.r_makeK ?_ | with_reducible refine Sx.r_xf ?_ | with_reducible refine Sx.k_isI ?_ | with_reducible refine Sx.k_fldI (by assumption) (by with_unfolding_all rfl) ?_ | with_reducible refine Sx.r_lcL ?_ | with_reducible refine Sx.r_lcT ?_ | with_reducible refine Sx.r_lcR1 ?_ | with_reducible refine Sx.r_lcR2 ?_ | with_reducible refine Sx.r_forL ?_ | with_reducible refine Sx.r_forT ?_ | with_reducible refine Sx.r_forR1 ?_ | with_reducible refine Sx.r_forR2 ?_ | (with_reducible refine Sx.r_I ?_ ?_; · walk_at "sc"))
local macro_rules | `(tactic| walk_at "s1") => `(tactic| first | walk_at "g1" | with_reducible refine Sx.r5_0 ?_ | with_reducible refine Sx.r5_1 ?_ | with_reducible refine Sx.r5_2 ?_ | with_reducible refine Sx.r5_3 ?_ | with_reducible refine Sx.r5_4 ?_ | with_reducible refine Sx.w5_1 ?_ | with_reducible refine Sx.w5_2 ?_ | with_reducible refine Sx.w5_3 ?_ | with_reducible refine Sx.w5_4 ?_)
local macro_rules | `(tactic| walk_at "st") => `(tactic| repeat walk_at "s1")
local macro_rules | `(tactic| walk_at "go") => `(tactic| repeat walk_at "g1")
local macro_rules | `(tactic| walk_at "lc") => `(tactic| (dsimp only [L2.wipe, List.map, List.set]; walk_at "go"; refine ⟨rfl, ?_⟩; try with_reducible refine Sx.r_yes ?_))

namespace Sx
open PySem PySem.Spec PyProof.Rows L2
theorem gcd_fmod (a b : Int) : Int.gcd b (a.fmod b) = Int.gcd a b := by
  rw [Int.fmod_def, Int.sub_eq_add_neg, ← Int.mul_neg, Int.gcd_add_mul_left_right, Int.gcd_comm]
theorem fmod_lt (a b : Int) (h : b ≠ 0) : (a.fmod b).natAbs < b.natAbs := by
  rcases Int.lt_or_gt_of_ne h with h | h
  · have h1 := Int.fmod_def a b
    have e : a.fmod b = -((-a).fmod (-b)) := by rw [Int.neg_fmod_neg]; omega
    have h2 := Int.fmod_nonneg_of_pos (-a) (b := -b) (by omega)
    have h3 := Int.fmod_lt_of_pos (-a) (b := -b) (by omega)
    omega
  · have h2 := Int.fmod_nonneg_of_pos a (b := b) (by omega)
    have h3 := Int.fmod_lt_of_pos a (b := b) (by omega)
    omega
section
variable {w : World} {K : PySem.W.Frag} [Sy K] {mg : Str → Option Value} {base : Heap}
def sp_gcd : Sp := fun vs H Q _ => ∃ a b : Int, vs = [.int a, .int b] ∧ Q (.int (Int.gcd a b : Nat)) H
theorem k_gcd {H : Hp} {Q : VK} {E : XK} {a b : Int} (h : Q (.int (Int.gcd a b : Nat)) H) : sp_gcd [.int a, .int b] H Q E := ⟨a, b, rfl, h⟩

theorem sc__law_gcd : FnScope ["_law_one", "_law_other"] ["_law_one", "_law_other"] (defScope s__law_gcd) := ⟨rfl, rfl, rfl, by decide +kernel, rfl, by decide +kernel, by decide +kernel⟩
theorem ok__law_gcd (M : Mg K mg) : Fn w K mg base 1 (He.ga K "_law_gcd") sp_gcd := by
  refine fnr_of def__law_gcd sc__law_gcd (fun _ _ _ _ _ _ us hl => match us, hl with | [_, _], _ => rfl) (fun vs H Q E h => ?_) (fun cdv A outer s H vs Q E hr h => ?_)
  · obtain ⟨a, b, rfl, _⟩ := h
    rfl
  · obtain ⟨a, b, rfl, hq⟩ := h
    refine ⟨_, (pss_cons (ps_while (passes_of rfl) (pt_cmpR op_ne (pv 1) pe_int (nomark _)) (pss_one (ps_par (i := 0) (j := 1) (by rfl) sc__law_gcd.nd rfl rfl (by decide) rfl rfl (pa_cons (pv 1) (pa_cons (pe_op op_modN (pe_callTy call_intN (by rfl) (f_int (K := K) M) (by decide +kernel) (pa_cons (pv 0) pa_nil)) (pv 1)) pa_nil)) (by rfl)))) (pss_one (ps_ret (pe_callB call_absN (by rfl) (f_abs (K := K) M) (by decide +kernel) (pa_cons (pv 0) pa_nil))))), ?_⟩
    simp only [show (∀ a0 a1 : V, L2.start ["_law_one", "_law_other"] [a0, a1] = [some a0, some a1]) from fun _ _ => rfl, cxK]
    walk_at "go"
    refine ⟨fun m σ H' => ∃ x y : Int, σ = [some (.int x), some (.int y)] ∧ H' = H ∧ m = y.natAbs ∧ Int.gcd x y = Int.gcd a b, ⟨_, a, b, rfl, rfl, rfl, rfl⟩, ?_⟩
    rintro m σ H' ⟨x, y, rfl, rfl, rfl, e⟩
    walk_at "go"
    refine i_In (fun h0 => ?_) (fun h0 => ?_)
    · refine ⟨fun σ H2 => ∃ x' y' : Int, σ = [some (.int x'), some (.int y')] ∧ H2 = H' ∧ y'.natAbs < y.natAbs ∧ Int.gcd x' y' = Int.gcd a b, ?_, ?_⟩
      · rintro σ' H2 ⟨x', y', e1, e2, h1, h2⟩
        exact ⟨_, h1, x', y', e1, e2, rfl, h2⟩
      · walk_at "go"
        exact ⟨_, _, rfl, rfl, fmod_lt _ _ h0, by rw [gcd_fmod]; exact e⟩
    · walk_at "go"
      subst h0
      rw [Int.gcd_zero_right] at e
      rw [e]
      exact hq
def sp_great (K : PySem.W.Frag) : Sp := fun vs H Q _ => ∃ st G s, vs = [.ref st] ∧ H = upd G st (.lst (Ds.o s)) ∧ G st = none ∧ DsOk K G s ∧ ∀ n s', Bd 120 n → DsOk K G s' → Q (.int n) (upd G st (.lst (Ds.o s')))
theorem sc__law_great : FnScope ["_law_state_here", "_law_found", "_law_k"] ["_law_state_here"] (defScope s__law_great) := ⟨rfl, rfl, rfl, by decide +kernel, rfl, by decide +kernel, by decide +kernel⟩
theorem ok__law_great (M : Mg K mg) : Fn w K mg base 2 (He.ga K "_law_great") (sp_great K) := by
  refine fnr_of def__law_great sc__law_great (fun _ _ _ _ _ _ us hl => match us, hl with | [_], _ => rfl) (fun vs H Q E h => ?_) (fun cdv A outer s H vs Q E hr h => ?_)
  · obtain ⟨st, G, s, rfl, _⟩ := h
    rfl
  · obtain ⟨st, G, s, rfl, rfl, hn, ok, hq⟩ := h
    refine ⟨_, (pss_cons (ps_set (i := 1) sc__law_great.nd rfl (by first | exact Or.inl rfl | exact Or.inr rfl) pe_int) (pss_cons (ps_for (passes_of rfl) rfl (pi_range1 rfl (f_range (K := K) M) (pa_cons (pe_fnW (ok__law_draw (K := K) M) (hr.mono (by decide)) rfl (g__law_draw (K := K) M) (kp__law_draw (K := K)) (takes_of rfl rfl rfl rfl) (pa_cons (pv 0) (pa_cons pe_int pa_nil))) pa_nil)) (pg_name (i := 2) sc__law_great.nd rfl (by first | exact Or.inl rfl | exact Or.inr rfl)) (pss_one (ps_set (i := 1) sc__law_great.nd rfl (by first | exact Or.inl rfl | exact Or.inr rfl) (pe_op op_add (pe_op op_mul (pv 1) (pe_op op_pow pe_int pe_int)) (pe_fnW (ok__law_draw (K := K) M) (hr.mono (by decide)) rfl (g__law_draw (K := K) M) (kp__law_draw (K := K)) (takes_of rfl rfl rfl rfl) (pa_cons (pv 0) (pa_cons (pe_op op_pow pe_int pe_int) pa_nil))))))) (pss_cons (ps_set (i := 1) sc__law_great.nd rfl (by first | exact Or.inl rfl | exact Or.inr rfl) (pe_op op_add (pv 1) (pe_fnW (ok__law_draw (K := K) M) (hr.mono (by decide)) rfl (g__law_draw (K := K) M) (kp__law_draw (K := K)) (takes_of rfl rfl rfl rfl) (pa_cons (pv 0) (pa_cons pe_int pa_nil))))) (pss_cons (ps_if (pt_cmpR op_eq (pe_fnW (ok__law_draw (K := K) M) (hr.mono (by decide)) rfl (g__law_draw (K := K) M) (kp__law_draw (K := K)) (takes_of rfl rfl rfl rfl) (pa_cons (pv 0) (pa_cons pe_int pa_nil))) pe_int (nomark _)) (pss_one (ps_ret (pe_un un_neg (pv 1)))) pss_nil) (pss_one (ps_ret (pv 1))))))), ?_⟩
    simp only [show (∀ a0 : V, L2.start ["_law_state_here", "_law_found", "_law_k"] [a0] = [some a0, none, none]) from fun _ => rfl, cxK]
    walk_at "go"
    refine k_draw hn ok (by decide) (by decide) (fun r s1 h1 h2 ok1 => ?_)
    walk_at "go"
    refine k_forR1 (by omega) (by omega) (k_forR (fun i σ H => ∃ f k s, σ = [some (.ref st), some (.int f), k] ∧ H = upd G st (.lst (Ds.o s)) ∧ DsOk K G s ∧ 0 ≤ f ∧ f < 1000000000 ^ i) ⟨0, none, s1, rfl, rfl, ok1, by decide, by decide⟩ ?_ ?_)
    · rintro i σ H hi ⟨f, k, s2, rfl, rfl, ok2, h3, h4⟩
      walk_at "go"
      refine k_draw hn ok2 (by decide) (by decide) (fun r s3 h5 h6 ok3 => ?_)
      walk_at "go"
      have e : (10 : Int) ^ (9 : Int).toNat = 1000000000 := rfl
      rw [e] at h6
      refine ⟨_, _, s3, rfl, rfl, ok3, ?_, ?_⟩
      · rw [e]; omega
      · rw [e, Int.pow_succ]; omega
    · rintro σ H ⟨f, k, s2, rfl, rfl, ok2, h3, h4⟩
      have h5 : f < 1000000000 ^ 4 := by
        have : (r.toNat) = 0 ∨ r.toNat = 1 ∨ r.toNat = 2 ∨ r.toNat = 3 ∨ r.toNat = 4 := by omega
        rcases this with e | e | e | e | e <;> rw [e] at h4 <;> omega
      walk_at "go"
      refine k_draw hn ok2 (by decide) (by decide) (fun r s3 h6 h7 ok3 => ?_)
      walk_at "go"
      have hb : Bd 120 (f + r) := by
        have e : (1000000000 : Int) ^ 4 = 1000000000000000000000000000000000000 := by decide
        rw [e] at h5
        unfold Bd
        have e2 : 2 ^ 120 = 1329227995784915872903807060280344576 := by decide
        rw [e2]
        omega
      refine k_draw hn ok3 (by decide) (by decide) (fun r2 s4 h8 h9 ok4 => ?_)
      walk_at "go"
      refine i_I (fun h => ?_) (fun h => ?_)
      · walk_at "go"
        exact hq _ s4 hb.neg ok4
      · walk_at "go"
        exact hq _ s4 hb ok4
def sp_good (K : PySem.W.Frag) : Sp := fun vs H Q _ => ∃ a b v q, vs = [.int a, .int b, v] ∧ Is K H v (rD q) ∧ Bd 9000 a ∧ Bd 9000 b ∧ b ≠ 0 ∧ q = Rat.divInt a b ∧ Q (.bl true) H
theorem k_good {K : PySem.W.Frag} {H : Hp} {Q : VK} {E : XK} {a b : Int} {v : V} (hv : Is K H v (rD (Rat.divInt a b))) (ha : Bd 9000 a) (hb : Bd 9000 b) (hb0 : b ≠ 0) (h : Q (.bl true) H) : sp_good K [.int a, .int b, v] H Q E :=
  ⟨a, b, v, _, rfl, hv, ha, hb, hb0, rfl, h⟩
theorem rat_cross {a b : Int} (hb : b ≠ 0) : (Rat.divInt a b).num * b = a * ((Rat.divInt a b).den : Int) := by
  have h := Rat.num_divInt_den (Rat.divInt a b)
  exact (Rat.divInt_eq_divInt_iff (by have := (Rat.divInt a b).den_nz; omega) hb).mp h
theorem rat_num_bd {n : Nat} {a b : Int} (h : Bd n a) : Bd n (Rat.divInt a b).num := by
  refine h.of_le ?_
  rw [Rat.num_divInt]
  rcases Int.lt_trichotomy b 0 with h | h | h
  · rw [Int.sign_eq_neg_one_of_neg h, Int.neg_one_mul]
    have d : ((Int.gcd b a : Nat) : Int) ∣ -a := Int.dvd_neg.mpr (Int.gcd_dvd_right b a)
    rw [Int.natAbs_ediv_of_dvd d, Int.natAbs_neg]
    exact Nat.div_le_self _ _
  · subst h
    simp
  · rw [Int.sign_eq_one_of_pos h, Int.one_mul]
    have d : ((Int.gcd b a : Nat) : Int) ∣ a := Int.gcd_dvd_right b a
    rw [Int.natAbs_ediv_of_dvd d]
    exact Nat.div_le_self _ _
theorem rat_den_bd {n : Nat} {a b : Int} (h : Bd n b) (hb : b ≠ 0) : Bd n ((Rat.divInt a b).den : Int) := by
  refine h.of_le ?_
  rw [Rat.den_divInt, if_neg hb, Int.natAbs_natCast]
  exact Nat.div_le_self _ _

theorem sc__law_good : FnScope ["_law_a", "_law_b", "_law_made"] ["_law_a", "_law_b", "_law_made"] (defScope s__law_good) := ⟨rfl, rfl, rfl, by decide +kernel, rfl, by decide +kernel, by decide +kernel⟩
theorem ok__law_good (M : Mg K mg) : Fn w K mg base 2 (He.ga K "_law_good") (sp_good K) := by
  refine fnr_of def__law_good sc__law_good (fun _ _ _ _ _ _ us hl => match us, hl with | [_, _, _], _ => rfl) (fun vs H Q E h => ?_) (fun cdv A outer s H vs Q E hr h => ?_)
  · obtain ⟨a, b, v, q, rfl, _⟩ := h
    rfl
  · obtain ⟨a, b, v, q, rfl, hv, ha, hb, hb0, rfl, hq⟩ := h
    refine ⟨_, (pss_cons (ps_if (PW.pt (pw_or (pt_not (pt_val (pe_callB call_isi (by rfl) (f_isinstance (K := K) M) (by decide +kernel) (pa_cons (pv 2) (pa_cons (pe_glob (v := .ref (He.ga _ "Ratio")) rfl (g_Ratio (K := K) M) rfl) pa_nil))))) (pw_or (pt_not (pt_val (pe_fnW (ok__law_is_integer (K := K) M) (hr.mono (by decide)) rfl (g__law_is_integer (K := K) M) (kp__law_is_integer (K := K)) (takes_of rfl rfl rfl rfl) (pa_cons (pe_fld (pv 2) rfl) pa_nil)))) (pw_or1 (pt_not (pt_val (pe_fnW (ok__law_is_integer (K := K) M) (hr.mono (by decide)) rfl (g__law_is_integer (K := K) M) (kp__law_is_integer (K := K)) (takes_of rfl rfl rfl rfl) (pa_cons (pe_fld (pv 2) rfl) pa_nil)))))))) (pss_one (ps_ret pe_bl)) pss_nil) (pss_cons (ps_if (PW.pt (pw_or (pt_cmpR op_lt (pe_fld (pv 2) rfl) pe_int (nomark _)) (pw_or1 (pt_cmpR op_ne (pe_fnW (ok__law_gcd (K := K) M) (hr.mono (by decide)) rfl (g__law_gcd (K := K) M) (kp__law_gcd (K := K)) (takes_of rfl rfl rfl rfl) (pa_cons (pe_fld (pv 2) rfl) (pa_cons (pe_fld (pv 2) rfl) pa_nil))) pe_int (nomark _))))) (pss_one (ps_ret pe_bl)) pss_nil) (pss_one (ps_ret (pe_cmpR op_eq (pe_op op_mulW (pe_fld (pv 2) rfl) (pv 1)) (pe_op op_mulW (pv 0) (pe_fld (pv 2) rfl)) (nomark _)))))), ?_⟩
    simp only [show (∀ a0 a1 a2 : V, L2.start ["_law_a", "_law_b", "_law_made"] [a0, a1, a2] = [some a0, some a1, some a2]) from fun _ _ _ => rfl, cxK]
    walk_at "go"
    refine r_isiC hv ?_
    walk_at "go"
    refine i_d (fun h => absurd h ?_) (fun _ => ?_)
    · have := (Rat.divInt a b).den_nz
      omega
    walk_at "go"
    refine k_gcd ?_
    have e1 : Int.gcd (Rat.divInt a b).num ((Rat.divInt a b).den : Int) = 1 := (Rat.divInt a b).reduced
    rw [e1]
    walk_at "go"
    refine i_In (fun h => absurd rfl h) (fun _ => ?_)
    walk_at "go"
    refine r_I ((rat_num_bd ha).mulOk hb (by decide) (by decide) (by decide)) ?_
    walk_at "go"
    refine r_I (ha.mulOk (rat_den_bd hb hb0) (by decide) (by decide) (by decide)) ?_
    walk_at "go"
    rw [rat_cross hb0]
    simpa using hq
def tryOut : D → D → Str × Str
  | .int _, .int q => if q = 0 then ("refused", "zero") else ("made", "")
  | .int _, _ => ("refused", "bottom")
  | _, _ => ("refused", "top")
def sp_try (K : PySem.W.Frag) : Sp := fun vs H Q _ => ∃ v1 v2 d1 d2, vs = [v1, v2] ∧ Is K H v1 d1 ∧ Is K H v2 d2 ∧ Dn K d1 ∧ Dn K d2 ∧ (∀ q, d2 = .int q → Bd 9000 q) ∧ ∀ v H2, Same H H2 → Is K H2 v (.tup [.str (tryOut d1 d2).1, .str (tryOut d1 d2).2]) → Q v H2
theorem sc__law_try : FnScope ["_law_a", "_law_b", "e"] ["_law_a", "_law_b"] (defScope s__law_try) := ⟨rfl, rfl, rfl, by decide +kernel, rfl, by decide +kernel, by decide +kernel⟩
theorem ok__law_try (M : Mg K mg) : Fn w K mg base 6 (He.ga K "_law_try") (sp_try K) := by
  refine fnr_of def__law_try sc__law_try (fun _ _ _ _ _ _ us hl => match us, hl with | [_, _], _ => rfl) (fun vs H Q E h => ?_) (fun cdv A outer s H vs Q E hr h => ?_)
  · obtain ⟨v1, v2, d1, d2, rfl, _⟩ := h
    rfl
  · obtain ⟨v1, v2, d1, d2, rfl, h1, h2, n1, n2, hb, hq⟩ := h
    refine ⟨_, (pss_cons (ps_try_as (i := 2) rfl rfl sc__law_try.nd rfl rfl ⟨rfl, by decide, .inl (g_NoRatio (K := K) M)⟩ (takes_of rfl rfl rfl rfl) (fun W pn xe tk pown => (pss_one (ps_expr (pe_mkW (mk_Ratio (K := K)) (ok_Ratio___init__ (K := K) M) (hr.mono (by decide)) rfl (g_Ratio (K := K) M) tk (pa_cons (pv 0) (pa_cons (pv 1) pa_nil)))))) (fun a oe cls d pn hz hf => (pss_cons (ps_if (PW.pt (pw_or (pt_not (pt_val (pe_callB (call_isX hz hf) (by rfl) (f_isinstance (K := K) M) (by decide +kernel) (pa_cons (pv 2) (pa_cons (pe_glob (v := .ref (He.ga _ "SeriesError")) rfl (g_SeriesError (K := K) M) rfl) pa_nil))))) (pw_or1 (pt_not (pt_val (pe_callB (call_isX hz hf) (by rfl) (f_isinstance (K := K) M) (by decide +kernel) (pa_cons (pv 2) (pa_cons (pe_bltn (v := .ty "ValueError") (by rfl) (f_ValueError (K := K) M) (by decide +kernel) rfl) pa_nil)))))))) (pss_one (ps_ret (pe_tup (pa_cons pe_str (pa_cons pe_str pa_nil))))) pss_nil) (pss_one (ps_ret (pe_tup (pa_cons pe_str (pa_cons (pe_xf (xf_NoRatio (K := K)) (sup_NoRatio (K := K)).1.no hz hf (pv 2)) pa_nil)))))))) (pss_one (ps_ret (pe_tup (pa_cons pe_str (pa_cons pe_str pa_nil)))))), ?_⟩
    simp only [show (∀ a0 a1 : V, L2.start ["_law_a", "_law_b", "e"] [a0, a1] = [some a0, some a1, none]) from fun _ _ => rfl, cxK]
    walk_at "go"
    have hT : ∀ w1 w2, tryOut d1 d2 = (w1, w2) → ∀ v H2, Same H H2 → Is K H2 v (.tup [.str w1, .str w2]) → Q v H2 := fun w1 w2 e v H2 s hv => hq v H2 s (by rw [e]; exact hv)
    refine new_Ratio h1 h2 n1 n2 (fun hi => ?_) (fun p hp => ⟨fun hj => ?_, fun q hq' => ⟨fun h0 => ?_, fun h0 => ⟨hb q hq', fun v H2 hs hv => ?_⟩⟩⟩)
    · have e : tryOut d1 d2 = (("refused" : Str), ("top" : Str)) := by cases d1 <;> first | rfl | cases hi
      intro d H2 hs hd
      refine r_wAs exm_NoRatio_NoRatio (fun a ha => ?_)
      dsimp only [List.set]
      walk_at "go"
      refine r_isXC hd ?_
      walk_at "go"
      refine r_isXB hd ?_
      walk_at "go"
      refine k_xf hd rfl ?_
      walk_at "go"
      exact k_tupD (.cons (.str _) (.cons (.str _) .nil)) (by show 2 ≤ 1000; decide) (fun v H3 e3 hv => hT _ _ e v H3 (hs.trans e3) hv)
    · have e : tryOut d1 d2 = (("refused" : Str), ("bottom" : Str)) := by subst hp; cases d2 <;> first | rfl | cases hj
      intro d H2 hs hd
      refine r_wAs exm_NoRatio_NoRatio (fun a ha => ?_)
      dsimp only [List.set]
      walk_at "go"
      refine r_isXC hd ?_
      walk_at "go"
      refine r_isXB hd ?_
      walk_at "go"
      refine k_xf hd rfl ?_
      walk_at "go"
      exact k_tupD (.cons (.str _) (.cons (.str _) .nil)) (by show 2 ≤ 1000; decide) (fun v H3 e3 hv => hT _ _ e v H3 (hs.trans e3) hv)
    · have e : tryOut d1 d2 = (("refused" : Str), ("zero" : Str)) := by subst hp hq'; exact if_pos h0
      intro d H2 hs hd
      refine r_wAs exm_NoRatio_NoRatio (fun a ha => ?_)
      dsimp only [List.set]
      walk_at "go"
      refine r_isXC hd ?_
      walk_at "go"
      refine r_isXB hd ?_
      walk_at "go"
      refine k_xf hd rfl ?_
      walk_at "go"
      exact k_tupD (.cons (.str _) (.cons (.str _) .nil)) (by show 2 ≤ 1000; decide) (fun v H3 e3 hv => hT _ _ e v H3 (hs.trans e3) hv)
    · have e : tryOut d1 d2 = (("made" : Str), ("" : Str)) := by subst hp hq'; exact if_neg h0
      walk_at "go"
      exact k_tupD (.cons (.str _) (.cons (.str _) .nil)) (by show 2 ≤ 1000; decide) (fun v H3 e3 hv => hT _ _ e v H3 (hs.trans e3) hv)
end
end Sx
end

section
local macro_rules | `(tactic| walk_at "sc") => `(tactic| first | exact Sx.cpow_c (by decide) (by decide) (by decide) | exact Sx.cmul_r (by decide) (by decide) | exact Sx.cmul_l (by decide) (by decide) | exact Sx.cdiv_p (by decide) (by decide) | exact Sx.cdiv_p (by omega) (by omega) | exact Sx.cmul_l (by omega) (by omega) | exact Sx.cmul_r (by omega) (by omega) | (show (0 : Int) < _; omega) | (show _ ≠ (0 : Int); omega))
local macro_rules | `(tactic| walk_at "sm") => `(tactic| first | assumption | exact Same.refl _ | (refine Sx.Same.updR ?_ (by assumption); walk_at "sm") | (refine Same.trans (H1 := ?_) ?_ (by assumption); walk_at "sm"))
local macro_rules | `(tactic| walk_at "is") => `(tactic| first | assumption | exact Sx.Is.int _ | exact Sx.Is.bl _ | exact Sx.Is.str _ | exact Sx.Is.non | (refine Sx.Is.mono ?_ (by assumption); walk_at "sm"))
local macro_rules | `(tactic| walk_at "isl") => `(tactic| first | exact Sx.IsL.nil | (refine Sx.IsL.cons (by walk_at "is") (by walk_at "isl")))
local macro_rules | `(tactic| walk_at "name") => `(tactic| first | with_reducible refine Sx.n_0 ?_ | with_reducible refine Sx.n_1 ?_ | with_reducible refine Sx.n_2 ?_ | with_reducible refine Sx.n_3 ?_ | with_reducible refine Sx.n_4 ?_ | with_reducible refine Sx.n_5 ?_ | with_reducible refine Sx.n_6 ?_ | with_reducible refine Sx.n_7 ?_ | with_reducible refine Sx.n_8 ?_ | with_reducible refine Sx.n_9 ?_ | with_reducible refine Sx.n_10 ?_ | with_reducible refine Sx.n_11 ?_ | with_reducible refine Sx.n_12 ?_)
local macro_rules | `(tactic| walk_at "g1") => `(tactic| first
  | with_reducible refine Sx.r_var rfl ?_ | with_reducible refine Sx.r_c ?_ | with_reducible refine Sx.r_op ?_ | with_reducible refine Sx.r_I0 ?_
  | with_reducible refine Sx.r_seq ?_ | with_reducible refine Sx.r_asg ?_ | walk_at "name" | with_reducible refine Sx.r_cons ?_ | with_reducible refine Sx.r_nil ?_
  | with_reducible refine Sx.r_CB ?_ | with_reducible refine Sx.r_callW ?_ | with_reducible refine Sx.r_test ?_ | with_reducible refine Sx.r_B ?_ | with_reducible refine Sx.r_bl ?_
  | with_reducible refine Sx.r_ifS ?_ | with_reducible refine Sx.r_and ?_ | with_reducible refine Sx.r_or ?_ | with_reducible refine Sx.r_not ?_
  | with_reducible refine Sx.i_T ?_ | with_reducible refine Sx.i_F ?_ | with_reducible refine Sx.i_nT ?_ | with_reducible refine Sx.i_nF ?_
  | with_reducible refine Sx.r_andV ?_ | with_reducible refine Sx.r_orV ?_ | with_reducible refine Sx.r_notV ?_ | with_reducible refine Sx.r_ifE ?_ | with_reducible refine Sx.r_chain ?_
  | with_reducible refine Sx.r_eq rfl ?_ | with_reducible refine Sx.r_ne rfl ?_ | with_reducible refine Sx.r_un ?_ | with_reducible refine Sx.r_U ?_
  | with_reducible refine Sx.r_ret ?_ | with_reducible refine Sx.r_retN ?_ | with_reducible refine Sx.r_drop ?_ | with_reducible refine Sx.r_next ?_ | with_reducible refine Sx.r_brk ?_ | with_reducible refine Sx.r_cont ?_
  | with_reducible refine Sx.r_fld ?_ | with_reducible refine Sx.r_fldS ?_ | with_reducible refine Sx.r_methW ?_ | with_reducible refine Sx.r_makeW ?_ | with_reducible refine Sx.r_tup ?_ | with_reducible refine Sx.r_lst ?_
  | with_reducible refine Sx.r_par ?_ | with_reducible refine Sx.r_two ?_ | with_reducible refine Sx.r_one ?_ | with_reducible refine Sx.r_sub ?_ | with_reducible refine Sx.r_bm ?_ | with_reducible refine Sx.r_bm0 ?_ | with_reducible refine Sx.r_sl ?_ | with_reducible refine Sx.r_part ?_ | with_reducible refine Sx.r_noPart ?_ | with_reducible refine Sx.r_exI ?_ | with_reducible refine Sx.r_mkE ?_ | with_reducible refine Sx.r_int ?_ | with_reducible refine Sx.r_abs ?_ | with_reducible refine Sx.r_gcd ?_ | with_reducible refine Sx.r_min ?_ | with_reducible refine Sx.r_max ?_ | with_reducible refine Sx.r_makeK ?_ | with_reducible refine Sx.r_xf ?_ | with_reducible refine Sx.k_isI ?_ | with_reducible refine Sx.k_fldI (by assumption) (by with_unfolding_all rfl) ?_ | with_reducible refine Sx.r_lcL ?_ | with_reducible refine Sx.r_lcT ?_ | with_reducible refine Sx.r_lcR1 ?_ | with_reducible refine Sx.r_lcR2 ?_ | with_reducible refine Sx.r_forL ?_ | with_reducible refine Sx.r_forT ?_ | with_reducible refine Sx.r_forR1 ?_ | with_reducible refine Sx.r_forR2 ?_ | (with_reducible refine Sx.r_I ?_ ?_; · walk_at "sc"))
local macro_rules | `(tactic| walk_at "s1") => `(tactic| first | walk_at "g1" | with_reducible refine Sx.r5_0 ?_ | with_reducible refine Sx.r5_1 ?_ | with_reducible refine Sx.r5_2 ?_ | with_reducible refine Sx.r5_3 ?_ | with_reducible refine Sx.r5_4 ?_ | with_reducible refine Sx.w5_1 ?_ | with_reducible refine Sx.w5_2 ?_ | with_reducible refine Sx.w5_3 ?_ | with_reducible refine Sx.w5_4 ?_)
local macro_rules | `(tactic| walk_at "st") => `(tactic| repeat walk_at "s1")
local macro_rules | `(tactic| walk_at "go") => `(tactic| repeat walk_at "g1")
local macro_rules | `(tactic| walk_at "lc") => `(tactic| (dsimp only [L2.wipe, List.map, List.set]; walk_at "go"; refine ⟨rfl, ?_⟩; try with_reducible refine Sx.r_yes ?_))

namespace Sx
open PySem PySem.Spec PyProof.Rows L2
def ds9 : List D := [.str "3", .bl true, .non, .tup [.int 1, .int 2], .lst [], .bl false, .str "", rD (3 : Int), .dic]
theorem tryOut_top {d1 d2 : D} (h : isIntD d1 = false) : tryOut d1 d2 = (("refused" : Str), ("top" : Str)) := by cases d1 <;> first | rfl | cases h
theorem tryOut_bot {p : Int} {d2 : D} (h : isIntD d2 = false) : tryOut (.int p) d2 = (("refused" : Str), ("bottom" : Str)) := by cases d2 <;> first | rfl | cases h
theorem tryOut_zero {p : Int} : tryOut (.int p) (.int 0) = (("refused" : Str), ("zero" : Str)) := rfl
theorem tryOut_made {p q : Int} (h : q ≠ 0) : tryOut (.int p) (.int q) = (("made" : Str), ("" : Str)) := if_neg h
theorem div1 {p : Int} : Rat.divInt p 1 = (p : Rat) := by rw [show (1 : Int) = ((1 : Nat) : Int) from rfl, Rat.divInt_ofNat, ← Rat.mk_eq_mkRat p 1 (by decide) (by simp)]; rfl
section
variable {w : World} {K : PySem.W.Frag} [Sy K] {mg : Str → Option Value} {base : Heap}
theorem ds9_ok {d : D} {i : Nat} (h : ds9[i]? = some d) : Dn K d ∧ isIntD d = false := by
  have hm := List.mem_of_getElem? h
  unfold ds9 at hm
  simp only [List.mem_cons, List.not_mem_nil, or_false] at hm
  rcases hm with rfl | rfl | rfl | rfl | rfl | rfl | rfl | rfl | rfl <;> exact ⟨inferInstance, rfl⟩
theorem k_try {H : Hp} {Q : VK} {E : XK} {v1 v2 : V} {d1 d2 : D} {w1 w2 : Str} (h1 : Is K H v1 d1) (h2 : Is K H v2 d2) (n1 : Dn K d1) (n2 : Dn K d2) (hb : ∀ q, d2 = .int q → Bd 9000 q) (e : tryOut d1 d2 = (w1, w2)) (k : ∀ v H2, Same H H2 → Is K H2 v (.tup [.str w1, .str w2]) → Q v H2) : sp_try K [v1, v2] H Q E :=
  ⟨v1, v2, d1, d2, rfl, h1, h2, n1, n2, hb, by rw [e]; exact k⟩
def sp_law (K : PySem.W.Frag) : Sp := fun vs H Q _ => ∃ (a : Addr) (ns : List Int), vs = [.ref a] ∧ SqL K H a (ns.map V.int) ∧ ∀ H2, Q (.bl true) H2

theorem sc_law : FnScope ["_law_script", "_law_state_here", "_law_wrong_top", "_law_wrong_bottom", "_law_factor", "_law_a", "_law_b", "_law_strange"] ["_law_script"] (defScope s_law) := ⟨rfl, rfl, rfl, by decide +kernel, rfl, by decide +kernel, by decide +kernel⟩
theorem fok_law (M : Mg K mg) {fd : FuncData} (FF : FunD K d_law.name d_law.qual (defArgs s_law) (defBody s_law) (defScope s_law) (d_law.dvs K) [] (He.fAd K d_law.at_) fd) :
    FnOk PP w K mg base (L2.CX PP w) 9 (He.fAd K d_law.at_) fd ["_law_script"] (sp_law K) := by
  refine FF.ok sc_law (fun vs H Q E h => ?_) (fun cdv A outer s H vs Q E hr h => ?_)
  · obtain ⟨a, ns, rfl, _⟩ := h
    rfl
  · obtain ⟨a, ns, rfl, ha, hq⟩ := h
    obtain ⟨fd2, F⟩ := def_Ratio___init__ (K := K)
    obtain ⟨its, kb⟩ := kb_Ratio F
    refine ⟨_, (pss_cons (ps_set (i := 1) sc_law.nd rfl (by first | exact Or.inl rfl | exact Or.inr rfl) (pe_fnW (ok__law_state (K := K) M) (hr.mono (by decide)) rfl (g__law_state (K := K) M) (kp__law_state (K := K)) (takes_of rfl rfl rfl rfl) (pa_cons (pv 0) pa_nil))) (pss_cons (ps_set (i := 2) sc_law.nd rfl (by first | exact Or.inl rfl | exact Or.inr rfl) (pe_fnW (ok__law_draw (K := K) M) (hr.mono (by decide)) rfl (g__law_draw (K := K) M) (kp__law_draw (K := K)) (takes_of rfl rfl rfl rfl) (pa_cons (pv 1) (pa_cons pe_int pa_nil)))) (pss_cons (ps_set (i := 3) sc_law.nd rfl (by first | exact Or.inl rfl | exact Or.inr rfl) (pe_fnW (ok__law_draw (K := K) M) (hr.mono (by decide)) rfl (g__law_draw (K := K) M) (kp__law_draw (K := K)) (takes_of rfl rfl rfl rfl) (pa_cons (pv 1) (pa_cons pe_int pa_nil)))) (pss_cons (ps_set (i := 4) sc_law.nd rfl (by first | exact Or.inl rfl | exact Or.inr rfl) (pe_op op_add pe_int (pe_fnW (ok__law_draw (K := K) M) (hr.mono (by decide)) rfl (g__law_draw (K := K) M) (kp__law_draw (K := K)) (takes_of rfl rfl rfl rfl) (pa_cons (pv 1) (pa_cons pe_int pa_nil))))) (pss_cons (ps_set (i := 5) sc_law.nd rfl (by first | exact Or.inl rfl | exact Or.inr rfl) (pe_op op_mulW (pv 4) (pe_fnW (ok__law_great (K := K) M) (hr.mono (by decide)) rfl (g__law_great (K := K) M) (kp__law_great (K := K)) (takes_of rfl rfl rfl rfl) (pa_cons (pv 1) pa_nil)))) (pss_cons (ps_set (i := 6) sc_law.nd rfl (by first | exact Or.inl rfl | exact Or.inr rfl) (pe_op op_mulW (pv 4) (pe_fnW (ok__law_great (K := K) M) (hr.mono (by decide)) rfl (g__law_great (K := K) M) (kp__law_great (K := K)) (takes_of rfl rfl rfl rfl) (pa_cons (pv 1) pa_nil)))) (Evl.pss_cut (ps_if (pt_cmpR op_eq (pv 6) pe_int (nomark _)) (pss_one (ps_set (i := 6) sc_law.nd rfl (by first | exact Or.inl rfl | exact Or.inr rfl) (pe_un un_neg (pv 4)))) pss_nil) (pss_cons (ps_if (PW.pt (pw_or (pt_not (pt_val (pe_fnW (ok__law_good (K := K) M) (hr.mono (by decide)) rfl (g__law_good (K := K) M) (kp__law_good (K := K)) (takes_of rfl rfl rfl rfl) (pa_cons (pv 5) (pa_cons (pv 6) (pa_cons (pe_mkW (mk_Ratio (K := K)) (ok_Ratio___init__ (K := K) M) (hr.mono (by decide)) rfl (g_Ratio (K := K) M) (takes_of rfl rfl rfl rfl) (pa_cons (pv 5) (pa_cons (pv 6) pa_nil))) pa_nil)))))) (pw_or1 (pt_not (pt_val (pe_fnW (ok__law_good (K := K) M) (hr.mono (by decide)) rfl (g__law_good (K := K) M) (kp__law_good (K := K)) (takes_of rfl rfl rfl rfl) (pa_cons (pv 5) (pa_cons pe_int (pa_cons (pe_mkW (mk_Ratio (K := K)) (ok1_Ratio (K := K) M) (hr.mono (by decide)) rfl (g_Ratio (K := K) M) (takes_of rfl rfl rfl rfl) (pa_cons (pv 5) pa_nil)) pa_nil))))))))) (pss_one (ps_ret pe_bl)) pss_nil) (pss_cons (ps_if (PW.pt (pw_or (pt_not (pt_val (pe_fnW (ok__law_good (K := K) M) (hr.mono (by decide)) rfl (g__law_good (K := K) M) (kp__law_good (K := K)) (takes_of rfl rfl rfl rfl) (pa_cons pe_int (pa_cons (pv 6) (pa_cons (pe_mkW (mk_Ratio (K := K)) (ok_Ratio___init__ (K := K) M) (hr.mono (by decide)) rfl (g_Ratio (K := K) M) (takes_of rfl rfl rfl rfl) (pa_cons pe_int (pa_cons (pv 6) pa_nil))) pa_nil)))))) (pw_or1 (pt_not (pt_val (pe_fnW (ok__law_good (K := K) M) (hr.mono (by decide)) rfl (g__law_good (K := K) M) (kp__law_good (K := K)) (takes_of rfl rfl rfl rfl) (pa_cons (pv 5) (pa_cons (pv 6) (pa_cons (pe_makeK0  (mk_Ratio (K := K)) (fok_Ratio___init__ M F) (hr.mono (by decide)) rfl (g_Ratio (K := K) M) kb passL (pk_cons (pv 6) (pk_cons (pv 5) pk_nil))) pa_nil))))))))) (pss_one (ps_ret pe_bl)) pss_nil) (pss_cons (ps_set (i := 7) sc_law.nd rfl (by first | exact Or.inl rfl | exact Or.inr rfl) (pe_lst (pa_cons pe_str (pa_cons pe_bl (pa_cons pe_non (pa_cons (pe_tup (pa_cons pe_int (pa_cons pe_int pa_nil))) (pa_cons (pe_lst pa_nil) (pa_cons pe_bl (pa_cons pe_str (pa_cons (pe_mkW (mk_Ratio (K := K)) (ok1_Ratio (K := K) M) (hr.mono (by decide)) rfl (g_Ratio (K := K) M) (takes_of rfl rfl rfl rfl) (pa_cons pe_int pa_nil)) (pa_cons pe_dnewK pa_nil))))))))))) (pss_cons (ps_if (pt_cmpR (op_neD hr.units) (pe_fnW (ok__law_try (K := K) M) (hr.mono (by decide)) rfl (g__law_try (K := K) M) (kp__law_try (K := K)) (takes_of rfl rfl rfl rfl) (pa_cons (pe_ix ix_list (pv 7) (pv 2) (fun _ _ => rfl)) (pa_cons (pv 6) pa_nil))) (pe_tup (pa_cons pe_str (pa_cons pe_str pa_nil))) (nomark _)) (pss_one (ps_ret pe_bl)) pss_nil) (pss_cons (ps_if (pt_cmpR (op_neD hr.units) (pe_fnW (ok__law_try (K := K) M) (hr.mono (by decide)) rfl (g__law_try (K := K) M) (kp__law_try (K := K)) (takes_of rfl rfl rfl rfl) (pa_cons (pe_ix ix_list (pv 7) (pv 2) (fun _ _ => rfl)) (pa_cons (pe_ix ix_list (pv 7) (pv 3) (fun _ _ => rfl)) pa_nil))) (pe_tup (pa_cons pe_str (pa_cons pe_str pa_nil))) (nomark _)) (pss_one (ps_ret pe_bl)) pss_nil) (pss_cons (ps_if (pt_cmpR (op_neD hr.units) (pe_fnW (ok__law_try (K := K) M) (hr.mono (by decide)) rfl (g__law_try (K := K) M) (kp__law_try (K := K)) (takes_of rfl rfl rfl rfl) (pa_cons (pe_ix ix_list (pv 7) (pv 2) (fun _ _ => rfl)) (pa_cons pe_int pa_nil))) (pe_tup (pa_cons pe_str (pa_cons pe_str pa_nil))) (nomark _)) (pss_one (ps_ret pe_bl)) pss_nil) (pss_cons (ps_if (pt_cmpR (op_neD hr.units) (pe_fnW (ok__law_try (K := K) M) (hr.mono (by decide)) rfl (g__law_try (K := K) M) (kp__law_try (K := K)) (takes_of rfl rfl rfl rfl) (pa_cons (pv 5) (pa_cons (pe_ix ix_list (pv 7) (pv 3) (fun _ _ => rfl)) pa_nil))) (pe_tup (pa_cons pe_str (pa_cons pe_str pa_nil))) (nomark _)) (pss_one (ps_ret pe_bl)) pss_nil) (pss_one (ps_ret (pe_and (pe_cmpR (op_eqD hr.units) (pe_fnW (ok__law_try (K := K) M) (hr.mono (by decide)) rfl (g__law_try (K := K) M) (kp__law_try (K := K)) (takes_of rfl rfl rfl rfl) (pa_cons (pv 5) (pa_cons pe_int pa_nil))) (pe_tup (pa_cons pe_str (pa_cons pe_str pa_nil))) (nomark _)) (pe_one (pe_cmpR (op_eqD hr.units) (pe_fnW (ok__law_try (K := K) M) (hr.mono (by decide)) rfl (g__law_try (K := K) M) (kp__law_try (K := K)) (takes_of rfl rfl rfl rfl) (pa_cons (pv 5) (pa_cons (pv 6) pa_nil))) (pe_tup (pa_cons pe_str (pa_cons pe_str pa_nil))) (nomark _)))))))))))))))))))), ?_⟩
    simp only [show (∀ a0 : V, L2.start ["_law_script", "_law_state_here", "_law_wrong_top", "_law_wrong_bottom", "_law_factor", "_law_a", "_law_b", "_law_strange"] [a0] = [some a0, none, none, none, none, none, none, none]) from fun _ => rfl, cxK]
    walk_at "go"
    refine ⟨a, ns, rfl, ha, fun st G s0 hn hs0 ok0 => ?_⟩
    walk_at "go"
    refine k_draw hn ok0 (by decide) (by decide) (fun r1 s1 h1 h1' ok1 => ?_)
    walk_at "go"
    refine k_draw hn ok1 (by decide) (by decide) (fun r2 s2 h2 h2' ok2 => ?_)
    walk_at "go"
    refine k_draw hn ok2 (by decide) (by decide) (fun r3 s3 h3 h3' ok3 => ?_)
    walk_at "go"
    have b4 : Bd 4 (1 + r3) := by unfold Bd; omega
    refine ⟨st, G, s3, rfl, rfl, hn, ok3, fun n1 s4 hb1 ok4 => ?_⟩
    refine r_I (b4.mulOk hb1 (by decide) (by decide) (by decide)) ?_
    have ha9 : Bd 9000 ((1 + r3) * n1) := (b4.mul hb1).up (by decide)
    revert ha9
    generalize (1 + r3) * n1 = A
    intro ha9
    walk_at "go"
    refine ⟨st, G, s4, rfl, rfl, hn, ok4, fun n2 s5 hb2 ok5 => ?_⟩
    refine r_I (b4.mulOk hb2 (by decide) (by decide) (by decide)) ?_
    have hb9 : Bd 9000 ((1 + r3) * n2) := (b4.mul hb2).up (by decide)
    revert hb9
    generalize (1 + r3) * n2 = B
    intro hb9
    walk_at "go"
    refine r_cutS (fun σ H => ∃ B : Int, σ = [some (V.ref a), some (V.ref st), some (V.int r1), some (V.int r2), some (V.int (1 + r3)), some (.int A), some (.int B), none] ∧ B ≠ 0 ∧ Bd 9000 B) ?_ ?_
    · walk_at "go"
      refine i_I (fun h => ?_) (fun h => ?_)
      · walk_at "go"
        exact ⟨_, rfl, by omega, (b4.neg).up (by decide)⟩
      · exact ⟨B, rfl, h, hb9⟩
    rintro σ' H ⟨B, rfl, hB0, hb9⟩
    walk_at "go"
    refine new_RatioI hB0 hb9 (fun v1 H1 e1 i1 => ?_)
    walk_at "go"
    refine k_good i1 ha9 hb9 hB0 ?_
    walk_at "go"
    refine new_Ratio1 (fun v2 H2 e2 i2 => ?_)
    walk_at "go"
    refine k_good (by rw [div1]; exact i2) ha9 (by unfold Bd; exact Nat.one_lt_two_pow (by decide)) (by decide) ?_
    walk_at "go"
    refine new_RatioI hB0 hb9 (fun v3 H3 e3 i3 => ?_)
    walk_at "go"
    refine k_good i3 (by unfold Bd; exact Nat.two_pow_pos _) hb9 hB0 ?_
    walk_at "go"
    refine new_RatioK hB0 hb9 (fun v4 H4 e4 i4 => ?_)
    walk_at "go"
    refine k_good i4 ha9 hb9 hB0 ?_
    walk_at "go"
    refine k_tupD (K := K) (ds := [.int 1, .int 2]) (.cons (.int _) (.cons (.int _) .nil)) (by decide) (fun v5 H5 e5 i5 => ?_)
    walk_at "go"
    refine k_lstD (K := K) .nil (by decide) (fun v6 H6 e6 i6 => ?_)
    walk_at "go"
    refine new_Ratio1 (fun v7 H7 e7 i7 => ?_)
    walk_at "go"
    refine r_dic (K := K) (fun v8 H8 e8 i8 => ?_)
    walk_at "go"
    refine k_lstD (K := K) (ds := ds9) (.cons (.str _) (.cons (.bl _) (.cons .non (.cons (i5.mono (e6.trans (e7.trans e8))) (.cons (i6.mono (e7.trans e8)) (.cons (.bl _) (.cons (.str _) (.cons (i7.mono e8) (.cons i8 .nil))))))))) (by show 9 ≤ 1000; decide) (fun v9 H9 e9 i9 => ?_)
    walk_at "go"
    refine k_ixD i9 h1 h1' (fun u1 d1 hd1 j1 => ?_)
    obtain ⟨n1, z1⟩ := ds9_ok (K := K) hd1
    walk_at "go"
    refine k_try j1 (.int _) n1 inferInstance (fun q e => by cases e; exact hb9) (tryOut_top z1) (fun w1 G1 f1 l1 => ?_)
    walk_at "go"
    refine k_tupD (K := K) (.cons (.str _) (.cons (.str _) .nil)) (by show 2 ≤ 1000; decide) (fun t1 G2 f2 m1 => ?_)
    refine r_neD (b := true) (l1.mono f2) m1 rfl rfl (by decide +kernel) (by decide +kernel) (by decide +kernel) ?_
    walk_at "go"
    have i10 := i9.mono (f1.trans f2)
    refine k_ixD i10 h1 h1' (fun u2 d2 hd2 j2 => ?_)
    obtain ⟨n2, z2⟩ := ds9_ok (K := K) hd2
    walk_at "go"
    refine k_ixD i10 h2 h2' (fun u3 d3 hd3 j3 => ?_)
    obtain ⟨n3, z3⟩ := ds9_ok (K := K) hd3
    walk_at "go"
    refine k_try j2 j3 n2 n3 (fun q e => by subst e; cases z3) (tryOut_top z2) (fun w2 G3 f3 l2 => ?_)
    walk_at "go"
    refine k_tupD (K := K) (.cons (.str _) (.cons (.str _) .nil)) (by show 2 ≤ 1000; decide) (fun t2 G4 f4 m2 => ?_)
    refine r_neD (b := true) (l2.mono f4) m2 rfl rfl (by decide +kernel) (by decide +kernel) (by decide +kernel) ?_
    walk_at "go"
    have i11 := i10.mono (f3.trans f4)
    refine k_ixD i11 h1 h1' (fun u4 d4 hd4 j4 => ?_)
    obtain ⟨n4, z4⟩ := ds9_ok (K := K) hd4
    walk_at "go"
    refine k_try j4 (.int 0) n4 inferInstance (fun q e => by cases e; exact Bd.zero) (tryOut_top z4) (fun w3 G5 f5 l3 => ?_)
    walk_at "go"
    refine k_tupD (K := K) (.cons (.str _) (.cons (.str _) .nil)) (by show 2 ≤ 1000; decide) (fun t3 G6 f6 m3 => ?_)
    refine r_neD (b := true) (l3.mono f6) m3 rfl rfl (by decide +kernel) (by decide +kernel) (by decide +kernel) ?_
    walk_at "go"
    have i12 := i11.mono (f5.trans f6)
    refine k_ixD i12 h2 h2' (fun u5 d5 hd5 j5 => ?_)
    obtain ⟨n5, z5⟩ := ds9_ok (K := K) hd5
    walk_at "go"
    refine k_try (.int A) j5 inferInstance n5 (fun q e => by subst e; cases z5) (tryOut_bot z5) (fun w4 G7 f7 l4 => ?_)
    walk_at "go"
    refine k_tupD (K := K) (.cons (.str _) (.cons (.str _) .nil)) (by show 2 ≤ 1000; decide) (fun t4 G8 f8 m4 => ?_)
    refine r_neD (b := true) (l4.mono f8) m4 rfl rfl (by decide +kernel) (by decide +kernel) (by decide +kernel) ?_
    walk_at "go"
    refine k_try (.int A) (.int 0) inferInstance inferInstance (fun q e => by cases e; exact Bd.zero) tryOut_zero (fun w5 G9 f9 l5 => ?_)
    walk_at "go"
    refine k_tupD (K := K) (.cons (.str _) (.cons (.str _) .nil)) (by show 2 ≤ 1000; decide) (fun t5 G10 f10 m5 => ?_)
    refine r_eqD (b := true) (l5.mono f10) m5 rfl rfl (by decide +kernel) (by decide +kernel) (by decide +kernel) ?_
    walk_at "go"
    refine k_try (.int A) (.int B) inferInstance inferInstance (fun q e => by cases e; exact hb9) (tryOut_made hB0) (fun w6 G11 f11 l6 => ?_)
    walk_at "go"
    refine k_tupD (K := K) (.cons (.str _) (.cons (.str _) .nil)) (by show 2 ≤ 1000; decide) (fun t6 G12 f12 m6 => ?_)
    refine r_eqD (b := true) (l6.mono f12) m6 rfl rfl (by decide +kernel) (by decide +kernel) (by decide +kernel) ?_
    walk_at "go"
    exact hq _
end
end Sx
end

namespace Sx
open PySem PySem.Spec PyProof.Rows L2
abbrev R : PySem.W.OpenRow := PySem.W.OpenLaw.row PySem.Challenge.rw_seriessquares_k01_ratio_made
abbrev hk : PySem.W.Hook := hookM 4 fa fn fz
def ob (s : PySem.W.SharedT) : AlM := obsMG 4 fa fn fz (HandSHeadRun.getT s)
theorem ob_eq (s : PySem.W.SharedT) : ob s = hk.obs s.abs := obsMG_eq (HandSHeadRun.getT_eq s)
theorem run (w : World) : GH.RunEqG R (PySem.W.view R.prog [18]) hk ob 4000 4000 loose w := by
  show (_ : Option _) = _
  kernel_rfl
theorem facts {w : World} {K : PySem.W.Frag} {h : Heap} {mg : Str → Option Value} {f : Addr} (X : K.In h) (G : h.Ns mainGlobals mg) (hfa : mg ("law" : Str) = some (.ref f)) (c : SaysM fa fn fz K) :
    ∃ fd : FuncData, (∀ (s : Shared) (v : Value), BindsTo s fd ⟨[v], []⟩ [("_law_script", v)]) ∧ ∀ base : Heap, K.In base → base.Ns mainGlobals mg → FnOk PP w K mg base (L2.CX PP w) 9 f fd ["_law_script"] (sp_law K) := by
  have : Sy K := ⟨c⟩
  have M := mg_mk X G
  obtain ⟨fd, F⟩ := def_law (K := K)
  have e := hfa.symm.trans (g_law M)
  cases e
  have b := FunD.bindsA (ps := ["_law_script"]) F fun _ _ _ _ _ _ us hl => match us, hl with | [_], _ => rfl
  exact ⟨fd, fun s v => b s [v] rfl, fun base _ _ => fok_law M F⟩
end Sx
open PySem PySem.W PySem.Calls PyProof.Rows
theorem PySem.Challenge.cw_seriessquares_k01_ratio_made_holds : PySem.Challenge.rw_seriessquares_k01_ratio_made.Holds := by
  w_on; o_law
  refine GH.head_anyG (r := OpenLaw.row PySem.Challenge.rw_seriessquares_k01_ratio_made) (q := view (OpenLaw.row PySem.Challenge.rw_seriessquares_k01_ratio_made).prog [18]) (H := Sx.hk) (ob := Sx.ob) (M1 := 4000) (M2 := 4000) (loose := Sx.loose) (d := HandSHeadRun.topDef (OpenLaw.row PySem.Challenge.rw_seriessquares_k01_ratio_made).prog 18) (kwd := []) Sx.ob_eq
    Sx.run (by kernel_rfl) (by kernel_rfl) (by kernel_rfl) (by rfl) (by first | assumption | decide +kernel) (by decide +kernel) ⟨rfl, rfl, rfl, rfl, rfl, by decide +kernel⟩ ?hw ?hc
  case hw => w_witness2
  case hc =>
    refine Sx.walk_x (law := PySem.Challenge.rw_seriessquares_k01_ratio_made) (lim := 63) (lev := 9) (x := "_law_script") rfl (by decide) (by kernel_rfl) ⟨rfl, by decide, by decide⟩ ?F
    intro w mg fa h Y G hmg0
    obtain ⟨K, KX, c⟩ := Y
    have hmg : mg ("law" : PySem.Str) = some (.ref fa) := by
      have e : (HandSHeadRun.topDef (OpenLaw.row PySem.Challenge.rw_seriessquares_k01_ratio_made).prog 18).name = ("law" : PySem.Str) := by kernel_rfl
      rw [← e]
      exact hmg0
    obtain ⟨fd, hb, hF⟩ := Sx.facts (w := w) KX G hmg c
    exact ⟨K, fd, Sx.sp_law K, KX, hb, fun H a ns hl hS => ⟨a, ns, rfl, hS, fun _ => rfl⟩, hF⟩
